import PyProof.Rows.All
import Wide.All
import OpenK.AllK
import Wide.FinOn
import Open.Tops
import PySem.Fast.Str
import PySem.Syntax
import PyProof.TableCode
import Lean
import PySem.Challenge.RW_sj0021_01
set_option maxRecDepth 100000
set_option linter.all false
set_option tactic.hygienic false
set_option autoImplicit true
set_option genSizeOf false
set_option genInjectivity false
set_option Elab.async false
set_option maxHeartbeats 0
set_option bootstrap.genMatcherCode false
namespace Internal
open Bool renaming and_eq_true->Gq,and_eq_true_iff->EF,and_false->qU,false_ne_true->rU,noConfusion->QI,or_eq_true_iff->QL,false->A1,true->U
open False renaming elim->EQ
open ForInStep renaming yield->S7
open Int renaming add_le_add_right->yJ,add_nonneg->nU,add_sub_cancel->gE,eq_ofNat_of_zero_le->Ov,le_antisymm->En,le_of_eq->Eg,le_of_lt->Yb,le_of_sub_nonneg->US,le_refl->ef,le_trans->Xi,lt_trans->fu,natCast_nonneg->CU,not_le->Mu,not_lt->Ie,ofNat->Dl,ofNat_le->DM,ofNat_lt->Kf,self_le_toNat->Np,sub_eq_add_neg->nS,sub_eq_iff_eq_add'->gP,sub_nonneg_of_le->nV,toNat_of_nonneg->S6,zero_add->ee
open Int.ofNat renaming inj->xm
open List renaming all_cons->nY,all_eq_true->Gm,append_assoc->PM,append_nil->Oc,contains_iff_mem->VA,drop->aJ,drop_eq_getElem_cons->rR,drop_eq_nil_of_le->rS,eq_nil_of_length_eq_zero->abf,filterMap_cons->uM,find?_cons->fT,forIn_cons->S8,getD_eq_getElem?_getD->Lf,getElem?_append_left->JQ,getElem?_append_right->JT,getElem?_cons_succ->jr,getElem?_eq_getElem->DP,getElem?_eq_none->SA,getElem?_eq_none_iff->Yh,getElem?_eq_some_iff->Dd,getElem?_map->GY,getElem?_range->Yg,getElem?_set_ne->Xz,getElem?_set_self->LS,getElem?_toArray->Uu,getElem_map->iY,getElem_mem->Si,isEmpty_iff->iF,length->I,length_append->El,length_cons->er,length_eq_zero_iff->xd,length_map->Ce,length_set->La,length_take->qk,lookup_cons->Qh,map_append->Gg,map_congr_left->Yo,map_cons->Hw,map_map->Qn,mem_append->EY,mem_append_left->Im,mem_append_right->IG,mem_cons->D4,mem_cons_of_mem->DV,mem_cons_self->D0,mem_filter->Se,mem_flatMap->wA,mem_iff_getElem?->UX,mem_map->Eh,mem_map_of_mem->Wl,mem_of_find?_eq_some->ac8,mem_of_getElem?->HE,mem_or_eq_of_mem_set->kq,mem_range->Xh,mem_singleton->EK,nil_append->r5,nodup_append->Vy,nodup_cons->SN,nodup_nil->V4,not_mem_nil->Hz,of_mem_zip->gg,range->Ey,range'->Ll,replicate->E3,set_set->bQ,size_toArray->ez,take_of_length_le->g7
open List.cons renaming inj->UC
open Nat renaming add_assoc->f5,add_comm->Xp,add_le_add_left->Oq,add_le_add_right->YL,add_right_comm->J_,beq->Ct,ble->Rt,blt->Nj,blt_eq->PA,eq_of_beq_eq_true->HC,eq_zero_or_pos->oA,le_add_left->QF,le_add_right->QE,le_antisymm->Fl,le_of_ble_eq_true->LO,le_of_eq->BQ,le_of_lt->MS,le_of_lt_succ->Mv,le_of_not_lt->J1,le_refl->Ds,le_succ->SO,le_succ_of_le->ye,le_trans->Cr,lt_add_of_pos_right->bE,lt_irrefl->Xf,lt_of_le_of_lt->GH,lt_of_le_of_ne->bV,lt_of_lt_of_eq->aG,lt_of_lt_of_le->Hq,lt_of_not_le->qj,lt_of_succ_lt->Ou,lt_of_succ_lt_succ->zB,lt_succ_of_le->HT,lt_succ_of_lt->gh,lt_trans->YY,ne_of_beq_eq_false->VX,ne_of_lt->Na,not_lt->NT,not_lt_zero->Mx,sub_add_cancel->Xj,sub_self->RP,succ_le_succ->Us,succ_lt_succ->cB,succ_pos->V0,zero_add->MT,zero_le->D3
open Ne renaming symm->FU
open Option renaming isNone_iff_eq_none->uN,isSome_iff_exists->Yr,map_eq_some_iff->SP,none->AB,some->H
open Option.some renaming inj->BR
open PUnit renaming unit->LP
open Prod renaming fst->X7,snd->Rr
open PyProof.Rows renaming callWith_type->Ϯ,assignInOrder_cons->rI,joinParts_cons->gG
open PySem renaming Addr->BJ,Around->I_,DictEntry->Fz,Expr->AY,FuncData->OM,Heap->Ca,NameKind->JV,OsState->CW,Params->FF,Env->GS,Expr->Q2,Shared->BS,Stmt->CA,Value->AG,World->CO,codeAny_mono->f_,intKind_is->YI,mem_of_lookup->iX,slot_dict_contains->qJ,slot_dict_getitem->fj,strLen_append->Ox,wpAny_Compare1->Uw,wpAny_Name->Uo,wpAny_assign_Name->Sb,wpAny_bind->Ao,wpAny_callSpecial?_slot->fi,wpAny_call_entry->Ot,wpAny_holding->GX,wpAny_letTemporaryGo->q6,wpAny_list_append_plain->rT,wpAny_loadName_cell->fQ,wpAny_loadName_local->Up,wpAny_mono->HH,wpAny_newObj_type->g8,wpAny_pure->Bg,wpAny_sequenceKey->fh,wpAny_specialOf->f6,wpAny_standAt->JY,wpAny_storeName_local->rF,wpAny_truthy_bool->fk
open PySem.Arg renaming arg->Ih
open PySem.Builtin renaming bitAnd->qm
open PySem.Builtin.Int renaming intBits->aaH
open PySem.Builtin.Slice renaming sliceAdjust->qh,slicePlaces->qi
open PySem.Builtin.Tuple renaming tupleHashOf->Xo,tupleItemsOf->ų
open PySem.Calls renaming callWith_builtin->YN,evalArgs_plain->SM,spliced_cons->On,spliced_nil->SL
open PySem.Challenge renaming rw_sj0021_01->mu
open PySem.Expr.Attribute renaming elim->Φ
open PySem.Expr.BoolOp renaming elim->Θ
open PySem.Expr.Compare renaming elim->Ξ
open PySem.Expr.Constant renaming elim->n6
open PySem.Expr.FormattedValue renaming elim->ζ
open PySem.Expr.JoinedStr renaming elim->ε
open PySem.Expr.ListComp renaming elim->δ
open PySem.Expr.Name renaming elim->XM
open PySem.Expr.Subscript renaming elim->Ψ
open PySem.Expr.Tuple renaming elim->oM
open PySem.Expr.UnaryOp renaming elim->n7
open PySem.F renaming plainAttrs_dict->qg,slot_dict_get->fm,slot_int_rmul->gB,slot_tuple_getitem->fy,slot_dict_keyiterator_iter->ack
open PySem.Heap renaming ExtBut->Ig,SameBut->Hr,get?_push_of_some->GW,get?_push_size->J6,lt_size->NQ,size_push->Ur
open PySem.Heap.IsSliceOf renaming new->aaA
open PySem.Heap.SameBut renaming update->ac3
open PySem.NameKind renaming free->MX
open PySem.Obj renaming mapSeq->gm
open PySem.PyData renaming keyHash->XJ
open PySem.Stmt.Assign renaming elim->mz
open PySem.Stmt.AugAssign renaming elim->ada
open PySem.Stmt.Return renaming elim->ac9
open PySem.Str renaming ofString->O_
open PySem.Value renaming int->Un,none->NX,ref->MF
open PySem.Value.ref renaming inj->qG
open PySem.W renaming getL->QT,putL->Sp,boot_heap->ME
open PySem.W.WShape renaming hasItems->î
open Unit renaming unit->Qa
universe u v
@[elab_as_elim] theorem ò{α:Sort u}{a b:α}{P:α->Prop}(h:a=b)(k:P b):P a:=Eq.ndrec (motive:=P) k (Eq.symm h)
@[elab_as_elim] theorem ó{α:Sort u}{a b:α}{P:α->Prop}(h:a=b)(k:P a):P b:=Eq.ndrec (motive:=P) k h
theorem ô{a b:Prop}(h:a↔b)(k:b):a:=Iff.mpr h k
theorem õ{a b:Prop}(h:a↔b)(k:a):b:=Iff.mp h k
theorem aop{A CN G:Prop}(h:A/\CN)(k:A->CN->G):G:=And.elim k h
theorem aoq{A CN C G:Prop}(h:A/\CN/\C)(k:A->CN->C->G):G:=k h.1 h.2.1 h.2.2
theorem aor{A CN C D G:Prop}(h:A/\CN/\C/\D)(k:A->CN->C->D->G):G:=k h.1 h.2.1 h.2.2.1 h.2.2.2
theorem aos{A CN C D E G:Prop}(h:A/\CN/\C/\D/\E)(k:A->CN->C->D->E->G):G:=k h.1 h.2.1 h.2.2.1 h.2.2.2.1 h.2.2.2.2
theorem N9{α:Sort u}{p:α->Prop}{G:Prop}(h:∃x,p x)(k:∀x,p x->G):G:=Exists.elim h k
theorem aot{α:Sort u}{A CN:α->Prop}{G:Prop}(h:∃x,A x/\CN x)(k:∀x,A x->CN x->G):G:=N9 h λx h=>k x h.1 h.2
theorem aou{α:Sort u}{A CN C:α->Prop}{G:Prop}(h:∃x,A x/\CN x/\C x)(k:∀x,A x->CN x->C x->G):G:=N9 h λx h=>k x h.1 h.2.1 h.2.2
theorem aov{α:Sort u}{A CN C D:α->Prop}{G:Prop}(h:∃x,A x/\CN x/\C x/\D x)(k:∀x,A x->CN x->C x->D x->G):G:=N9 h λx h=>k x h.1 h.2.1 h.2.2.1 h.2.2.2
theorem aow{α:Sort u}{β:Sort v}{A:α->β->Prop}{G:Prop}(h:∃x y,A x y)(k:∀x y,A x y->G):G:=N9 h λx h=>N9 h λy h=>k x y h
theorem aox{α:Sort u}{β:Sort v}{A CN:α->β->Prop}{G:Prop}(h:∃x y,A x y/\CN x y)(k:∀x y,A x y->CN x y->G):G:=N9 h λx h=>N9 h λy h=>k x y h.1 h.2
theorem aoy{α:Sort u}{β:Sort v}{A CN C:α->β->Prop}{G:Prop}(h:∃x y,A x y/\CN x y/\C x y)(k:∀x y,A x y->CN x y->C x y->G):G:=N9 h λx h=>N9 h λy h=>k x y h.1 h.2.1 h.2.2
theorem ö{α:Type u}{a b:α}(h:H a=H b):a=b:=BR h
theorem pE{α:Type u}{β:Type v}{a c:α}{b d:β}{G:Prop}(h:(a,b)=(c,d))(k:a=c->b=d->G):G:=k (congrArg X7 h) (congrArg Rr h)
theorem ø{α:Type u}{a c:α}{b d:List α}{G:Prop}(h:a::b=c::d)(k:a=c->b=d->G):G:=k (UC h).1 (UC h).2
theorem dq{p:Prop} [Decidable p](h:decide p=U):p:=of_decide_eq_true h
theorem A4:U=U:=rfl
theorem ù{A CN C:Prop}(a:A)(b:CN)(c:C):A/\CN/\C:=⟨a,b,c⟩
theorem ú{A CN C D:Prop}(a:A)(b:CN)(c:C)(d:D):A/\CN/\C/\D:=⟨a,b,c,d⟩
theorem û{A CN C D E:Prop}(a:A)(b:CN)(c:C)(d:D)(e:E):A/\CN/\C/\D/\E:=⟨a,b,c,d,e⟩
theorem ü{α:Sort u}{A CN:α->Prop}(x:α)(a:A x)(b:CN x):∃x,A x/\CN x:=⟨x,a,b⟩
theorem ý{α:Sort u}{A CN C:α->Prop}(x:α)(a:A x)(b:CN x)(c:C x):∃x,A x/\CN x/\C x:=⟨x,a,b,c⟩
theorem þ{α:Sort u}{A CN C D:α->Prop}(x:α)(a:A x)(b:CN x)(c:C x)(d:D x):∃x,A x/\CN x/\C x/\D x:=⟨x,a,b,c,d⟩
theorem ÿ{α:Sort u}{β:Sort v}{A:α->β->Prop}(x:α)(y:β)(a:A x y):∃x y,A x y:=⟨x,y,a⟩
theorem Ā{α:Sort u}{β:Sort v}{A CN:α->β->Prop}(x:α)(y:β)(a:A x y)(b:CN x y):∃x y,A x y/\CN x y:=⟨x,y,a,b⟩
theorem ā{α:Sort u}{β:Sort v}{A CN C:α->β->Prop}(x:α)(y:β)(a:A x y)(b:CN x y)(c:C x y):∃x y,A x y/\CN x y/\C x y:=⟨x,y,a,b,c⟩
section
open Lean
set_option compiler.extract_closed false
def MB(k:Name)(a:Array Syntax):Syntax:=.node .none k a
def Cd(s:String):Syntax:=.atom .none s
def I9(n:Name):Syntax:=mkIdent n
def Dy(a:Array Syntax):Syntax:=MB `null a
def EA(n:String)(a:Array Syntax):Syntax:=MB (.str `Lean.Parser.Tactic n) a
def Iw(n:String)(a:Array Syntax):Syntax:=MB (.str `Lean.Parser.Term n) a
def Pw(l:List Syntax):Syntax:=EA "tacticSeq" #[EA "tacticSeq1Indented" #[Dy (l.intersperse (Cd ";")).toArray]]
def UD(l:List Syntax):Syntax:=EA "paren" #[Cd "(",Pw l,Cd ")"]
def UE(l:List Syntax):Syntax:=EA "first" #[Cd "first",Dy (l.map λt=>MB `group #[Cd "|",Pw [t]]).toArray]
def UF:Syntax:=Iw "syntheticHole" #[Cd "?",Cd "_"]
def Px(f:Syntax)(a:Array Syntax):Syntax:=Iw "app" #[f,Dy a]
def Py(f:Name)(a:Array Syntax):Syntax:=EA "refine" #[Cd "refine",Px (I9 f) a]
def X8(f:Name)(a:Array Syntax):Syntax:=EA "exact" #[Cd "exact",Px (I9 f) a]
def XA(k:String)(l:List Syntax):Syntax:=EA k #[Cd k,Dy l.toArray]
def UG(h:Syntax):Syntax:=EA "tacticTry_" #[Cd "try",Pw [XA "clear" [h]]]
def e7(t:Syntax):Syntax:=EA "withReducible" #[Cd "with_reducible",Pw [t]]
def XC(z:Syntax):Syntax:=EA "cases" #[Cd "cases",Dy #[EA "elimTarget" #[Dy #[],z]],Dy #[],Dy #[]]
def Ă(n v:Syntax):Syntax:=EA "optConfig" #[Dy #[EA "configItem" #[EA "valConfigItem" #[Cd "(",n,Cd ":=",v,Cd ")"]]]]
def ă(t:Syntax):Syntax:=Iw "byTactic" #[Cd "by",Pw [t]]
def m_:Syntax:=I9 `Zk
def e8(xs:List Syntax)(b:Syntax):Syntax:=Iw "fun" #[Cd "fun",Iw "basicFun" #[Dy xs.toArray,Dy #[],Cd "=>",b]]
def mh:Syntax:=ă (MB `tacticKernel_rfl #[Cd "kernel_rfl"])
def Ą(f:Name)(l:List Syntax):Syntax:=let h:=I9 `Zh;e8 [m_,h] (Px (I9 f) (h::mh::l).toArray)
def aoz(f:Name)(n:Nat):Syntax:=Ą f ((Ey n).map λi=>e8 (E3 (i+1) m_) mh)
def mj:Syntax:=Iw "hygienicLParen" #[Cd "(",MB `hygieneInfo #[I9 .anonymous]]
def XD(xs:Array Syntax):Syntax:=e8 xs.toList UF
def XE(t:Syntax):Syntax:=Iw "paren" #[mj,t,Cd ")"]
def aoA(t:Syntax):Syntax:=EA "refine" #[Cd "refine",Iw "typeAscription" #[mj,UF,Cd ":",Dy #[t],Cd ")"]]
def aoB(l:List Name)(k:List Syntax):Syntax:=EA "tacticRepeat_" #[Cd "repeat",Pw [UE (l.map (λn=>EA "apply" #[Cd "apply",I9 n])++k)]]
def aoC(s:Syntax)(MC:Bool):Syntax:=
 let s:=s.rewriteBottomUp λt=>t.setInfo .none
 if MC then s.setArg 0 (s[0].setArg 4 (Dy #[MB ``Parser.Command.noncomputable #[Cd "noncomputable"]])) else s
def ą(s r:Syntax):Syntax:=
 let e:=Px r[1] #[Iw "ellipsis" #[Cd ".."]]
 let(f,g):=if r[0].getNumArgs==0 then(`Internal.ò,`Internal.ô) else(`Internal.ó,`Internal.õ)
 UE [Py f #[e,UF],Py g #[e,UF],Py f #[Px (I9 `propext) #[e],UF],EA "rewriteSeq" #[Cd "rewrite",Ă (I9 `occs) (Iw "dotIdent" #[Cd ".",I9 `all]),s,Dy #[]]]
def aoD(s:Syntax):List Syntax:=s[2][1].getSepArgs.toList.map λr=>ą (EA "rwRuleSeq" #[Cd "[",Dy #[r],Cd "]"]) r
def e9(b:String)(n:Nat):List Syntax:=(Ey n).map λi=>I9 (.mkSimple (b++String.singleton (Char.ofNat (97+i))))
def XF(h:Syntax)(n:Nat):Syntax:=
 let z:=e9 "Z" n
 let l:=[z.getLast!]
 UD ([EA "injection" #[Cd "injection",h,Dy #[Cd "with",Dy z.toArray]],XA "revert" l,XA "intro" l,UG h]++z.map XC)
def mq(h:Syntax)(f:Name):Syntax:=
 let z:=e9 "Z" 2
 UD ([e7 (Py f #[h,XD z.toArray]),UG h]++z.map XC)
def aoE(h:Syntax):Syntax:=
 let e:=Px (I9 `Eq.symm) #[h]
 UE [XA "subst" [h],e7 (UE [X8 `Internal.nn #[h],X8 `Internal.nn #[e],X8 `Internal.Bp #[h],X8 `Internal.Bp #[e]]),
  UD [e7 (EA "tacticHave__" #[Cd "have",Iw "letConfig" #[Dy #[]],Iw "letDecl" #[Iw "letIdDecl" #[Iw "letId" #[I9 `Zh],Dy #[],Dy #[],Cd ":=",Px (I9 `Internal.ö) #[h]]]]),UG h,XC (I9 `Zh)],
  mq h `Internal.pE,mq h `Internal.ø,XF h 4,XF h 3,XF h 2,XF h 1,UD [EA "injection" #[Cd "injection",h,Dy #[]],EA "done" #[Cd "done"]],XC (XE h)]
def eB(p:Syntax):Syntax:=EA "rcasesPatLo" #[EA "rcasesPatMed" #[Dy #[p]],Dy #[]]
def Ć(l:List Syntax):Syntax:=MB ``Parser.Tactic.rcasesPat.tuple #[Cd "⟨",Dy ((l.map eB).intersperse (Cd ",")).toArray,Cd "⟩"]
def ć(e p:Syntax):Syntax:=EA "rcases" #[Cd "rcases",Dy #[EA "elimTarget" #[Dy #[],e]],Dy #[Cd "with",eB (MB ``Parser.Tactic.rcasesPat.paren #[Cd "(",p,Cd ")"])]]
def Ĉ(e p:Syntax):Syntax:=ć e (eB p)
def ĉ(p z:Syntax):Syntax:=EA "obtain" #[Cd "obtain",Dy #[EA "rcasesPatMed" #[Dy #[p]]],Dy #[],Dy #[Cd ":=",Dy #[z]]]
def aoF(l:List Syntax):Bool:=l.dropLast.all λp=>(p.find? λs=>s.isToken "|").isNone
def eE(z p:Syntax):Syntax×List Syntax:=
 let k:=p.getKind
 if k==``Parser.Tactic.rcasesPat.one&&p[0].getId !=`rfl then(p[0],[])
 else if k==``Parser.Tactic.rcasesPat.ignore then(z,[])
 else if k==``Parser.Tactic.rcasesPat.tuple then(z,[ĉ p z])
 else(z,[Ĉ z p])
def aoG(e:Syntax)(ps:List Syntax)(l:Name×Nat):Syntax:=
 let qs:=if l.2==ps.length then ps else ps.take (l.2-1)++[Ć (ps.drop (l.2-1))]
 let s:=e.getId.toString
 let xs:=List.zipWith eE (e9 (if s.startsWith "Z" then s else"Z") l.2) qs
 let c:=if e.isIdent&&xs.all (λx=>x.1.getId !=e.getId) then[UG e] else[]
 UD ([Py l.1 #[e,XD (xs.map (·.1)).toArray]]++c++(xs.map (·.2)).flatten)
def aoH(x:Syntax):Syntax:=EA "intro" #[Cd "intro",Dy #[x]]
def aoI(e:Syntax)(n:String)(l:List Syntax):Syntax:=
 let hy:=λ(i:Nat)=>if i==0 then e else I9 (.mkSimple (n++toString i))
 let r:Option (Syntax×List Syntax):=l.zipIdx.foldr (init:=AB) λx acc=>
  let z:=hy x.2
  match acc with
  |none=>H (eE z x.1)|some b=>
   let a:=eE (I9 (.mkSimple (n++"a"++toString x.2))) x.1
   let c:=if z.isIdent&&a.1.getId !=z.getId&&b.1.getId !=z.getId then[UG z] else[]
   H (z,[EA "focus" #[Cd "focus",Pw ([Py `Or.elim #[z,XE (XD #[a.1]),XE (XD #[b.1])]]++c++a.2++[EA "rotateLeft" #[Cd "rotate_left",Dy #[]]]++c++b.2++[EA "rotateRight" #[Cd "rotate_right",Dy #[]]])]])
 match r with
 |some (_,t::_)=>t|_=>e
def aoJ(p:Syntax):Syntax:=if p[0][0].getNumArgs==1 then p[0][0][0] else MB ``Parser.Tactic.rcasesPat.paren #[Cd "(",p,Cd ")"]
def Ċ(n:Nat)(l:List (Name×Nat)):List (Name×Nat):=l.filter λx=>x.2<=n
def ċ(l:List Syntax):Syntax:=Iw "anonymousCtor" #[Cd "⟨",Dy (l.intersperse (Cd ",")).toArray,Cd "⟩"]
def Č(ps:List Syntax)(l:Name×Nat):Syntax:=Py l.1 (if l.2==ps.length then ps.toArray else(ps.take (l.2-1)++[ċ (ps.drop (l.2-1))]).toArray)
def aoK(s:Syntax):MacroM Syntax:=
 let ps:=s[1][1].getSepArgs.toList
 if s[1].getKind==``Parser.Term.anonymousCtor&&ps.length>=3 then
  pure (UE ((Ċ ps.length [(`Internal.û,5),(`Internal.ā,5),(`Internal.þ,5),(`Internal.ú,4),(`Internal.Ā,4),(`Internal.ý,4),(`Internal.ù,3),(`Internal.ÿ,3),(`Internal.ü,3)]).map (Č ps)++[EA "refine" #[Cd "refine",XE s[1]]]))
 else Macro.throwUnsupported
end
abbrev JN:PySem.W.OpenLaw:=mu
set_option compiler.extract_closed false
local macro_rules (kind := Lean.Parser.Tactic.rewriteSeq)
  | s => if s[1][0].getNumArgs == 0 && s[3].getNumArgs == 0 && s[2][1].getNumArgs == 1 then pure (UD (aoD s)) else Lean.Macro.throwUnsupported
local macro_rules (kind := Lean.Parser.Tactic.rwSeq)
  | s => if s[1][0].getNumArgs == 0 && s[3].getNumArgs == 0 then pure (UD (aoD s ++ [EA "tacticTry_" #[Cd "try", Pw [e7 (EA "tacticRfl" #[Cd "rfl"])]]])) else Lean.Macro.throwUnsupported
local macro_rules (kind := Lean.Parser.Tactic.decide)
  | s => if s[1][0].getNumArgs == 0 then pure (UE [X8 `Nat.ne_of_beq_eq_false #[Px (I9 `Eq.refl) #[I9 `false]], X8 `Internal.dq #[I9 `Internal.A4], EA "decide" #[Cd "decide", Ă (I9 `kernel) (I9 `false)]]) else Lean.Macro.throwUnsupported
local macro_rules (kind := Lean.Parser.Tactic.cases)
  | s => let h := s[1][0][1]; if s[1].getNumArgs == 1 && s[1][0][0].getNumArgs == 0 && h.isIdent && s[2].getNumArgs == 0 && s[3].getNumArgs == 0 then pure (aoE h) else Lean.Macro.throwUnsupported
local macro_rules (kind := Lean.Parser.Tactic.obtain)
  | s =>
    let p := s[1][0][0][0]
    let qs := p[1].getSepArgs.toList
    let e := s[3][1][0]
    if p.getKind == ``Lean.Parser.Tactic.rcasesPat.tuple && s[1][0][0].getNumArgs == 1 && s[2].getNumArgs == 0 && s[3][1].getNumArgs == 1 && qs.length ≥ 2 && qs.all (fun q => q[1].getNumArgs == 0) then
      let ps := qs.map aoJ
      let n := min ps.length ((ps.findIdx? fun p => p[0].getId == `rfl).getD 99 + 2)
      pure (UE ((Ċ n [(`Internal.aos, 5), (`Internal.aov, 5), (`Internal.aoy, 5), (`Internal.aor, 4), (`Internal.aou, 4), (`Internal.aox, 4), (`Internal.aoq, 3), (`Internal.aot, 3), (`Internal.aow, 3), (`Internal.aop, 2), (`Internal.N9, 2)]).map (aoG e ps) ++ [Ĉ e p]))
    else Lean.Macro.throwUnsupported
local macro_rules (kind := Lean.Parser.Tactic.refine)
  | s => aoK s
local macro_rules (kind := Lean.Parser.Tactic.exact)
  | s => aoK s
local macro_rules (kind := Lean.Parser.Tactic.rintro)
  | s =>
    let l := s[1].getArgs.toList
    if s[2].getNumArgs == 0 && l.any (fun a => a[0].getKind == ``Lean.Parser.Tactic.rcasesPat.tuple) && l.all (fun a => a.getKind == ``Lean.Parser.Tactic.rintroPat.one) && aoF l then
      pure (UD ((l.zipIdx.map fun a => let x := eE (I9 (.mkSimple s!"Zr{a.2}")) a.1[0]; aoH x.1 :: x.2).flatten))
    else Lean.Macro.throwUnsupported
local macro_rules (kind := Lean.Parser.Tactic.rcases)
  | s =>
    let t := s[1][0]
    let p := s[2][1]
    let l := p[0][0].getSepArgs.toList
    if s[1].getNumArgs == 1 && t[0].getNumArgs == 0 && s[2].getNumArgs == 2 && p[1].getNumArgs == 0 && aoF l then
      match l with
      | [q] => if q.getKind == ``Lean.Parser.Tactic.rcasesPat.tuple then pure (ĉ q t[1]) else Lean.Macro.throwUnsupported| _ => pure (UE [aoI t[1] "Zo" l, ć t[1] p])
    else Lean.Macro.throwUnsupported
local macro_rules (kind := Lean.Parser.Tactic.show)
  | s => pure (aoA s[1])
local macro_rules (kind := «term‹_›»)
  | s => let t := s[1]; match if t.isIdent then t.getId else t[0].getId with
    | `k2 => pure (aoz `Internal.zC 2)| `k3 => pure (aoz `Internal.HV 3)| `n4 => pure (Ą `Internal.L8 (List.replicate 3 mh))| `wgs => pure (Px (I9 `Internal.apT) (t[1].getArgs ++ Array.replicate 12 mh))| _ => Lean.Macro.throwUnsupported
local macro_rules (kind := Lean.Parser.Term.tuple)
  | s => if s[1].getNumArgs == 0 then pure (ă (EA "decide" #[Cd "decide", EA "optConfig" #[Dy #[]]])) else Lean.Macro.throwUnsupported
local macro_rules (kind := Vector.«term#v[_,]»)
  | s => if s[1].getNumArgs == 0 then pure mh else pure (s[1].getSepArgs.foldr (fun x a => Px (Iw "dotIdent" #[Cd ".", I9 `AR]) #[x, a]) (Iw "dotIdent" #[Cd ".", I9 `AH]))
local macro_rules (kind := Lean.Parser.Command.declaration)
  | s => if s[0][4].getNumArgs == 0 && s.getHeadInfo matches .original .. then pure (aoC s (s[1].getKind == ``Lean.Parser.Command.definition || s[1].getKind == ``Lean.Parser.Command.abbrev)) else Lean.Macro.throwUnsupported
section
open PySem PySem.W PySem.Calls PyProof.Rows
theorem eF{a b:Bool}(x:a=U)(y:b=U):(a&&b)=U:=by rw[x,y];rfl
theorem č:mu.wellSaid=U:=by
 rw[Fast.te9446332074065402090];unfold Fast.tw9446332074065402090;repeat' (with_reducible apply eF)
 unfold Fast.tw17960256430627541270 Fast.tw2436336058641802641;repeat' (with_reducible apply eF)
 unfold Fast.tw12908688711261696721;repeat' (with_reducible apply eF)
 all_goals (as_aux_lemma=>kernel_rfl)
end
section
open PySem PySem.W PyProof.Rows
abbrev Cx:Program:=PySem.Challenge.pw_sj0021_01
def eG:Str:=Cx.main.file
abbrev NB(s:Str)(t:Nat):AG:=.str s t
abbrev IV(n:Nat):AG:=.int (Dl n) 0
def MD(l:List AG):Obj:=⟨.type "tuple",AB,.seq l.toArray 0,#[]⟩
def NC(c:AG)(l:List AG):Obj:=⟨c,AB,.fields l.toArray,#[]⟩
def Pz(l:List Fz)(e:Nat):Obj:=⟨.type "dict",AB,.dict l.toArray e,#[]⟩
def XG:List Str->Nat->List AG
 |[],_=>[]|s::r,t=>.str s t::XG r (t+1)
def XH(name qual:Str)(line args flags:Nat)(fr:Nat)(fn:Bool)(cs:Nat)(a b c:AG)(t id file:Nat):Obj:=
 NC (.type "code") [NB name t,NB qual (t+1),NB eG (t+2),IV line,IV args,IV 0,IV 0,IV flags,.ref fr,.bool fn,IV 181,.ref cs,.none,a,b,c,IV id,IV line,NB eG file]
def Ď(args:Arguments)(sc:Scope):List Str:=(sc.names.filter λ(n,k)=>k==.local||(k==.cell&&(args.args.map (·.arg)).contains n)).map (·.1)
def ď(sc:Scope):List Str:=(sc.names.filter (·.2==.cell)).map (·.1)
def XI(name qual:Str)(args:Arguments)(body:List CA)(sc:Scope)(g:Nat)(mod code:AG):OM:=
 ⟨name,qual,args,.stmts body,sc,g,[],.none,.none,.none,mod,AB,code,.none,0⟩
def mw(inl:Bool)(name qual:Str)(args:Arguments)(body:List CA)(sc:Scope)(line:Nat)(mod:AG)(n t:Nat):List Obj:=
 match inl with
 |false=>
  let vs:=Ď args sc
  let cs:=ď sc
  let id:=t+3+I vs+I cs
  [MD [],NC .none [],MD (XG vs (t+3)),MD (XG cs (t+3+I vs)),⟨.none,AB,.func (XI name qual args body sc 0 .none .none),#[]⟩,
   XH name qual line (I args.args) 3 n U (n+1) (.ref (n+2)) (.ref (n+3)) (.ref (n+4)) t id (id+1),
   ⟨.type "function",AB,.func (XI name qual args body sc 3 mod (.ref (n+5))),#[]⟩]
 |true=> [MD [],NC .none [],⟨.none,AB,.func (XI name qual args body sc 0 .none .none),#[]⟩, XH name qual line (I args.args) 3 n U (n+1) .none .none (.ref (n+2)) t (t+3) (t+4), ⟨.type "function",AB,.func (XI name qual args body sc 3 mod (.ref (n+3))),#[]⟩]
inductive ND
 |c (t:Nat)|m (t:Nat)|d (n t e:Nat) (inl:Bool)|k (n t e:Nat) (NE base:Nat) (subs:List Nat) (ms:List (Nat×Nat×Nat×Bool)) (z f:Nat)|o (e at_:Nat) (os:List Obj)
abbrev FE(P:FF)(s:Str)(t:Nat)(v:AG):Fz:=⟨XJ P s,.str s t,v⟩
def Rs{α:Type}(d:α)(k n:Nat)(f:n=k->α):α:=if h:n=k then f h else d
def Q0{α:Type}(d:α)(s:CA)(f:Str->Arguments->List CA->Scope->Pos->α):α:=Rs d 0 s.ctorIdx λh=>CA.FunctionDef.elim (motive_2:=λy=>α) s h λn a b y y y sc y y p=>f n a b sc p
def eH{α:Type}(d:α)(s:CA)(f:Str->List CA->List Str->Pos->α):α:=Rs d 2 s.ctorIdx λh=>CA.ClassDef.elim (motive_2:=λy=>α) s h λn y y b y y y y y sa p=>f n b sa p
def XK{α:Type}(d:α)(s:CA)(f:List Q2->Q2->Pos->α):α:=Rs d 5 s.ctorIdx λh=>mz (motive_2:=λy=>α) s h f
def n5{α:Type}(d:α)(x:Q2)(f:Const->α):α:=Rs d 19 x.ctorIdx λh=>n6 (motive_1:=λy=>α) x h λc y y=>f c
def Đ{α:Type}(d:α)(x:Q2)(f:Q2->α):α:=Rs d 3 x.ctorIdx λh=>n7 (motive_1:=λy=>α) x h λy x y=>f x
def eK{α:Type}(d:α)(l:List Q2)(f:Str->Pos->α):α:=match l with
 |[x]=>Rs d 23 x.ctorIdx λh=>XM (motive_1:=λy=>α) x h f|_=>d
def XN(cls:Str)(mod:AG):List CA->List (Nat×Nat×Nat×Bool)->List Obj
 |s::r,q=>Q0 (XN cls mod r q) s λname args body sc pos=>match q with
  |(n,t,_,inl)::q=>mw inl name (Str.append cls (Str.append (.ofString ".") name)) args body sc pos.line mod n t++XN cls mod r q|[]=>XN cls mod r []
 |[],_=>[]
def n8(n:Nat)(inl:Bool):Nat:=match inl with|true=>n+4|false=>n+6
def n9(n:Nat)(inl:Bool):Nat:=match inl with|true=>n+3|false=>n+5
def XO(P:FF):List CA->List (Nat×Nat×Nat×Bool)->List Fz
 |s::r,q=>Q0 (XO P r q) s λname y y y y=>match q with
  |(n,_,e,inl)::q=>FE P name e (.ref (n8 n inl))::XO P r q|[]=>XO P r []
 |[],_=>[]
def XQ:List CA->List (Nat×Nat×Nat×Bool)->List AG
 |s::r,q=>Q0 (XQ r q) s λy y y y pos=>match q with
  |(n,_,_,inl)::q=>IV pos.line::IV pos.col::.ref (n9 n inl)::XQ r q|[]=>XQ r []
 |[],_=>[]
def UH:AG:=.type "object"
def đ(P:FF)(lim:Nat)(name:Str)(body:List CA)(sa:List Str)(line:Nat)(mod:AG)(n t:Nat)(NE base:Nat)(subs:List Nat)(ms:List (Nat×Nat×Nat×Bool))(z f:Nat):List Obj:=
 let q:=t+8
 let e0:=FE P (.ofString "__module__") (t+7) mod
 let e1:=FE P (.ofString "__qualname__") (t+9) (NB name q)
 let e2:=FE P (.ofString "__firstlineno__") (t+11) (.int (Dl line) (t+10))
 let es:=XO P body ms
 let g:=f+I sa
 let e3:=FE P (.ofString "__static_attributes__") g (.ref z)
 let me:=z+2
 let sup:=[NC (.type "super") [.ref me,.ref me,.ref me],NC (.type "builtin_function_or_method") [.builtin "object.__init_subclass__",.ref me]]
 let bases:List AG:=match NE with|0=>[UH]|1=>[.type "Exception"]|_=>[.ref base]
 let mro:List AG:=match NE with|0=>[.ref me,UH]|1=>[.ref me,.type "Exception",.type "BaseException",UH]|2=>[.ref me,.ref base,UH]|_=>[.ref me,.ref base,.type "Exception",.type "BaseException",UH]
 let new:AG:=match NE with|0|2=>.builtin "object.__new__"|_=>.builtin "Exception.__new__"
 let cls:Obj:=⟨.type "type",AB,.cls ⟨name,bases,mro,z+1,name,U,[],(subs.filter (λx=>Rt x lim)).map .ref,A1,AB,A1⟩,
  #[match NE with|0=>AB|_=>H (.ref n),AB,H (NB name t),H (NB name q),H new,H (.bool U)]⟩
 let gs (s:Str) (t:Nat) (a b:AG):Obj:=NC (.type "getset_descriptor") [NB s t,.ref me,a,b]
 let nA:Str:=.ofString "__dict__"
 let XR:Str:=.ofString "__weakref__"
 let eL:Str:=.ofString "__doc__"
 let nB:AG:=.builtin "ExceptionGroup.__weakref__"
 [MD (match NE with|0=>[]|_=>bases),NC (.type "builtin_function_or_method") [.builtin "type.__prepare__",.type "type"],
  Pz (e0::e1::e2::es++[e3]) (4+I es),MD [],NC .none (XQ body ms),XH name name line 0 0 (n+3) A1 (n+4) .none .none .none (t+2) (t+5) (t+6),
  ⟨.type "frame",AB,.plain,#[H (.ref (n+5)),H (.ref 3),H (.ref (n+2)),AB,H mod,AB,H (.ref 0)]⟩]++XN name mod body ms++
 [MD (XG sa f)]++(match NE with
  |0=>[Pz (e0::e2::es++[e3,FE P nA (g+2) (.ref (z+3)),FE P XR (g+4) (.ref (z+4)),FE P eL (g+5) .none]) 4,cls, gs nA (g+1) (.builtin "function.__dict__") (.builtin "function.__dict__#set"),gs XR (g+3) nB .none]|1=>[Pz (e0::e2::es++[e3,FE P XR (g+2) (.ref (z+3)),FE P eL (g+3) .none]) 3,cls,gs XR (g+1) nB .none]|_=>[Pz (e0::e2::es++[e3,FE P eL (g+1) .none]) 2,cls])++sup
def nC(x:Q2)(t:Nat):AG:=n5 (Đ .none x λy=>n5 .none y λc=>match c with
  |.int i=>.int (-i) (t+1)|_=>.none) x λc=>match c with
 |.int i=>.int i t|.str s=>.str s t|_=>.none
def Ē(x:Q2)(t:Nat):Nat:=match Ct x.ctorIdx 3 with
 |true=>t+2|false=>t+1
def ē(P:FF)(lim:Nat)(r:ND)(s:CA)(mod:AG):List Obj:=match r with
 |.d n t _ inl=>Q0 [] s λname args body sc pos=>mw inl name name args body sc pos.line mod n t|.k n t _ NE base subs ms z f=>eH [] s λname body sa pos=>đ P lim name body sa pos.line mod n t NE base subs ms z f|.o _ _ os=>os|_=>[]
def Ĕ(P:FF)(r:ND)(s:CA):List Fz:=match r with
 |.c t=>XK [] s λl v y=>eK [] l λs y=>[FE P s (Ē v t) (nC v t)]|.d n _ e inl=>Q0 [] s λname y y y y=>[FE P name e (.ref (n8 n inl))]|.k _ _ e _ _ _ _ z _=>eH [] s λname y y y=>[FE P name e (.ref (z+2))]|.o e a _=>XK [] s λl y y=>eK [] l λs y=>[FE P s e (.ref a)]|_=>[]
def ĕ(r:ND)(s:CA):List AG:=match r with
 |.d n _ _ inl=>Q0 [] s λy y y y pos=>[IV pos.line,IV pos.col,.ref (n9 n inl)]|.k n _ _ _ _ _ _ _ _=>eH [] s λy y y pos=>[IV pos.line,IV pos.col,.ref (n+5)]|_=>[]
def nD(r:ND)(s:CA)(m:AG):AG:=match r with
 |.m t=>XK m s λy v y=>nC v t|_=>m
def nE(P:FF)(lim:Nat):List ND->List CA->AG->List Obj
 |r::rs,s::ss,m=>ē P lim r s m++nE P lim rs ss (nD r s m)|_,_,_=>[]
def nF(P:FF):List ND->List CA->List Fz
 |r::rs,s::ss=>Ĕ P r s++nF P rs ss|_,_=>[]
def nG:List ND->List CA->List AG
 |r::rs,s::ss=>ĕ r s++nG rs ss|_,_=>[]
def nH:List ND->List CA->AG->AG
 |r::rs,s::ss,m=>nH rs ss (nD r s m)|_,_,m=>m
def tI(l:List (Nat×Nat)):Obj:=MD (l.map λ(a,b)=>.int (Dl a) b)
def D6(l:List Nat):Obj:=MD (l.map .ref)
def XS(e:Nat)(l:List (Nat×Nat×Nat)):Obj:=Pz (l.map λ(a,b,c)=>⟨Dl a,.int (Dl a) b,.ref c⟩) e
def eN(e:Nat)(l:List (Nat×Nat×Nat×Nat)):Obj:=Pz (l.map λ(a,b,c,d)=>⟨Dl a,.int (Dl a) b,.int (Dl c) d⟩) e
section
local macro_rules (kind := num)
  | s => pure (MB `rawNatLit #[Cd "nat_lit", s])
def XT:List ND:=[
 .m 187,
 .k 15 189 219 1 0 [44,56] [(22,201,209,A1)] 29 210,
 .k 35 220 235 3 31 [] [] 42 232,
 .k 47 236 251 3 31 [] [] 54 248,
 .m 252,
 .c 254,
 .c 256,
 .c 258,
 .c 260,
 .c 262,
 .c 264,
 .c 266,
 .c 268,
 .c 270,
 .c 272,
 .c 274,
 .c 276,
 .c 278,
 .c 280,
 .c 282,
 .c 284,
 .c 286,
 .c 288,
 .c 290,
 .c 292,
 .c 294,
 .c 296,
 .c 298,
 .c 300,
 .c 302,
 .c 304,
 .c 306,
 .c 308,
 .c 310,
 .o 340 59 [eN 14 [(0,254,20,312),(1,256,9,313),(2,258,10,314),(3,260,11,315),(4,262,12,316),(5,264,13,317),(6,266,14,318),(7,268,15,319),(8,270,16,320),(9,272,17,321),(10,274,18,322),(11,276,19,323),(12,278,1,324),(13,280,4,325)]],
 .o 369 60 [eN 14 [(20,341,0,254),(9,342,1,256),(10,343,2,258),(11,344,3,260),(12,345,4,262),(13,346,5,264),(14,347,6,266),(15,348,7,268),(16,349,8,270),(17,350,9,272),(18,351,10,274),(19,352,11,276),(1,353,12,278),(4,354,13,280)]],
 .c 370,
 .c 372,
 .k 61 374 430 0 0 [] [(68,386,394,A1),(75,395,402,A1),(82,403,417,A1)] 89 418,
 .d 96 431 438 A1,
 .d 103 439 445 A1,
 .d 110 446 452 A1,
 .d 117 453 462 A1,
 .d 124 463 470 A1,
 .d 131 471 479 A1,
 .d 138 480 488 A1,
 .d 145 489 497 A1,
 .d 152 498 505 A1,
 .d 159 506 513 A1,
 .d 166 514 521 A1,
 .d 173 522 530 A1,
 .d 180 531 539 A1,
 .d 187 540 547 A1,
 .d 194 548 556 A1,
 .d 201 557 566 A1,
 .d 208 567 580 A1,
 .d 215 581 590 A1,
 .d 222 591 598 A1,
 .d 229 599 607 A1,
 .d 236 608 619 A1,
 .m 620,
 .k 243 622 673 0 0 [] [(250,634,640,A1),(257,641,650,A1),(264,651,658,A1),(271,659,664,U)] 276 665,
 .m 674,
 .c 676,
 .c 678,
 .c 680,
 .c 682,
 .c 684,
 .c 686,
 .c 688,
 .c 690,
 .c 692,
 .c 694,
 .c 696,
 .c 698,
 .c 700,
 .c 702,
 .c 704,
 .c 706,
 .c 708,
 .c 710,
 .c 712,
 .c 714,
 .c 716,
 .c 718,
 .c 720,
 .c 722,
 .c 724,
 .c 726,
 .c 728,
 .c 730,
 .c 732,
 .c 734,
 .c 736,
 .c 738,
 .c 740,
 .c 742,
 .c 744,
 .c 746,
 .c 748,
 .c 750,
 .c 752,
 .c 754,
 .c 756,
 .c 758,
 .c 760,
 .c 762,
 .c 764,
 .c 766,
 .c 768,
 .c 770,
 .c 772,
 .c 774,
 .c 776,
 .c 778,
 .c 780,
 .c 782,
 .c 784,
 .c 786,
 .o 857 283 [XS 28 [(4,682,285),(6,684,288),(7,686,290),(8,688,293),(9,690,295),(10,692,297),(11,694,299),(13,696,301),(14,698,304),(15,700,307),(16,702,310),(17,704,314),(18,706,317),(19,708,319),(20,710,321),(21,712,323),(22,714,326),(23,716,330),(25,718,332),(26,720,334),(27,722,337),(28,724,339),(30,726,341),(31,728,344),(33,730,346),(34,732,349),(35,734,351),(36,736,353)],tI [(2,788),(1,782)],D6 [284],tI [(2,790),(1,782)],tI [(3,791),(1,782)],D6 [286,287],tI [(2,793),(1,782)],D6 [289],tI [(2,795),(2,784)],tI [(4,796),(3,786)],D6 [291,292],tI [(3,798),(3,786)],D6 [294],tI [(2,800),(1,782)],D6 [296],tI [(2,802),(3,786)],D6 [298],tI [(3,804),(1,782)],D6 [300],tI [(3,806),(1,782)],tI [(4,807),(1,782)],D6 [302,303],tI [(2,809),(1,782)],tI [(3,810),(1,782)],D6 [305,306],tI [(2,812),(1,782)],tI [(3,813),(1,782)],D6 [308,309],tI [(2,815),(1,782)],tI [(3,816),(1,782)],tI [(4,817),(1,782)],D6 [311,312,313],tI [(2,819),(1,782)],tI [(3,820),(1,782)],D6 [315,316],tI [(2,822),(1,782)],D6 [318],tI [(2,824),(1,782)],D6 [320],tI [(2,826),(1,782)],D6 [322],tI [(2,828),(1,782)],tI [(3,829),(1,782)],D6 [324,325],XS 11 [(23,716,330),(25,718,332),(26,720,334),(27,722,337),(28,724,339),(30,726,341),(31,728,344),(33,730,346),(34,732,349),(35,734,351),(36,736,353)],tI [(2,831),(1,782)],tI [(3,832),(1,782)],D6 [328,329],tI [(2,833),(2,784)],D6 [331],tI [(2,834),(3,786)],D6 [333],tI [(3,835),(1,782)],tI [(4,836),(1,782)],D6 [335,336],tI [(3,837),(1,782)],D6 [338],tI [(2,838),(1,782)],D6 [340],tI [(2,839),(3,786)],tI [(3,840),(1,782)],D6 [342,343],tI [(2,841),(1,782)],D6 [345],tI [(2,842),(2,784)],tI [(5,843),(3,786)],D6 [347,348],tI [(3,844),(3,786)],D6 [350],tI [(2,845),(2,784)],D6 [352]],
 .o 885 354 [XS 13 [(1,740,356),(2,742,358),(4,746,360),(5,748,362),(6,750,364),(7,752,366),(8,754,368),(12,758,370),(13,760,372),(15,764,375),(16,766,377),(22,772,379),(23,774,381)],tI [(1,858),(1,782)],D6 [355],tI [(2,859),(2,784)],D6 [357],tI [(1,860),(1,782)],D6 [359],tI [(1,861),(1,782)],D6 [361],tI [(2,862),(1,782)],D6 [363],tI [(2,863),(2,784)],D6 [365],tI [(2,864),(1,782)],D6 [367],tI [(1,865),(2,784)],D6 [369],tI [(1,866),(2,784)],D6 [371],tI [(2,867),(1,782)],tI [(3,868),(2,784)],D6 [373,374],tI [(1,869),(1,782)],D6 [376],tI [(1,870),(1,782)],D6 [378],tI [(1,871),(1,782)],D6 [380]],
 .o 903 382 [XS 7 [(3,744,384),(4,746,387),(5,748,389),(6,750,391),(7,752,395),(8,754,397),(15,764,399)],tI [(1,886),(3,786)],D6 [383],tI [(2,887),(1,782)],tI [(3,888),(2,784)],D6 [385,386],tI [(2,889),(1,782)],D6 [388],tI [(1,890),(1,782)],D6 [390],tI [(1,891),(3,786)],tI [(4,892),(1,782)],tI [(3,893),(3,786)],D6 [392,393,394],tI [(3,894),(1,782)],D6 [396],tI [(4,895),(1,782)],D6 [398]],
 .k 400 904 942 0 0 [] [(407,916,927,A1)] 414 928,
 .k 421 943 984 0 0 [] [(428,955,965,A1)] 435 966,
 .k 442 985 1022 0 0 [] [(449,997,1005,A1)] 456 1006,
 .d 463 1023 1033 A1,
 .d 470 1034 1045 A1,
 .d 477 1046 1057 A1,
 .d 484 1058 1064 A1,
 .d 491 1065 1077 A1,
 .c 1078,
 .c 1080,
 .c 1082,
 .c 1084,
 .c 1086,
 .m 1088,
 .c 1090,
 .c 1092,
 .c 1094,
 .c 1096,
 .c 1098,
 .c 1100,
 .c 1102,
 .c 1104,
 .c 1106,
 .c 1108,
 .c 1110,
 .c 1112,
 .c 1114,
 .c 1116,
 .c 1118,
 .c 1120,
 .c 1122,
 .c 1124,
 .c 1126,
 .c 1128,
 .k 498 1130 1183 0 0 [] [(505,1142,1156,A1)] 512 1157,
 .k 519 1184 1223 0 0 [] [(526,1196,1208,A1)] 533 1209,
 .k 540 1224 1271 0 0 [] [(547,1236,1249,A1)] 554 1250,
 .k 561 1272 1306 0 0 [] [(568,1284,1294,A1)] 575 1295,
 .k 582 1307 1340 0 0 [] [(589,1319,1325,A1)] 596 1326,
 .d 603 1341 1349 A1,
 .d 610 1350 1357 A1,
 .d 617 1358 1365 A1,
 .d 624 1366 1380 A1,
 .d 631 1381 1389 A1,
 .d 638 1390 1400 A1,
 .d 645 1401 1414 A1,
 .d 652 1415 1421 A1,
 .d 659 1422 1436 A1,
 .d 666 1437 1446 A1,
 .d 673 1447 1462 A1,
 .d 680 1463 1469 A1,
 .m 1470,
 .k 687 1472 1507 0 0 [1073] [(694,1484,1491,A1),(701,1492,1499,A1)] 708 1500,
 .d 715 1508 1513 U,
 .d 720 1514 1525 A1,
 .d 727 1526 1537 A1,
 .d 734 1538 1543 U,
 .d 739 1544 1551 A1,
 .k 746 1552 1587 0 0 [] [(753,1564,1574,A1)] 760 1575,
 .d 767 1588 1593 U,
 .d 772 1594 1603 A1,
 .d 779 1604 1613 A1,
 .d 786 1614 1621 A1,
 .k 793 1622 1650 0 0 [] [(800,1634,1642,A1)] 807 1643,
 .m 1651,
 .c 1653,
 .k 814 1656 1695 0 0 [1026] [(821,1668,1678,A1),(828,1679,1687,A1)] 835 1688,
 .k 842 1696 1758 0 0 [] [(849,1708,1718,A1),(856,1719,1726,A1),(863,1727,1733,A1)] 870 1734,
 .d 877 1759 1765 A1,
 .d 884 1766 1773 A1,
 .d 891 1774 1783 A1,
 .d 898 1784 1791 A1,
 .d 905 1792 1799 A1,
 .d 912 1800 1809 A1,
 .d 919 1810 1816 A1,
 .d 926 1817 1824 A1,
 .d 933 1825 1833 A1,
 .d 940 1834 1844 A1,
 .d 947 1845 1855 A1,
 .d 954 1856 1867 A1,
 .d 961 1868 1876 A1,
 .d 968 1877 1885 A1,
 .d 975 1886 1892 A1,
 .d 982 1893 1906 A1,
 .m 1907,
 .c 1909,
 .c 1912,
 .d 989 1915 1921 A1,
 .k 996 1922 1970 2 837 [] [(1003,1934,1941,A1),(1010,1942,1952,A1),(1017,1953,1961,A1)] 1024 1962,
 .d 1029 1971 1978 A1,
 .d 1036 1979 1993 A1,
 .k 1043 1994 2037 2 710 [] [(1050,2006,2014,A1),(1057,2015,2022,A1),(1064,2023,2030,A1)] 1071 2031,
 .d 1076 2038 2046 A1,
 .d 1083 2047 2056 A1,
 .d 1090 2057 2070 A1,
 .d 1097 2071 2081 A1,
 .d 1104 2082 2087 U,
 .d 1109 2088 2098 A1,
 .d 1116 2099 2108 A1,
 .d 1123 2109 2124 A1,
 .d 1130 2125 2133 A1,
 .d 1137 2134 2143 A1,
 .d 1144 2144 2151 A1,
 .d 1151 2152 2163 A1,
 .m 2164,
 .c 2166,
 .o 2204 1158 [tI [(1,2168),(1,2169),(2,2170),(2,2171),(3,2172),(2,2173),(3,2174),(0,2175),(2,2176),(1,2177),(1,2178),(2,2179),(0,2180),(2,2181),(3,2182),(0,2183),(7,2184),(8,2185),(9,2186),(0,2187),(0,2188),(0,2189),(4,2190),(5,2191),(11,2192),(12,2193),(13,2194),(14,2195),(0,2196),(1,2197),(0,2198),(2,2199),(0,2200),(2,2201),(1,2202),(0,2203)]],
 .d 1159 2205 2214 A1,
 .d 1166 2215 2223 A1,
 .d 1173 2224 2233 A1,
 .d 1180 2234 2244 A1,
 .d 1187 2245 2258 A1,
 .d 1194 2259 2271 A1,
 .d 1201 2272 2288 A1,
 .d 1208 2289 2297 A1,
 .d 1215 2298 2315 A1,
 .d 1222 2316 2333 A1,
 .d 1229 2334 2344 A1,
 .d 1236 2345 2354 A1,
 .d 1243 2355 2360 U,
 .d 1248 2361 2366 U,
 .d 1253 2367 2372 U,
 .d 1258 2373 2378 U]
end
def KV:List CA:=Cx.main.body
def eO:AG:=.str (.ofString "__main__") 164
def Ė(P:FF)(k:Nat):Obj:=match Rt 2 k with
 |true=>⟨.none,AB,.dict #[FE P (.ofString "type.__subclasses__.Exception.0") 216 (IV 31),FE P (.ofString "type.__subclasses__.Exception.n") 217 (IV 1)] 2,#[]⟩|false=>boot_o_2 P
def ė(P:FF)(k:Nat):Obj:=
 let es:=nF P (XT.take k) KV
 Pz (FE P (.ofString "__name__") 165 (nH (XT.take k) KV eO)::FE P (.ofString "__doc__") 166 .none::FE P (.ofString "__package__") 167 .none::
  FE P (.ofString "__loader__") 168 (.builtin "__main__.__loader__#opaque")::FE P (.ofString "__spec__") 169 .none::FE P (.ofString "__annotations__") 170 (.ref 6)::
  FE P (.ofString "__builtins__") 171 (.ref 4)::FE P (.ofString "__file__") 173 (NB eG 172)::FE P (.ofString "__cached__") 174 .none::es) (9+I es)
def nI:Str:=.ofString "<module>"
def Ę(P:FF)(k n:Nat):List Obj:=
 [boot_o_0 P,boot_o_1 P,Ė P k,ė P k,boot_o_4 P,boot_o_5 P,boot_o_6 P,boot_o_7 P,boot_o_8 P,boot_o_9 P,boot_o_10 P,MD [],NC .none (nG (XT.take k) KV),
  XH nI nI 1 0 0 11 A1 12 .none .none .none 182 185 186,⟨.type "frame",AB,.plain,#[H (.ref 13),H (.ref 3),H (.ref 3),AB,H eO,AB,H (.ref 0)]⟩]++
 nE P n (XT.take k) KV eO
def nJ(l:List Obj):List Obj×List Obj:=List.rec ([],[]) (λa x ih=>(a::ih.2,ih.1)) l
def bt:Nat->List Obj->BT:=λf=>Nat.rec (λy=>.nil) (λy ih l=>List.rec .nil (λx r y=>.node x (ih (nJ r).1) (ih (nJ r).2)) l) f
def XU(P:FF)(k n:Nat):BT:=bt 12 (Ę P k n)
end
section
open PySem PySem.W PySem.Calls PyProof.Rows
abbrev eS:List CA:=behindTheImports Cx
def ON:GS:={scope:=Cx.main.scope,locals:=mainNs,globals:=mainNs,cells:=[],code:=.ref 13,frame:=H 14}
abbrev KW:Code:=.body eS ON
abbrev OO:Pos:=⟨0,0,0,0⟩
abbrev OP:List Frame:=[topFrame OO]
def NF(P:FF)(os:CW)(k n t:Nat):SharedT:=⟨XU P k n,n,{},#[],{},t,os⟩
def ę(s:CA):Pos:=XK s.pos s λl y y=>eK s.pos l λy p=>p
def OQ(k:Nat):Pos:=match k with|0=>OO|k+1=>ę ((KV.drop k).headD (.Pass OO))
abbrev nK(w:CO)(os:CW)(a m N n1 t1 b n2 t2:Nat):Prop:=
 segRunT treeTable Cx w 11 (H (.ref 6)) 1 N (NF w.params os a n1 t1) (piecesOf ((KV.drop a).take m) ON KW (OQ a) OP)=H (.next,NF w.params os b n2 t2,KW,OQ b)
abbrev GT(w:CO)(os:CW)(a m N n1 t1 b n2 t2:Nat):Prop:=
 Fast.tw10110043849684766642 Fast.tw14364793385576792824 Cx w 11 (H (.ref 6)) 1 N (NF w.params os a n1 t1) ⟨(Fast.tw12563942051412417395 ((KV.drop a).take m) ON).wrap doneF deadEnd id id,KW,OQ a,OP⟩=H (.next,NF w.params os b n2 t2,KW,OQ b)
theorem Ě{w:CO}{os:CW}{a m N n1 t1 b n2 t2:Nat}(h:GT w os a m N n1 t1 b n2 t2):nK w os a m N n1 t1 b n2 t2:=by unfold nK;rw[Fast.te10110043849684766642,Fast.te14364793385576792824,show@piecesOf=λl env c p CN=>⟨(execs l env).wrap doneF deadEnd id id,c,p,CN⟩ from rfl,Fast.te12563942051412417395];exact h
theorem ě(w:CO)(os:CW):GT w os 0 34 936 15 187 34 59 312:=#v[]
theorem Ĝ(w:CO)(os:CW):GT w os 34 1 207 59 312 35 60 341:=
 byRow2 "special-get-raises" (P:=λw=>GT w os 34 1 207 59 312 35 60 341) (λw=>#v[]) (λw=>#v[]) w
theorem ĝ(w:CO)(os:CW):GT w os 35 1 207 60 341 36 61 370:=
 byRow2 "special-get-raises" (P:=λw=>GT w os 35 1 207 60 341 36 61 370) (λw=>#v[]) (λw=>#v[]) w
theorem Ğ(w:CO)(os:CW):GT w os 36 49 1499 61 370 85 283 720:=#v[]
theorem ğ(w:CO)(os:CW):GT w os 85 34 307 283 720 119 283 788:=#v[]
theorem Ġ(w:CO)(os:CW):GT w os 119 1 709 283 788 120 354 858:=
 byRow2 "special-get-raises" (P:=λw=>GT w os 119 1 709 283 788 120 354 858) (λw=>#v[]) (λw=>#v[]) w
theorem ġ(w:CO)(os:CW):GT w os 120 1 276 354 858 121 382 886:=
 byRow2 "special-get-raises" (P:=λw=>GT w os 120 1 276 354 858 121 382 886) (λw=>#v[]) (λw=>#v[]) w
theorem Ģ(w:CO)(os:CW):GT w os 121 1 166 382 886 122 400 904:=
 byRow2 "special-get-raises" (P:=λw=>GT w os 121 1 166 382 886 122 400 904) (λw=>#v[]) (λw=>#v[]) w
theorem ģ(w:CO)(os:CW):GT w os 122 35 1345 400 904 157 519 1184:=#v[]
theorem Ĥ(w:CO)(os:CW):GT w os 157 17 1332 519 1184 174 687 1472:=#v[]
theorem ĥ(w:CO)(os:CW):GT w os 174 15 1255 687 1472 189 842 1696:=#v[]
theorem Ħ(w:CO)(os:CW):GT w os 189 24 1255 842 1696 213 1043 1994:=#v[]
theorem ħ(w:CO)(os:CW):GT w os 213 32 1283 1043 1994 245 1263 2379:=#v[]
abbrev Ĩ:Pos:=OQ 245
def Hh(P:FF):Ca:=absHeap (XU P 245 1263) 1263 {}
abbrev eT(w:CO)(os:CW):BS:=(NF w.params os 0 15 187).abs
abbrev XV(w:CO)(os:CW):BS:=(NF w.params os 245 1263 2379).abs
theorem ĩ(w:CO)(os:CW):topGo treeTable Cx w 11 (H (.ref 6)) 12 ⟨ME w.params,Array.mk [],boot_drawn,boot_toks,os⟩ (topStub Cx)=
  H (eT w os,⟨denote treeTable KW,KW,OO,OP⟩):=#v[]
theorem Ī(w:CO)(os:CW):segRun treeTable Cx w 11 (H (.ref 6)) 1 1 (eT w os) (blockOf eS ON KW OO OP)=H (.next,eT w os,KW,OO):=#v[]
theorem ī(w:CO)(os:CW):topRun treeTable Cx w 11 (H (.ref 6)) 2 (XV w os) (restOf (KV.drop 245) ON KW Ĩ OP)=H (XV w os):=#v[]
theorem Ĭ:eS=KV.drop 0:=#v[]
theorem ĭ{w:CO}{os:CW}{a m N n1 t1 b n2 t2 M:Nat}{r:BS}(hb:a+m=b)(h:GT w os a m N n1 t1 b n2 t2)
  (k:topRun treeTable Cx w 11 (H (.ref 6)) M (NF w.params os b n2 t2).abs (restOf (KV.drop b) ON KW (OQ b) OP)=H r):
  topRun treeTable Cx w 11 (H (.ref 6)) (N+M) (NF w.params os a n1 t1).abs (restOf (KV.drop a) ON KW (OQ a) OP)=H r:=by
 have q:=piece_app (segRun_of (Ě h)) k;subst hb;rwa [<-List.drop_drop,List.take_append_drop] at q
abbrev Ch(w:CO)(os:CW)(a N n t:Nat):Prop:=
 topRun treeTable Cx w 11 (H (.ref 6)) N (NF w.params os a n t).abs (restOf (KV.drop a) ON KW (OQ a) OP)=H (XV w os)
theorem Jx{w:CO}{os:CW}{a m N n1 t1 b n2 t2 M K:Nat}(hb:a+m=b)(hk:N+M=K)(h:GT w os a m N n1 t1 b n2 t2)(k:Ch w os b M n2 t2):Ch w os a K n1 t1:=by subst hk;exact ĭ hb h k
theorem Į(w:CO)(os:CW):Ch w os 245 2 1263 2379:=ī w os
theorem į(w:CO)(os:CW):Ch w os 213 1285 1043 1994:=Jx (N:=1283) (M:=2) rfl rfl (ħ w os) (Į w os)
theorem İ(w:CO)(os:CW):Ch w os 189 2540 842 1696:=Jx (N:=1255) (M:=1285) rfl rfl (Ħ w os) (į w os)
theorem ı(w:CO)(os:CW):Ch w os 174 3795 687 1472:=Jx (N:=1255) (M:=2540) rfl rfl (ĥ w os) (İ w os)
theorem Ĳ(w:CO)(os:CW):Ch w os 157 5127 519 1184:=Jx (N:=1332) (M:=3795) rfl rfl (Ĥ w os) (ı w os)
theorem ĳ(w:CO)(os:CW):Ch w os 122 6472 400 904:=Jx (N:=1345) (M:=5127) rfl rfl (ģ w os) (Ĳ w os)
theorem Ĵ(w:CO)(os:CW):Ch w os 121 6638 382 886:=Jx (N:=166) (M:=6472) rfl rfl (Ģ w os) (ĳ w os)
theorem ĵ(w:CO)(os:CW):Ch w os 120 6914 354 858:=Jx (N:=276) (M:=6638) rfl rfl (ġ w os) (Ĵ w os)
theorem Ķ(w:CO)(os:CW):Ch w os 119 7623 283 788:=Jx (N:=709) (M:=6914) rfl rfl (Ġ w os) (ĵ w os)
theorem ķ(w:CO)(os:CW):Ch w os 85 7930 283 720:=Jx (N:=307) (M:=7623) rfl rfl (ğ w os) (Ķ w os)
theorem ĸ(w:CO)(os:CW):Ch w os 36 9429 61 370:=Jx (N:=1499) (M:=7930) rfl rfl (Ğ w os) (ķ w os)
theorem Ĺ(w:CO)(os:CW):Ch w os 35 9636 60 341:=Jx (N:=207) (M:=9429) rfl rfl (ĝ w os) (ĸ w os)
theorem ĺ(w:CO)(os:CW):Ch w os 34 9843 59 312:=Jx (N:=207) (M:=9636) rfl rfl (Ĝ w os) (Ĺ w os)
theorem Ļ(w:CO)(os:CW):Ch w os 0 10779 15 187:=Jx (N:=936) (M:=9843) rfl rfl (ě w os) (ĺ w os)
theorem ļ(w:CO)(os:CW):topRun treeTable Cx w 11 (H (.ref 6)) (12+(1+10779)) ⟨ME w.params,Array.mk [],boot_drawn,boot_toks,os⟩ (topStub Cx)=H (XV w os):=
 go_top (N:=1+10779) (ĩ w os) (piece_block (N:=10779) (Ī w os) (Ĭ▸Ļ w os))
def EE:Program:={Cx with main:={Cx.main with body:=Cx.main.body.drop 244}}
def IW:List Str:=Cx.boundNames.filter λn=>n !=("law":Str)
def UI:BS->Bool:=λx=>U
abbrev H6(w:CO)(os:CW):BS:=⟨Hh w.params,Array.mk [],{},2379,os⟩
theorem Ľ(w:CO)(os:CW):(staticsOk (importedModules Cx.main.body) (ME w.params) (Hh w.params))=U:=#v[]
def ľ(d:DecidableEq Str)(p:Program)(h:Ca):Bool:=
 h.isNs mainGlobals&&(h.nsKeys mainGlobals).all λk=>(@List.elem Str (@instBEqOfDecidableEq Str d) k startupNames)||(@List.elem Str (@instBEqOfDecidableEq Str d) k p.boundNames)
theorem Ŀ(w:CO)(os:CW):ľ Fast.sDec Cx (Hh w.params)=U:=#v[]
theorem ŀ(w:CO)(os:CW):namesBound Cx (Hh w.params)=U:=by have h:=Ŀ w os;rw[<-Fast.sDec_eq] at h;exact h
theorem Ł(w:CO)(os:CW):gensDone (H6 w os)=U:=#v[]
theorem ł(w:CO)(os:CW):laidKept (ME w.params) (Hh w.params)=U:=#v[]
theorem lk_1(w:CO)(os:CW):seen ((recsOf EE).map (·.name)) (ownsOf EE) [] {H6 w os with gens:=#[]}=expectedOf EE:=#v[]
theorem Ń(w:CO)(os:CW):(H6 w os).heap.bltView=bltViewBooted:=#v[]
theorem ń(w:CO)(os:CW):((H6 w os).heap.keysOk (looseW EE IW) ((recsOf EE).map (·.name)) ((litsOf EE).map (·.1)) ((clssOf EE (looseW EE IW)).map (·.name)))=U:=#v[]
theorem Ņ(w:CO)(os:CW):((H6 w os).heap.accountedOkI (importedModules Cx.main.body))=U:=#v[]
theorem ņ(w:CO)(os:CW):((H6 w os).heap.isNs mainGlobals&&(H6 w os).heap.isNs builtinsNs&&tablesOk EE (H6 w os).heap&&UI (H6 w os)&&(if U then(H6 w os).gens.size==0 else !leftWithCleanup (H6 w os).gens))=U:=#v[]
theorem Ň(w:CO)(os:CW):tabsOk EE (H6 w os)=U:=#v[]
theorem ň(w:CO)(os:CW):pinSeenD EE (drecsOf EE) (H6 w os)=pinGoodD (drecsOf EE):=#v[]
theorem ŉ(w:CO)(os:CW):plainSeenE EE (looseW EE IW) (H6 w os)=plainGoodE EE (looseW EE IW):=#v[]
theorem Ŋ(w:CO)(os:CW):plainSeenD EE IW (H6 w os)=plainGoodD EE IW:=#v[]
theorem ŋ(w:CO)(os:CW):wideSeen EE (H6 w os)=wideGood EE:=by rw[Fast.te7317090234206586261];kernel_rfl
theorem Ō(w:CO)(os:CW):clsSeenW EE IW (H6 w os)=clsGoodW EE IW:=#v[]
theorem ō:opening Cx=plainProg Cx.main.scope.names:=#v[]
theorem Ŏ(s:BS):fenceModules? Cx s=H s:=#v[]
theorem ŏ(w:CO):((ME w.params).isNs mainGlobals&&(Array.mk ([]:List GenState)).size==0,(ME w.params).objs.size,(ME w.params).nsMap mainGlobals "__annotations__")=(U,11,H (MF 6)):=#v[]
theorem Ő(w:CO)(os:CW):topRun treeTable Cx w 11 (H (.ref 6)) (12+(1+10779)) ⟨ME w.params,Array.mk [],boot_drawn,boot_toks,os⟩ (topStub Cx)=H (H6 w os):=
 Eq.mp #v[] (ļ w os)
theorem ő{a b c d:Bool}(ha:a=U)(hb:b=U)(hc:c=U)(hd:d=U):(a&&b&&c&&d)=U:=by rw[ha,hb,hc,hd];rfl
theorem pk{α β:Type}{a b:α}{c d:β}(h:a=b)(k:c=d):(a,c)=(b,d):=by rw[h,k]
theorem Œ{a b c d e f g:Bool}(ha:a=U)(hb:b=U)(h:(c&&d&&e&&f&&g)=U):(a&&b&&c&&d&&e&&f&&g)=U:=by rw[ha,hb];exact h
theorem œ(w:CO)(os:CW):openSeen EE IW (importedModules Cx.main.body) UI U (H6 w os)=openGood EE IW:=
 pk (lk_1 w os) (pk (Ń w os) (pk (Œ (ń w os) (Ņ w os) (ņ w os)) (pk (Ň w os) (pk (ň w os) (pk (ŉ w os) (pk (Ŋ w os) (pk (ŋ w os) (Ō w os))))))))
theorem Ŕ(w:CO):(λos=>((staticsOk (importedModules Cx.main.body) (ME w.params) (Hh w.params)&&namesBound Cx (Hh w.params)&&gensDone ⟨Hh w.params,Array.mk [],{},2379,os⟩&&laidKept (ME w.params) (Hh w.params)),
    openSeen EE IW (importedModules Cx.main.body) UI U ⟨Hh w.params,Array.mk [],{},2379,os⟩,(λs:BS=>s.heap) ⟨Hh w.params,Array.mk [],{},2379,os⟩))=λ(x:CW)=>(U,openGood EE IW,(λw:CO=>Hh w.params) w):=
 funext λos=>pk (ő (Ľ w os) (ŀ w os) (Ł w os) (ł w os)) (pk (œ w os) rfl)
theorem ŕ:LeftO Cx EE IW UI (λs=>s.heap) (λw=>Hh w.params) 21654:=
 LeftO.of_pieces (H₀:=ME) (H₁:=Hh) (gs₀:=Array.mk []) (gs₁:=Array.mk []) (d₀:=boot_drawn) (d₁:={}) (k₀:=boot_toks) (k₁:=2379) (m₀:=11) (ann:=H (.ref 6)) (M:=12+(1+10779))
  (boot_open ō (by decide+kernel) Ŏ) ŏ Ő (by decide+kernel) Ŕ
def YP(w:CO)(h:Ca):Prop:=∀b o,(Hh w.params).get? b=H o->h.get? b=H o
end
section
open PySem PySem.W PySem.TablesWhole
theorem eU(n:Nat){l:List CA}(h:wSs holds t c s (l.take n)=U)(k:wSs holds t c s (l.drop n)=U):wSs holds t c s l=U:=by
 induction n generalizing l with
 |zero=>exact k|succ n ih=>
  cases l with
  |nil=>rfl|cons x l=>
   have h:(wS holds t c s x&&wSs holds t c s (l.take n))=U:=h;show(wS holds t c s x&&wSs holds t c s l)=U;have h:=EF.mp h;exact EF.mpr ⟨h.1,ih h.2 k⟩
theorem Ŗ:wSs gather Cx.main.scope ⟨Cx.main.scope,[],[],[],AB⟩ Cx.main.scope Cx.main.body=[]:=#v[]
abbrev XW(l:List CA):Prop:=wSs holds Cx.main.scope ⟨Cx.main.scope,[],[],[],AB⟩ Cx.main.scope l=U
theorem ŗ:XW (Cx.main.body.take 100):=#v[]
theorem Ř:XW ((Cx.main.body.drop 100).take 60):=#v[]
theorem ř:XW (((Cx.main.body.drop 100).drop 60).take 50):=#v[]
theorem Ś:XW (((Cx.main.body.drop 100).drop 60).drop 50):=#v[]
theorem ś{p:Program}(t:wSs gather p.main.scope ⟨p.main.scope,[],[],[],AB⟩ p.main.scope p.main.body=[])(h:wSs holds p.main.scope ⟨p.main.scope,[],[],[],AB⟩ p.main.scope p.main.body=U)
  (n:noTwice p.main.scope=U)(m:p.modules=[])(q:p.parses=[])(r:p.harvested=[]):p.tablesWhole=U:=by
 show((U&&(noTwice p.main.scope&&(wSs holds p.main.scope ⟨p.main.scope,[],wSs gather p.main.scope ⟨p.main.scope,[],[],[],AB⟩ p.main.scope p.main.body,[],AB⟩ p.main.scope p.main.body&&U)))&&_)=U;rw[t,h,n,m,q,r];rfl
theorem Ŝ:noTwice Cx.main.scope=U:=#v[]
theorem ŝ:Cx.tablesWhole=U:=ś Ŗ (eU 100 ŗ (eU 60 Ř (eU 50 ř Ś))) Ŝ rfl rfl rfl
end
section
open PySem PySem.W PySem.Calls PyProof.Rows
def NG:DefRec:=match Cx.main.body.drop 244 with
 |[s]=>Q0 ⟨"",⟨[],[],AB,[],[],AB,[]⟩,[],⟨.function,[],A1,A1,[]⟩,OO⟩ s λn a b sc p=>⟨n,a,b,sc,p⟩|_=>⟨"",⟨[],[],AB,[],[],AB,[]⟩,[],⟨.function,[],A1,A1,[]⟩,OO⟩
theorem Ş:defOf EE JN.row.name=H (NG,[]):=#v[]
theorem hp0:JN.row.prog.theDef JN.row.name=H (NG.params,NG.body,NG.scope):=#v[]
theorem hk0:kwWritten? NG.params.kwonlyargs NG.params.kw_defaults=H []:=#v[]
theorem ş:(chainsOk EE&&opensWell JN.row.prog&&(frees JN.row.toRowW&&JN.row.within.isEmpty))=U:=#v[]
theorem Š:JN.row.prog.bare:=⟨rfl,rfl,rfl,rfl,rfl,ŝ⟩
theorem š:JN.row.toRowW.promised:=by w_witness2
theorem holds_of(said:JN.wellSaid=U)(call:WalkO EE IW (λy y=>True) YP JN.row.toRowW NG [] λf vs=>PySem.call f vs):JN.Holds:=
 holds_law said λk1=>holds_open (q:=EE) (loose:=IW) (Xt:=UI) (XP:=λy y=>True) (Yf:=λs=>s.heap) (Ya:=λw=>Hh w.params) (YP:=YP) (N:=21654)
  ŕ (λw s e=>by intro b o hb;rw[show s.heap=Hh w.params from e];exact hb) (λw h h' x k b o hb=>k b o (x b o hb)) (λy y=>trivial) (λy y y y y=>trivial)
  Ş hp0 hk0 (λs y=>recFacts_nil rfl) rfl k1 ş Š š call
end
section
open PySem
inductive V where
 |AV|Au (b:Bool)|B (i:Int)|An (n:Nat)|Ed (x:Str)|A3 (l:List V)|O (s i:Nat)
inductive T where
 |AQ|v (x:V)|Al (l:List V)|DT (l:List V)
set_option genInjectivity true in
inductive EJ where
 |B (i:Int)|An (x:Str)|A3 (l:List Int)
 deriving DecidableEq,Inhabited
inductive A_ where
 |A6 (l:List V)|Ad (l:List (Int×V))|BC (l:List (Nat×V))|Ff (l:List (List EJ×V))|CK (c:Nat) (l:List (Nat×V))
abbrev A0:=Nat->List A_
def DA(h:A0)(s:Nat)(l:List A_):A0:=λk=>if k=s then l else h k
inductive LI where|Cu|AE|UJ|XX|eV|UK|Ru
inductive UL where|eq|ne|lt|le|gt|ge
inductive UM where|id|OR|td
inductive FG where|DU|H7|Ci|Q3
mutual
inductive E where
 |AO (c:V)|Am (i:Nat)|AW (k:Nat) (c:V)|AN (o:E) (n:Nat)|AE (o k:E)|IA (o k:E)|Ab (f:Nat) (as:Dg)|FS (c s:Nat) (as:Dg)|EB (o:E) (n:Nat) (as:Dg)|Aj (e:E)|FH (e:E)|UN (e:E)|An (e:E)|Q4 (a:E) (x:Nat) (b:E) (y:Nat)|XY (e:E)|Q5 (e:E)|H8 (o k d:E)|Rv (o k:E)|C9 (op:LI) (l r:E)|AS (op:UL) (l r:E)|LJ (e:E)|MG (e:E)|A8 (k d:E)|LK (k d:E)|Q6 (e:E)|CF (all:Bool) (es:Dg)|NH (e:E)|Ay (c t e:E)|A3 (es:Dg)|A6 (es:Dg)|Dm (k:UM) (s:Nat) (es:Dg)|CH (s:Nat) (e:E)|Ez (elt:E) (Ac:List Nat) (ik:FG) (a b:E) (cond:E)|Q7 (d x n:Nat)
inductive Dg where
 |AH|AR (e:E) (es:Dg)
end
@[reducible] def J(i:Nat):E:=.Am i
@[reducible] def Bq(k:Nat):E:=.AO (.An k)
@[reducible] def eI(n:Int):E:=.AO (.B n)
@[reducible] def Bk(i k:Nat):E:=.AE (.Am i) (.AO (.An k))
mutual
inductive S where
 |Ak (i:Nat) (e:E)|OS (i:Nat) (e:E)|NI (l:List Nat) (e:E)|B3 (o:E) (n:Nat) (e:E)|Cv (o k e:E)|X_ (i:Nat) (op:LI) (e:E)|Gj (e:E)|Bl (o e:E)|Ay (c:E) (a b:Cb)|Cm (Ac:List Nat) (ik:FG) (a b:E) (body:Cb)|while (c:E) (body:Cb)|Ag (e:E)|Ţ|ţ|C0
inductive Cb where
 |AH|AR (s:S) (r:Cb)
end
structure Fn where
 np:Nat
 ns:Nat
 BL:Cb
theorem Bp{P:Prop}(e:A1=U):P:=nomatch e
theorem nn{α:Type}{x:α}{P:Prop}(e:AB=H x):P:=nomatch e
theorem C4{a b:Bool}(h:(a&&b)=U):a=U:=(EF.mp h).1
theorem AD{a b:Bool}(h:(a&&b)=U):b=U:=(EF.mp h).2
theorem NJ{b:Bool}(e:(!b)=U):b=A1:=by
 cases b with
 |false=>rfl|true=>exact Bp e
inductive opt{α:Type}(o:Option α)(Q:α->Prop):Prop
 |mk (a:α) (e:o=H a) (q:Q a)
@[simp] theorem Ť{α:Type}(a:α)(Q:α->Prop):opt (H a) Q=Q a:=by refine propext ⟨λ⟨b,e,q⟩=>?_,λq=>⟨a,rfl,q⟩⟩;cases e;exact q
@[simp] theorem aoL{α:Type}(Q:α->Prop):opt AB Q=False:=by refine propext ⟨λ⟨b,e,q⟩=>?_,EQ⟩;cases e
def T.Av:T->Option V
 |.v x=>H x|_=>AB
def BU:Nat:=100000
def Hi(f:V->V->Option Bool):List V->List V->Option Bool
 |[],[]=>H U|x::r,y::s=>match f x y,Hi f r s with
  |some a,H b=>H (a&&b)|_,_=>AB
 |_,_=>H A1
def Rw:V->V->Option Bool
 |.AV,.AV=>H U|.Au a,.Au b=>H (a==b)|.B a,.B b=>H (decide (a=b))|.An a,.An b=>H (decide (a=b))|.AV,.B _=>H A1|.AV,.An _=>H A1|.AV,.A3 _=>H A1|.B _,.AV=>H A1|.B _,.An _=>H A1|.B _,.A3 _=>H A1|.An _,.AV=>H A1|.An _,.B _=>H A1|.An _,.A3 _=>H A1|.A3 _,.AV=>H A1|.A3 _,.B _=>H A1|.A3 _,.An _=>H A1|_,_=>AB
def JO(h:A0):Nat->V->V->Option Bool
 |0,a,b=>Rw a b|n+1,.A3 a,.A3 b=>Hi (JO h n) a b|n+1,.O s i,.O s' i'=>match(h s)[i]?,(h s')[i']? with
  |some (.A6 a),H (.A6 b)=>Hi (JO h n) a b|_,_=>AB
 |_+1,a,b=>Rw a b
def nL(h:A0)(a b:V):Option Bool:=JO h 6 a b
def NK(o:Option A_):Option (List V):=match o with
 |some (.A6 l)=>H l|_=>AB
def Hj(h:A0):T->Option Bool
 |.v (.O s i)=>(NK (h s)[i]?).map (!·.isEmpty)|.v (.Au b)=>H b|.v (.B i)=>H (decide (i≠0))|.v .AV=>H A1|.Al l=>H (!l.isEmpty)|_=>AB
def IB(h:A0):T->Option (List V)
 |.Al l=>H l|.v (.A3 l)=>H l|.v (.O s i)=>NK (h s)[i]?|_=>AB
def Ba:List (Int×V)->Int->V->List (Int×V)
 |[],k,x=>[(k,x)]|(a,y)::r,k,x=>if a=k then(a,x)::r else(a,y)::Ba r k x
def CX:List (Nat×V)->Nat->V->List (Nat×V)
 |[],k,x=>[(k,x)]|(a,y)::r,k,x=>if a=k then(a,x)::r else(a,y)::CX r k x
def BP:List (Int×V)->Int->Option V
 |[],_=>AB|(a,x)::r,k=>if a=k then H x else BP r k
def Bw:List (Nat×V)->Nat->Option V
 |[],_=>AB|(a,x)::r,k=>if a=k then H x else Bw r k
theorem OT{a:Int}{x:V}{r:List (Int×V)}{k:Int}:BP ((a,x)::r) k=if a=k then H x else BP r k:=rfl
theorem OU{a:Int}{y x:V}{r:List (Int×V)}{k:Int}:Ba ((a,y)::r) k x=if a=k then(a,x)::r else(a,y)::Ba r k x:=rfl
theorem OV{a:Nat}{x:V}{r:List (Nat×V)}{k:Nat}:Bw ((a,x)::r) k=if a=k then H x else Bw r k:=rfl
theorem OW{a:Nat}{y x:V}{r:List (Nat×V)}{k:Nat}:CX ((a,y)::r) k x=if a=k then(a,x)::r else(a,y)::CX r k x:=rfl
def Q8:List (List EJ×V)->List EJ->Option V
 |[],_=>AB|(a,x)::r,k=>if a=k then H x else Q8 r k
def Q9:List (List EJ×V)->List EJ->V->List (List EJ×V)
 |[],k,x=>[(k,x)]|(a,y)::r,k,x=>if a=k then(a,x)::r else(a,y)::Q9 r k x
def Rx:V->Option Int
 |.B i=>H i|_=>AB
def OX{α β:Type}(f:α->Option β):List α->Option (List β)
 |[]=>H []|x::r=>match f x,OX f r with
  |some y,H t=>H (y::t)|_,_=>AB
def nM(tab:Nat->Str):V->Option EJ
 |.B i=>H (.B i)|.An n=>H (.An (tab n))|.Ed x=>H (.An x)|.A3 l=>(OX Rx l).map .A3|_=>AB
def Ry(tab:Nat->Str)(l:List V):Option (List EJ):=OX (nM tab) l
def Jy(tab:Nat->Str)(o:A_)(k:V):Option (Option V):=match o,k with
 |.Ad l,.B i=>H (BP l i)|.BC l,.An n=>H (Bw l n)|.Ff l,.A3 t=>(Ry tab t).map λk=>Q8 l k|_,_=>AB
def Ef(tab:Nat->Str)(o:A_)(k x:V):Option A_:=match o,k with
 |.Ad l,.B i=>if I l<BU then H (.Ad (Ba l i x)) else AB|.BC l,.An n=>if I l<BU then H (.BC (CX l n x)) else AB|.Ff l,.A3 t=>(Ry tab t).bind λk=>if I l<BU then H (.Ff (Q9 l k x)) else AB|_,_=>AB
def Be{α:Type}(l:List α)(i:Int):Option α:=if 0<=i then l[i.toNat]? else AB
def Rz(tab:Nat->Str)(o:Option A_)(k:V):Option V:=match o,k with
 |some (.A6 l),.B i=>Be l i|some (.A6 _),_=>AB|some o,k=>match Jy tab o k with
  |some (H x)=>H x|_=>AB
 |none,_=>AB
def Hl(tab:Nat->Str)(h:A0)(o:T)(k:V):Option V:=match o,k with
 |.Al l,.B i=>Be l i|.v (.A3 l),.B i=>Be l i|.v (.O s n),k=>Rz tab (h s)[n]? k|_,_=>AB
def Xa(o:T)(k:V):Option T:=match o,k with
 |.Al l,.B i=>if 0<=i then H (.Al (l.take i.toNat)) else AB|.DT l,.B i=>if 0<=i then H (.Al (l.take i.toNat)) else AB|.v (.A3 l),.B i=>if 0<=i then H (.v (.A3 (l.take i.toNat))) else AB|_,_=>AB
def Xb(o:Option A_):Option Nat:=match o with
 |some (.A6 l)=>H (I l)|some (.Ad l)=>H (I l)|some (.BC l)=>H (I l)|_=>AB
def OY(h:A0):T->Option Nat
 |.Al l=>H (I l)|.v (.A3 l)=>H (I l)|.v (.O s i)=>Xb (h s)[i]?|_=>AB
def Xc(n:Nat)(o:Option A_):Option V:=match o with
 |some (.CK _ l)=>Bw l n|_=>AB
def LL(h:A0)(n:Nat):V->Option V
 |.O s i=>Xc n (h s)[i]?|_=>AB
def Dr(i:Int):Bool:=decide (-1000000000000<i/\i<1000000000000)
def NL(i:Int):Str:=O_ (toString i)
def KX(tab:Nat->Str):V->Option Str
 |.An n=>H (tab n)|.Ed x=>if x.length<BU then H x else AB|_=>AB
def QA(f:Int->Int->Option T):T->T->Option T
 |.v (.B a),.v (.B b)=>f a b|_,_=>AB
theorem ť{f:Int->Int->Option T}{t u y:T}(h:QA f t u=H y){P:T->T->Prop}(k:∀a b,f a b=H y->P (.v (.B a)) (.v (.B b))):P t u:=by
 cases t with
 |v a=>cases a with
  |B a=>cases u with
   |v b=>cases b with
    |B b=>exact k _ _ h|_=>exact nn h
   |_=>exact nn h
  |_=>exact nn h
 |_=>exact nn h
def eW(tab:Nat->Str):T->T->Option T
 |.v (.B a),.v (.B b)=>H (.v (.B (a+b)))|.Al a,.Al b=>if I a+I b<BU then H (.Al (a++b)) else AB|.v x,.v y=>match KX tab x,KX tab y with
  |some a,H b=>if a.length+b.length<BU then H (.v (.Ed (a++b))) else AB|_,_=>AB
 |_,_=>AB
def eX:T->T->Option T
 |.v (.B a),.v (.B b)=>if Dr a then H (.v (.B (a*b))) else AB|.Al [x],.v (.B b)=>if 0<=b/\b<1000 then H (.Al (E3 b.toNat x)) else AB|.v (.A3 (x::a)),.v (.B b)=>if b=0 then H (.v (.A3 [])) else AB|_,_=>AB
def Jz(tab:Nat->Str)(op:LI):T->T->Option T:=@LI.casesOn (λx=>T->T->Option T) op (eW tab) (QA λa b=>H (.v (.B (a-b)))) eX (QA λa b=>if 0<b then H (.v (.B (a%b))) else AB) (QA λa b=>if 0<b/\b<1000 then H (.v (.B (a/b))) else AB)
 (QA λa b=>if 0<=a/\0<=b/\Dr a/\Dr b then H (.v (.B ((a.toNat&&&b.toNat:Nat):Int))) else AB) (QA λa b=>if 0<=a/\0<=b/\Dr a/\Dr b then H (.v (.B ((a.toNat|||b.toNat:Nat):Int))) else AB)
def S0(f:Int->Int->Bool)(a b:V):Option Bool:=match a with
 |.B a=>match b with
  |.B b=>H (f a b)|_=>AB
 |_=>AB
def Iz(h:A0)(o:UL)(a b:V):Option Bool:=match o with
 |.eq=>nL h a b|.ne=>(nL h a b).map (!·)|.lt=>S0 (λa b=>decide (a<b)) a b|.le=>S0 (λa b=>decide (a<=b)) a b|.gt=>S0 (λa b=>decide (b<a)) a b|.ge=>S0 (λa b=>decide (b<=a)) a b
def K0:V->Bool
 |.AV=>U|_=>A1
def E4(h:A0):V->Option A_
 |.O s i=>(h s)[i]?|_=>AB
def EG(tab:Nat->Str)(h:A0)(d k:V):Option (Option V):=match E4 h d with
 |some o=>Jy tab o k|none=>AB
def Bm(h:A0)(s:Nat)(o:A_):A0:=DA h s (h s++[o])
def Bf(h:A0)(s i:Nat)(o:A_):A0:=DA h s ((h s).set i o)
def Gk(k:UM):A_:=match k with|.id=>.Ad []|.OR=>.BC []|.td=>.Ff []
def Oa(tab:Nat->Str)(o:A_):List V->Option A_
 |[]=>H o|k::x::r=>match Ef tab o k x with
  |some o'=>Oa tab o' r|none=>AB
 |[_]=>AB
def NN(h:A0):V->Option (List V)
 |.O s i=>match(h s)[i]? with
  |some (.Ad l)=>H (l.map λp=>.B p.1)|_=>AB
 |_=>AB
def Cq:List T->Nat->T->List T
 |[],_,_=>[]|_::r,0,t=>t::r|x::r,i+1,t=>x::Cq r i t
def BD:List T->Nat->T
 |[],_=>.AQ|x::_,0=>x|_::r,i+1=>BD r i
def NO(Ac:List Nat)(x:V)(r:List T):Option (List T):=match Ac with
 |[i]=>H (Cq r i (.v x))|[i,j]=>match x with
  |.A3 [a,b]=>H (Cq (Cq r i (.v a)) j (.v b))|_=>AB
 |_=>AB
def MH:List Nat->List V->List T->Option (List T)
 |[],[],r=>H r|i::is,x::xs,r=>MH is xs (Cq r i (.v x))|_,_,_=>AB
def Ho(a b:Int):List V:=(Ey (b-a).toNat).map λ(k:Nat)=>V.B (a+k)
def aoM(h:A0)(t:T)(l:List V):Prop:=IB h t=H l
def H9:E->Bool
 |.Am _=>A1|.Ay _ a b=>H9 a&&H9 b|.CF _ _=>A1|_=>U
def HA(h:A0):FG->T->V->Option (List V)
 |.DU,.v (.B b),_=>if Dr b&&decide (b<BU) then H (Ho 0 b) else AB|.H7,.v (.B a),.B b=>if Dr a&&(Dr b&&decide (b<BU)) then H (Ho a b) else AB|.Ci,t,_=>IB h t|.Q3,.v d,_=>NN h d|_,_,_=>AB
def Gl(h:A0)(ik:FG)(t:T)(b:V)(l:List V):Prop:=match ik with
 |.DU|.H7=>True|.Ci=>IB h t=H l|.Q3=>match t with|.v d=>NN h d=H l|_=>False
structure Env where
 AM:Nat->Str
 S1:List Int
 QB:Nat->Nat->Option Nat
 NP:Nat->Option Nat
 MI:Nat->Nat->Bool
 UO:Nat->Option Fn
def nN(G:Env)(n:Nat)(o:Option A_):Option Nat:=match o with
 |some (.CK c l)=>match Bw l n with
  |none=>G.QB c n|some _=>AB
 |_=>AB
def S2(G:Env)(h:A0)(n:Nat)(x:V):Option Nat:=nN G n (E4 h x)
def UP(o:A_):Bool:=match o with
 |.Ad _=>U|.BC _=>U|.Ff _=>U|_=>A1
def K1(h:A0)(x:V):Bool:=match E4 h x with
 |some o=>UP o|none=>A1
def Ep(h:A0)(x:V):Bool:=match E4 h x with
 |some (.A6 _)=>U|_=>A1
def nO(o:Option A_)(P:List V->Prop):Prop:=match o with
 |some (.A6 l)=>P l|_=>False
def J'(h:A0)(o x:V)(Q:A0->Prop):Prop:=match o with
 |.O s n=>nO (h s)[n]? λl=>I l<BU/\Q (Bf h s n (.A6 (l++[x])))|_=>False
abbrev Cl:=Nat->List V->A0->(V->A0->Prop)->Prop
section
variable(G:Env)(C:Cl)
def Cp(test:Bool)(Q:T->A0->Prop)(t:T)(h:A0):Prop:=
 match test with
 |false=>Q t h|true=>opt (Hj h t) λb=>Q (.v (.Au b)) h
def QC(elt:List T->A0->(T->A0->Prop)->Prop)(cond:List T->A0->(Bool->A0->Prop)->Prop)(Ac:List Nat)(ok:A0->Prop):List V->List T->A0->List V->(List V->A0->Prop)->Prop
 |[],_,h,acc,Q=>ok h/\Q acc h|x::l,r,h,acc,Q=>ok h/\I acc<BU/\opt (NO Ac x r) λr'=>cond r' h λb h1=>if b then elt r' h1 λt h2=>opt t.Av λy=>QC elt cond Ac ok l r h2 (acc++[y]) Q else QC elt cond Ac ok l r h1 acc Q
mutual
noncomputable def Az:E->Bool->List T->A0->(T->A0->Prop)->Prop
 |.AO c,m,_,h,Q=>Cp m Q (.v c) h|.Am i,m,r,h,Q=>match BD r i with
  |.AQ=>False|t=>Cp m Q t h
 |.AW _ c,m,_,h,Q=>Cp m Q (.v c) h|.AN o n,m,r,h,Q=>Az o A1 r h λt h1=>opt t.Av λx=>opt (LL h1 n x) λy=>Cp m Q (.v y) h1|.AE o k,m,r,h,Q=>Az o A1 r h λt h1=>Az k A1 r h1 λu h2=>opt u.Av λkv=>opt (Hl G.AM h2 t kv) λy=>Cp m Q (.v y) h2|.IA o k,m,r,h,Q=>Az o A1 r h λt h1=>Az k A1 r h1 λu h2=>opt u.Av λkv=>opt (Xa t kv) λy=>Cp m Q y h2|.Ab f as,m,r,h,Q=>HB as r h λvs h1=>C f vs h1 λx h2=>Cp m Q (.v x) h2|.FS c s as,m,r,h,Q=>HB as r h λvs h1=>match G.NP c with
  |some f=>C f (.O s (I (h1 s))::vs) (Bm h1 s (.CK c [])) λx h2=>x=.AV/\Cp m Q (.v (.O s (I (h1 s)))) h2|none=>vs=[]/\Cp m Q (.v (.O s (I (h1 s)))) (Bm h1 s (.CK c []))
 |.EB o n as,m,r,h,Q=>Az o A1 r h λt h1=>opt t.Av λx=>opt (S2 G h1 n x) λf=>HB as r h1 λvs h2=>C f (x::vs) h2 λy h3=>Cp m Q (.v y) h3|.Aj e,m,r,h,Q=>Az e A1 r h λt h1=>opt (OY h1 t) λk=>Cp m Q (.v (.B k)) h1|.FH e,m,r,h,Q=>Az e A1 r h λt h1=>opt (IB h1 t) λl=>Cp m Q (.v (.A3 l)) h1|.UN e,m,r,h,Q=>Az e A1 r h λt h1=>opt (IB h1 t) λl=>Cp m Q (.Al l) h1|.An e,m,r,h,Q=>Az e A1 r h λt h1=>match t with
  |.v (.B i)=>Dr i=U/\Cp m Q (.v (.Ed (NL i))) h1|_=>False
 |.Q4 a x b y,m,r,h,Q=>Az a A1 r h λt h1=>opt t.Av λu=>opt (KX G.AM u) λut=>ut.length<1000/\Az b A1 r h1 λt2 h2=>match t2 with
  |.v (.B i)=>Dr i=U/\Cp m Q (.v (.Ed (ut++G.AM x++NL i++G.AM y))) h2|_=>False
 |.XY e,m,r,h,Q=>Az e A1 r h λt h1=>opt t.Av λx=>match E4 h1 x with
  |some (.Ad l)=>I l<64/\∀l':List Int,l'.Perm (l.map (·.1))->Cp m Q (.Al (l'.map λi=>.B i)) h1|_=>False
 |.Q5 e,m,r,h,Q=>Az e A1 r h λt h1=>opt t.Av λx=>match E4 h1 x with
  |some (.Ad l)=>I l<64/\(l.all λp=>(Rx p.2).isSome)=U/\∀l':List (Int×V),l'.Perm l->Cp m Q (.Al (l'.map λp=>.A3 [.B p.1,p.2])) h1|_=>False
 |.H8 o k d,m,r,h,Q=>Az o A1 r h λt h1=>opt t.Av λx=>K1 h1 x=U/\Az k A1 r h1 λu h2=>opt u.Av λkv=>Az d A1 r h2 λw h3=>opt w.Av λdv=>opt (EG G.AM h3 x kv) λy=>Cp m Q (.v (y.getD dv)) h3|.Rv o k,m,r,h,Q=>Az o A1 r h λt h1=>opt t.Av λx=>K1 h1 x=U/\Az k A1 r h1 λu h2=>opt u.Av λkv=>opt (EG G.AM h2 x kv) λy=>Cp m Q (.v (y.getD .AV)) h2|.C9 op a b,m,r,h,Q=>Az a A1 r h λt h1=>Az b A1 r h1 λu h2=>opt (Jz G.AM op t u) λy=>Cp m Q y h2|.AS op a b,m,r,h,Q=>Az a A1 r h λt h1=>opt t.Av λx=>Az b A1 r h1 λu h2=>opt u.Av λy=>opt (Iz h2 op x y) λz=>Q (.v (.Au z)) h2|.LJ e,m,r,h,Q=>Az e A1 r h λt h1=>opt t.Av λx=>Q (.v (.Au (K0 x))) h1|.MG e,m,r,h,Q=>Az e A1 r h λt h1=>opt t.Av λx=>Q (.v (.Au (!K0 x))) h1|.A8 k d,m,r,h,Q=>Az k A1 r h λt h1=>opt t.Av λx=>Az d A1 r h1 λu h2=>opt u.Av λy=>opt (EG G.AM h2 y x) λz=>Q (.v (.Au z.isSome)) h2|.LK k d,m,r,h,Q=>Az k A1 r h λt h1=>opt t.Av λx=>Az d A1 r h1 λu h2=>opt u.Av λy=>opt (EG G.AM h2 y x) λz=>Q (.v (.Au (!z.isSome))) h2|.Q6 e,m,r,h,Q=>Az e A1 r h λt h1=>match t with
  |.v (.B i)=>Q (.v (.Au (decide (i∈G.S1)))) h1|_=>False
 |.CF al es,m,r,h,Q=>S3 al es m r h Q|.NH e,m,r,h,Q=>m=U/\Az e U r h λt h1=>match t with
  |.v (.Au b)=>Q (.v (.Au (!b))) h1|_=>False
 |.Ay c a b,m,r,h,Q=>Az c U r h λt h1=>match t with
  |.v (.Au U)=>Az a m r h1 Q|.v (.Au A1)=>Az b m r h1 Q|_=>False
 |.A3 es,m,r,h,Q=>HB es r h λvs h1=>Cp m Q (.v (.A3 vs)) h1|.A6 es,m,r,h,Q=>HB es r h λvs h1=>Cp m Q (.Al vs) h1|.Dm k s es,m,r,h,Q=>JP es (Gk k) r h λo h1=>Cp m Q (.v (.O s (I (h1 s)))) (Bm h1 s o)|.CH s e,m,r,h,Q=>m=A1/\H9 e=U/\Az e A1 r h λt h1=>match t with
  |.Al l=>I l<BU/\Cp m Q (.v (.O s (I (h1 s)))) (Bm h1 s (.A6 l))|_=>False
 |.Ez elt Ac ik a b cond,m,r,h,Q=>Az a A1 r h λt h1=>Az b A1 r h1 λu h2=>opt u.Av λbv=>opt (HA h2 ik t bv) λl=> QC (λr' h' Q'=>Az elt A1 r' h' Q') (λr' h' Q'=>Az cond U r' h' λt h''=>match t with|.v (.Au b)=>Q' b h''|_=>False) Ac (λh'=>Gl h' ik t bv l) l r h2 [] λvs h3=>Cp m Q (.Al vs) h3|.Q7 i j n,m,r,h,Q=>match BD r i with
  |.v d=>opt (NN h d) λl=>match BD r j with
   |.v x=>opt (EG G.AM h x (.An n)) λy=>opt y λy=>match E4 h y with
    |some (.Ad l2)=>Cp m Q (.v (.B (I (l.filter λk=>match k with|.B a=>(BP l2 a).isNone|_=>A1)))) h|_=>False
   |_=>False
  |_=>False
noncomputable def HB:Dg->List T->A0->(List V->A0->Prop)->Prop
 |.AH,_,h,Q=>Q [] h|.AR e es,r,h,Q=>Az e A1 r h λt h1=>opt t.Av λx=>HB es r h1 λvs h2=>Q (x::vs) h2
noncomputable def JP:Dg->A_->List T->A0->(A_->A0->Prop)->Prop
 |.AH,o,_,h,Q=>Q o h|.AR _ .AH,_,_,_,_=>False|.AR k (.AR v es),o,r,h,Q=>Az k A1 r h λt h1=>opt t.Av λkv=>Az v A1 r h1 λu h2=>opt u.Av λxv=>opt (Ef G.AM o kv xv) λo'=>JP es o' r h2 Q
noncomputable def S3(al:Bool):Dg->Bool->List T->A0->(T->A0->Prop)->Prop
 |.AH,_,_,_,_=>False|.AR e .AH,m,r,h,Q=>Az e m r h Q|.AR e (.AR e2 es),m,r,h,Q=>Az e m r h λt h1=>opt (Hj h1 t) λb=>if b=al then S3 al (.AR e2 es) m r h1 Q else Q t h1
end
inductive DB where|B0|Ag (v:V)
def DB.Av:DB->V
 |.B0=>.AV|.Ag v=>v
def QD(body:List T->A0->(DB->List T->A0->Prop)->Prop)(Ac:List Nat)(ok:A0->Prop)(Q:DB->List T->A0->Prop):List V->List T->A0->Prop
 |[],r,h=>ok h/\Q .B0 r h|x::l,r,h=>ok h/\opt (NO Ac x r) λr'=>body r' h λfl r2 h2=>match fl with
  |.B0=>QD body Ac ok Q l r2 h2|.Ag v=>Q (.Ag v) r2 h2
def S4(test:List T->A0->(T->A0->Prop)->Prop)(body:List T->A0->(DB->List T->A0->Prop)->Prop)(Q:DB->List T->A0->Prop):Nat->List T->A0->Prop
 |0,_,_=>False|n+1,r,h=>test r h λt h1=>match t with
  |.v (.Au U)=>body r h1 λfl r2 h2=>match fl with
   |.B0=>S4 test body Q n r2 h2|.Ag v=>Q (.Ag v) r2 h2
  |.v (.Au A1)=>Q .B0 r h1|_=>False
def UQ(e:E)(t:T)(Q:T->Prop):Prop:=match t with
 |.v x=>Q (.v x)|.Al l=>H9 e=U/\Q (.Al l)|_=>False
def eY(u:T)(P:List V->Prop):Prop:=match u with
 |.v (.A3 l)=>P l|_=>False
def UR(u:T)(P:Nat->Nat->Prop):Prop:=match u with
 |.v (.O si i)=>P si i|_=>False
def Xd(o:Option A_)(P:Nat->List (Nat×V)->Prop):Prop:=match o with
 |some (.CK c l)=>P c l|_=>False
def S5(tab:Nat->Str)(o:Option A_)(kv x:V)(P:A_->Prop):Prop:=match o,kv with
 |some (.A6 l),.B n=>0<=n/\n.toNat<I l/\P (.A6 (l.set n.toNat x))|some (.A6 _),_=>False|some o,kv=>opt (Ef tab o kv x) λo'=>P o'|none,_=>False
mutual
noncomputable def Xe:S->List T->A0->(DB->List T->A0->Prop)->Prop
 |.Ak i e,r,h,Q=>Az G C e A1 r h λt h1=>UQ e t λt'=>Q .B0 (Cq r i t') h1|.OS i e,r,h,Q=>Az G C e A1 r h λt h1=>opt t.Av λx=>Q .B0 (Cq r i (.v x)) h1|.NI is e,r,h,Q=>Az G C e A1 r h λt h1=>eY t λl=>opt (MH is l r) λr'=>Q .B0 r' h1|.B3 o n e,r,h,Q=>Az G C e A1 r h λt h1=>opt t.Av λx=>Az G C o A1 r h1 λu h2=>UR u λs i=>Xd (h2 s)[i]? λc l=>G.MI c n=U/\I l<100/\Q .B0 r (Bf h2 s i (.CK c (CX l n x)))|.Cv o k e,r,h,Q=>Az G C e A1 r h λt h1=>opt t.Av λx=>Az G C o A1 r h1 λu h2=>Az G C k A1 r h2 λw h3=>opt w.Av λkv=>UR u λs i=>S5 G.AM (h3 s)[i]? kv x λo'=>Q .B0 r (Bf h3 s i o')|.X_ i op e,r,h,Q=>match BD r i with
  |.v x=>Az G C e A1 r h λt h1=>opt (match x,t with|.B a,.v (.B b)=>Jz G.AM op (.v (.B a)) (.v (.B b))|_,_=>AB) λy=>Q .B0 (Cq r i y) h1|_=>False
 |.Gj e,r,h,Q=>Az G C e A1 r h λt h1=>opt t.Av λz=>Q .B0 r h1|.Bl o e,r,h,Q=>match o with
  |.Am i=>match BD r i with
   |.Al _=>Az G C e A1 r h λu h2=>opt u.Av λx=>match BD r i with
    |.Al l=>I l<BU/\Q .B0 (Cq r i (.Al (l++[x]))) h2|_=>False
   |.v x0=>Ep h x0=U/\Az G C e A1 r h λu h2=>opt u.Av λx=>J' h2 x0 x λh3=>Q .B0 r h3|_=>False
  |o=>Az G C o A1 r h λt h1=>opt t.Av λx0=>Ep h1 x0=U/\Az G C e A1 r h1 λu h2=>opt u.Av λx=>J' h2 x0 x λh3=>Q .B0 r h3
 |.Ay c a b,r,h,Q=>Az G C c U r h λt h1=>match t with
  |.v (.Au U)=>Ae a r h1 Q|.v (.Au A1)=>Ae b r h1 Q|_=>False
 |.Cm Ac ik a b body,r,h,Q=>Az G C a A1 r h λt h1=>Az G C b A1 r h1 λu h2=>opt u.Av λbv=>opt (HA h2 ik t bv) λl=> (∀l',t=.Al l'->H9 a=U)/\QD (λr' h' Q'=>Ae body r' h' Q') Ac (λh'=>Gl h' ik t bv l) Q l r h2|.while c body,r,h,Q=>∃n,S4 (λr' h' Q'=>Az G C c U r' h' Q') (λr' h' Q'=>Ae body r' h' Q') Q n r h|.Ag e,r,h,Q=>Az G C e A1 r h λt h1=>opt t.Av λx=>Q (.Ag x) r h1|.Ţ,r,h,Q=>Q (.Ag .AV) r h|.ţ,r,h,Q=>Q .B0 r h|.C0,_,_,_=>False
noncomputable def Ae:Cb->List T->A0->(DB->List T->A0->Prop)->Prop
 |.AH,r,h,Q=>Q .B0 r h|.AR s rest,r,h,Q=>Xe s r h λfl r1 h1=>match fl with
  |.B0=>Ae rest r1 h1 Q|.Ag v=>Q (.Ag v) r1 h1
end
end
def AL(G:Env):Nat->Cl
 |0=>λx x x x=>False|d+1=>λf vs h Q=>∃P:V->A0->Prop,(∀v h',P v h'->Q v h')/\opt (G.UO f) λF=>I vs=F.np/\Ae G (AL G d) F.BL (vs.map T.v++E3 (F.ns-F.np) .AQ) h λfl x h'=>P fl.Av h'
theorem DL{G:Env}{d f:Nat}{vs:List V}{h:A0}{Q Q':V->A0->Prop}(m:∀v h,Q v h->Q' v h)(w:AL G d f vs h Q):AL G d f vs h Q':=by
 cases d with
 |zero=>exact w|succ d=>exact w.elim λP w=>⟨P,λv h p=>m v h (w.1 v h p),w.2⟩
end
section
open PySem PySem.W PySem.Calls PyProof.Rows
abbrev Af:=Nat->List (BJ×BJ)
def Af.le(β β':Af):Prop:=∀s,β s<+:β' s
def Af.mut(β:Af)(a:BJ):Prop:=∃s p,p∈β s/\p.2=a
theorem Af.le.BO(β:Af):Af.le β β:=λs=>List.prefix_refl _
theorem Af.le.Aw(x:Af.le β β')(y:Af.le β' β''):Af.le β β'':=λs=>(x s).trans (y s)
theorem Af.le.Dh(x:Af.le β β'){s i:Nat}{p:BJ×BJ}(e:(β s)[i]?=H p):(β' s)[i]?=H p:=by obtain⟨t,ht⟩:=x s;rw[<-ht,JQ (Dd.mp e).1];exact e
def Fg(xs:List AG):Obj:={cls:=.type "tuple",data:=.seq xs.toArray}
def FT(xs:List AG)(n:Nat):Obj:={cls:=.type "list",data:=.seq xs.toArray n}
def K2(es:List Fz)(n:Nat):Obj:={cls:=.type "dict",data:=.dict es.toArray n}
inductive Ŧ(h:Ca)(R:List AG->Prop)(x:AG):Prop
 |mk (a:BJ) (xs:List AG) (e:x=.ref a) (o:h.get? a=H (Fg xs)) (b:I xs<=BU) (r:R xs)
inductive ŧ(o:Option (BJ×BJ))(x:AG):Prop
 |mk (p:BJ×BJ) (q:o=H p) (e:x=.ref p.1)
inductive nP(P:AG->Prop)(R:List AG->Prop)(ys:List AG):Prop
 |mk (y:AG) (t:List AG) (e:ys=y::t) (p:P y) (r:R t)
inductive e_{α κ:Type}(k:α->κ->Prop)(a:α)(P:AG->Prop)(R:List (κ×AG)->Prop)(ys:List (κ×AG)):Prop
 |mk (b:κ) (y:AG) (t:List (κ×AG)) (e:ys=(b,y)::t) (q:k a b) (p:P y) (r:R t)
section
variable(tab:Nat->Str)
mutual
noncomputable def BN(β:Af)(h:Ca):V->AG->Prop
 |.AV,x=>x=.none|.Au b,x=>x=.bool b|.B i,x=>∃t,x=.int i t|.An n,x=>∃t,x=.str (tab n) t|.Ed s,x=>∃t,x=.str s t|.A3 l,x=>Ŧ h (C5 β h l) x|.O s i,x=>ŧ (β s)[i]? x
noncomputable def C5(β:Af)(h:Ca):List V->List AG->Prop
 |[],ys=>ys=[]|v::r,ys=>nP (BN β h v) (C5 β h r) ys
end
def Fi{α κ:Type}(k:α->κ->Prop)(β:Af)(h:Ca):List (α×V)->List (κ×AG)->Prop
 |[],ys=>ys=[]|(a,v)::r,ys=>e_ k a (BN tab β h v) (Fi k β h r) ys
end
structure Step(β:Af)(h:Ca)(β':Af)(h':Ca):Prop where
 le:Af.le β β'
 AX:∀b o,h.get? b=H o->¬β.mut b->h'.get? b=H o
 IC:∀a,β'.mut a->β.mut a\/h.get? a=AB
theorem Step.BO(β:Af)(h:Ca):Step β h β h:=⟨Af.le.BO _,λx x e x=>e,λx e=>.inl e⟩
theorem Step.Aw(x:Step β h β' h')(y:Step β' h' β'' h''):Step β h β'' h'':=by
 refine⟨x.le.Aw y.le,λb o e n=>y.AX b o (x.AX b o e n) λm=>?_,λa m=>?_⟩
 .rcases x.IC b m with q|q
  .exact n q
  .rw [e] at q;cases q
 .rcases y.IC a m with q|q
  .exact x.IC a q
  .by_cases hm:β.mut a
   .exact .inl hm
   .refine .inr ?_
    cases e:h.get? a with
    |none=>rfl|some o=>rw[x.AX a o e hm] at q;cases q
theorem J0(h:Ca):h.get? h.objs.size=AB:=by
 cases e:h.get? _ with
 |none=>rfl|some o=>exact absurd (NQ e) (Xf _)
theorem LM{h h':Ca}(k:∀b o,h.get? b=H o->h'.get? b=H o)(e:h'.get? a=AB):h.get? a=AB:=by
 cases q:h.get? a with
 |none=>rfl|some o=>rw[k a o q] at e;cases e
def EX(h h':Ca):Prop:=∀a xs,h.get? a=H (Fg xs)->h'.get? a=H (Fg xs)
theorem EX.BO(h:Ca):EX h h:=λx x e=>e
mutual
theorem BN.Bo{β β':Af}{h h':Ca}(k:EX h h')(l:Af.le β β'):∀{v:V} {x:AG},BN tab β h v x->BN tab β' h' v x
 |.AV,_,e=>e|.Au _,_,e=>e|.B _,_,e=>e|.An _,_,e=>e|.Ed _,_,e=>e|.A3 vs,x,e=>by obtain⟨a,xs,rfl,ho,hl,hv⟩:=e;exact⟨a,xs,rfl,k _ _ ho,hl,C5.Bo k l hv⟩
 |.O s i,x,e=>by obtain⟨p,hp,rfl⟩:=e;exact⟨p,l.Dh hp,rfl⟩
theorem C5.Bo{β β':Af}{h h':Ca}(k:EX h h')(l:Af.le β β'):∀{v:List V} {x:List AG},C5 tab β h v x->C5 tab β' h' v x
 |[],_,e=>e|v::r,ys,e=>by obtain⟨y,t,rfl,hy,ht⟩:=e;exact⟨y,t,rfl,BN.Bo k l hy,C5.Bo k l ht⟩
end
theorem Fi.Bo(kk:EX h h')(l:Af.le β β'):∀{v:List (α×V)} {x:List (κ×AG)},Fi tab k β h v x->Fi tab k β' h' v x:=by
 intro BE;induction BE with
 |nil=>
  rintro _ e;exact e
 |cons hd0 r ih=>
  rintro ys e;obtain⟨b,y,t,rfl,hk,hy,ht⟩:=e;exact⟨b,y,t,rfl,hk,hy.Bo kk l,ih ht⟩
theorem C5.Cy:∀{v:List V} {x:List AG},C5 tab β h v x->I x=I v:=by
 intro BE;induction BE with
 |nil=>
  rintro _ e;cases e;rfl
 |cons v r ih=>
  rintro ys e;obtain⟨y,t,rfl,_,ht⟩:=e;simp[ih ht]
theorem C5.Dh:∀{v:List V} {x:List AG},C5 tab β h v x->∀{i:Nat} {a:V},v[i]?=H a->∃y,x[i]?=H y/\BN tab β h a y:=by
 intro BE;induction BE with
 |nil=>
  rintro _ _ i a e;simp at e
 |cons v r ih=>
  rintro ys e i a ha;obtain⟨y,t,rfl,hy,ht⟩:=e;cases i with
  |zero=>simp at ha;subst ha;exact⟨y,rfl,hy⟩|succ i=>simpa using ih ht ha
theorem C5.Xg:∀{v u:List V} {x y:List AG},C5 tab β h v x->C5 tab β h u y->C5 tab β h (v++u) (x++y):=by
 intro BE;induction BE with
 |nil=>
  rintro _ _ _ e f;cases e;exact f
 |cons v r ih=>
  rintro u ys y' e f;obtain⟨y,t,rfl,hy,ht⟩:=e;exact⟨y,t++y',rfl,hy,ih ht f⟩
theorem C5.nQ:∀{v:List V} {x:List AG} (n:Nat),C5 tab β h v x->C5 tab β h (v.take n) (x.take n):=by
 intro BE;induction BE with
 |nil=>
  rintro _ n e;cases e;cases n<;>rfl
 |cons v r ih=>
  rintro ys n e;obtain⟨y,t,rfl,hy,ht⟩:=e;cases n with
  |zero=>exact rfl|succ n=>exact⟨y,_,rfl,hy,ih n ht⟩
theorem C5.set:∀{v:List V} {x:List AG} (n:Nat) {a:V} {b:AG},C5 tab β h v x->BN tab β h a b->C5 tab β h (v.set n a) (x.set n b):=by
 intro BE;induction BE with
 |nil=>
  rintro _ n _ _ e _;cases e;cases n<;>rfl
 |cons v r ih=>
  rintro ys n a b e f;obtain⟨y,t,rfl,hy,ht⟩:=e;cases n with
  |zero=>exact⟨b,t,rfl,f,ht⟩|succ n=>exact⟨y,_,rfl,hy,ih n ht f⟩
end
inductive BW
 |k (i:Nat)|v (n:Nat)|a (x y:BW)|m (i:Nat) (x:BW)|s (x y:BW)
@[reducible] def A2:BW:=.v 0
@[reducible] def A7:BW:=.v 1
@[reducible] def Aa:BW:=.v 2
@[reducible] def Er:BW:=.v 3
@[reducible] def aoN:BW:=.v 4
@[reducible] def aoO:BW:=.v 5
@[reducible] def AI:BW:=.a (.v 0) (.k 1)
@[reducible] def BB:BW:=.a (.v 1) (.k 1)
@[reducible] def Cz:BW:=.a (.v 2) (.k 1)
@[reducible] def Ob:BW:=.a (.v 3) (.k 1)
@[reducible] def aoP:BW:=.a (.v 4) (.k 1)
@[reducible] def aoQ:BW:=.a (.v 5) (.k 1)
@[reducible] def AK:BW:=.k 0
@[reducible] def AF:BW:=.k 1
def BW.gt(c:List Int)(n:Nat):Int:=List.rec (motive:=λy=>Nat->Int) (λy=>0) (λx y ih n=>Nat.rec (motive:=λy=>Int) x (λn y=>ih n) n) c n
def BW.ev(c:List Int)(e:BW):Int:=BW.rec (λi=>(i:Int)) (BW.gt c) (λz z x y=>x+y) (λi z x=>(i:Int)*x) (λz z x y=>x-y) e
def BW.Hp(e:BW):Int:=BW.rec (λi=>(i:Int)) (λz=>0) (λz z x y=>x+y) (λi z x=>(i:Int)*x) (λz z x y=>x-y) e
def BW.co(n:Nat)(e:BW):Int:=BW.rec (λz=>0) (λm=>Bool.rec (motive:=λz=>Int) 0 1 (Ct n m)) (λz z x y=>x+y) (λi z x=>(i:Int)*x) (λz z x y=>x-y) e
def BW.sm(c:List Int)(f:Nat->Int):Int:=List.rec (motive:=λy=>(Nat->Int)->Int) (λy=>0) (λx y ih f=>f 0*x+ih λn=>f (n+1)) c f
theorem ed(a b c d:Int):a+b+(c+d)=a+c+(b+d):=by rw[Int.add_assoc,Int.add_assoc,Int.add_left_comm b]
theorem nR(a b c d:Int):a-b+(c-d)=a+c-(b+d):=by rw[nS,nS,nS,Int.neg_add];exact ed ..
theorem Ũ(c:List Int)(f g:Nat->Int):BW.sm c (λn=>f n+g n)=BW.sm c f+BW.sm c g:=by
 induction c generalizing f g with
 |nil=>rfl|cons x c ih=>
  show(f 0+g 0)*x+BW.sm c (λn=>f _+g _)=(f 0*x+BW.sm c λn=>f _)+(g 0*x+BW.sm c λn=>g _);rw[ih (λn=>f _) (λn=>g _),Int.add_mul];exact ed ..
theorem ũ(c:List Int)(i:Int)(f:Nat->Int):BW.sm c (λn=>i*f n)=i*BW.sm c f:=by
 induction c generalizing f with
 |nil=>exact(Int.mul_zero i).symm|cons x c ih=>
  show i*f 0*x+BW.sm c (λn=>i*f _)=i*(f 0*x+BW.sm c λn=>f _);rw[ih λn=>f _,Int.mul_add,Int.mul_assoc]
theorem Ū(c:List Int)(f g:Nat->Int):BW.sm c (λn=>f n-g n)=BW.sm c f-BW.sm c g:=by
 induction c generalizing f g with
 |nil=>rfl|cons x c ih=>
  show(f 0-g 0)*x+BW.sm c (λn=>f _-g _)=(f 0*x+BW.sm c λn=>f _)-(g 0*x+BW.sm c λn=>g _);rw[ih (λn=>f _) (λn=>g _),Int.sub_mul];exact nR ..
theorem nT(c:List Int):BW.sm c (λz=>0)=0:=by
 induction c with
 |nil=>rfl|cons x c ih=>exact(congrArg (λy=>0*x+y) ih).trans (by rw[Int.zero_mul];rfl)
theorem ū(c:List Int)(m:Nat):BW.sm c (λn=>Bool.rec (motive:=λz=>Int) 0 1 (Ct n m))=BW.gt c m:=by
 induction c generalizing m with
 |nil=>rfl|cons x c ih=>
  cases m with
  |zero=>exact(congrArg (λy=>1*x+y) (nT c)).trans (by rw[Int.one_mul];exact Int.add_zero x)|succ m=>exact(congrArg (λy=>0*x+y) (ih m)).trans (by rw[Int.zero_mul];exact ee _)
theorem Ŭ(c:List Int)(e:BW):e.ev c=e.Hp+BW.sm c λn=>e.co n:=by
 induction e with
 |k i=>exact(congrArg (λy=>(i:Int)+y) (nT c)).symm|v n=>exact((ū c n).symm.trans (ee _).symm)|a x y hx hy=>
  show x.ev c+y.ev c=(x.Hp+y.Hp)+BW.sm c λn=>x.co n+y.co n;rw[hx,hy,Ũ];exact ed ..
 |m i x hx=>
  show i*x.ev c=i*x.Hp+BW.sm c λn=>i*x.co n;rw[hx,ũ,Int.mul_add]
 |s x y hx hy=>
  show x.ev c-y.ev c=(x.Hp-y.Hp)+BW.sm c λn=>x.co n-y.co n;rw[hx,hy,Ū];exact(nR ..).symm
def BW.mx(e:BW):Nat:=BW.rec (λz=>0) (λn=>n+1) (λz z x y=>x+y) (λz z x=>x) (λz z x y=>x+y) e
theorem ŭ{e:BW}(l:e.mx<=i):e.co i=0:=by
 induction e with
 |k j=>rfl|v n=>
  show Bool.rec (motive:=λz=>Int) 0 1 _=0;rw[Bool.eq_false_iff.mpr λq=>Nat.ne_of_gt l (HC q)]
 |a x y hx hy=>
  show x.co i+y.co i=0;rw[hx (Cr (QE ..) l),hy (Cr (QF ..) l)];rfl
 |m j x hx=>
  show j*x.co i=0;rw[hx l,Int.mul_zero]
 |s x y hx hy=>
  show x.co i-y.co i=0;rw[hx (Cr (QE ..) l),hy (Cr (QF ..) l)];rfl
def BW.MJ(nat:Bool)(e:BW):Bool:=decide (0<=e.Hp)&&(Ey e.mx).all λi=>Bool.rec (motive:=λx=>Bool) (decide (e.co i=0)) (decide (0<=e.co i)) nat
theorem Ů(h:∀i,f i=0\/(0<=f i/\∀x∈c,0<=x)):0<=BW.sm c f:=by
 induction c generalizing f with
 |nil=>exact ef 0|cons x c ih=>
  refine nU ?_ (ih λi=>(h _).imp_right λq=>⟨q.1,λx m=>q.2 x (DV _ m)⟩);rcases h 0 with q|q
  .rw [q,Int.zero_mul];exact ef 0
  .exact Int.mul_nonneg q.1 (q.2 x D0)
theorem NR(h:BW.MJ nat e=U)(l:nat=U->∀x∈c,0<=x):0<=e.ev c:=by
 have h:=EF.mp h;rw[Ŭ];refine nU (of_decide_eq_true h.1) (Ů λi=>?_);by_cases q:i<e.mx
 .have z:=Gm.mp h.2 i (Xh.mpr q)
  cases nat with
  |false=>exact .inl (of_decide_eq_true z)|true=>exact .inr ⟨of_decide_eq_true z,l rfl⟩
 .exact .inl (ŭ (J1 q))
theorem IX(h:l.ev c<=r.ev c)(k:0<=(BW.s e (.m n (.s r l))).ev c):0<=e.ev c:=by have a:=Int.mul_nonneg (CU n) (nV h);exact Xi a (US k)
theorem Co(g1 g2:BW)(k:BW.MJ A1 (.s g2 g1)=U)(c:List Int):g1.ev c<=g2.ev c:=US (NR k nofun)
theorem Ax(n1:Nat)(l1 r1 g1 g2:BW)(k:BW.MJ A1 (.s (.s g2 g1) (.m n1 (.s r1 l1)))=U)(c:List Int)(h1:l1.ev c<=r1.ev c):g1.ev c<=g2.ev c:=US (IX h1 (NR k nofun))
theorem CB(n1:Nat)(l1 r1:BW)(n2:Nat)(l2 r2 g1 g2:BW)(k:BW.MJ A1 (.s (.s (.s g2 g1) (.m n1 (.s r1 l1))) (.m n2 (.s r2 l2)))=U)(c:List Int)(h1:l1.ev c<=r1.ev c)(h2:l2.ev c<=r2.ev c):g1.ev c<=g2.ev c:=US (IX h1 (IX h2 (NR k nofun)))
theorem QG(n1:Nat)(l1 r1:BW)(n2:Nat)(l2 r2:BW)(n3:Nat)(l3 r3 g1 g2:BW)(k:BW.MJ A1 (.s (.s (.s (.s g2 g1) (.m n1 (.s r1 l1))) (.m n2 (.s r2 l2))) (.m n3 (.s r3 l3)))=U)(c:List Int)(h1:l1.ev c<=r1.ev c)(h2:l2.ev c<=r2.ev c)(h3:l3.ev c<=r3.ev c):g1.ev c<=g2.ev c:=US (IX h1 (IX h2 (IX h3 (NR k nofun))))
theorem LN(a b:Nat):a<=a-b+b:=Nat.sub_le_iff_le_add.mp (Ds _)
theorem K3{a b:Nat}(h:b<=a):a-b+b<=a:=BQ (Xj h)
theorem KY(h:0<=a):(a.toNat:Int)<=a:=Eg (S6 h)
theorem K4(h:1<=0):False:=Nat.not_succ_le_zero 0 h
theorem QH(h:(1:Int)<=0):False:=of_decide_eq_false rfl h
def BW.nW(c:List Nat)(n:Nat):Nat:=List.rec (motive:=λy=>Nat->Nat) (λy=>0) (λx y ih n=>Nat.rec (motive:=λy=>Nat) x (λn y=>ih n) n) c n
def BW.en(c:List Nat)(e:BW):Nat:=BW.rec (λi=>i) (BW.nW c) (λz z x y=>x+y) (λi z x=>i*x) (λz z x y=>x-y) e
def BW.E5(e:BW):Bool:=BW.rec (λz=>U) (λz=>U) (λz z x y=>x&&y) (λz z x=>x) (λz z z z=>A1) e
theorem ů(c:List Nat)(n:Nat):((BW.nW c n:Nat):Int)=BW.gt (c.map Dl) n:=by
 induction c generalizing n with
 |nil=>rfl|cons x c ih=>
  cases n with
  |zero=>rfl|succ n=>exact ih n
theorem Xk{e:BW}(h:e.E5=U):((e.en c:Nat):Int)=e.ev (c.map Dl):=by
 induction e with
 |k i=>rfl|v n=>exact ů c n|a x y hx hy=>
  have h:=EF.mp h;show((x.en c+y.en c:Nat))=x.ev _+y.ev _;rw[Int.natCast_add,hx h.1,hy h.2]
 |m i x hx=>
  show((i*x.en c:Nat))=i*x.ev _;rw[Int.natCast_mul,hx h]
 |s x y hx hy=>exact QI h
theorem MK{l r:BW}(k:(l.E5&&r.E5)=U)(h:l.en c<=r.en c):l.ev (c.map Dl)<=r.ev (c.map Dl):=by have k:=EF.mp k;rw[<-Xk k.1,<-Xk k.2];exact DM.mpr h
theorem UT(k:(l.E5&&r.E5)=U)(h:0<=(BW.s r l).ev (c.map Dl)):l.en c<=r.en c:=by have k:=EF.mp k;refine DM.mp ?_;rw[Xk k.1,Xk k.2];exact US h
theorem UU{c:List Nat}:∀x∈c.map Dl,0<=x:=λx m=>by obtain⟨n,_,rfl⟩:=Eh.mp m;exact CU n
theorem Ei(g1 g2:BW)(k:((g1.E5&&g2.E5)&&BW.MJ U (.s g2 g1))=U)(c:List Nat):g1.en c<=g2.en c:=UT (EF.mp k).1 (NR (EF.mp k).2 λx=>UU)
theorem BG(n1:Nat)(l1 r1 g1 g2:BW)(k:((g1.E5&&g2.E5)&&((l1.E5&&r1.E5)&&BW.MJ U (.s (.s g2 g1) (.m n1 (.s r1 l1)))))=U)(c:List Nat)(h1:l1.en c<=r1.en c):g1.en c<=g2.en c:=by have k:=EF.mp k;have k2:=EF.mp k.2;exact UT k.1 (IX (MK k2.1 h1) (NR k2.2 λx=>UU))
theorem By(n1:Nat)(l1 r1:BW)(n2:Nat)(l2 r2 g1 g2:BW)(k:((g1.E5&&g2.E5)&&((l1.E5&&r1.E5)&&((l2.E5&&r2.E5)&&BW.MJ U (.s (.s (.s g2 g1) (.m n1 (.s r1 l1))) (.m n2 (.s r2 l2))))))=U)(c:List Nat)(h1:l1.en c<=r1.en c)(h2:l2.en c<=r2.en c):g1.en c<=g2.en c:=by have k:=EF.mp k;have k2:=EF.mp k.2;have k3:=EF.mp k2.2;exact UT k.1 (IX (MK k2.1 h1) (IX (MK k3.1 h2) (NR k3.2 λx=>UU)))
theorem QJ(n1:Nat)(l1 r1:BW)(n2:Nat)(l2 r2:BW)(n3:Nat)(l3 r3 g1 g2:BW)(k:((g1.E5&&g2.E5)&&((l1.E5&&r1.E5)&&((l2.E5&&r2.E5)&&((l3.E5&&r3.E5)&&BW.MJ U (.s (.s (.s (.s g2 g1) (.m n1 (.s r1 l1))) (.m n2 (.s r2 l2))) (.m n3 (.s r3 l3)))))))=U)(c:List Nat)(h1:l1.en c<=r1.en c)(h2:l2.en c<=r2.en c)(h3:l3.en c<=r3.en c):g1.en c<=g2.en c:=by have k:=EF.mp k;have k2:=EF.mp k.2;have k3:=EF.mp k2.2;have k4:=EF.mp k3.2;exact UT k.1 (IX (MK k2.1 h1) (IX (MK k3.1 h2) (IX (MK k4.1 h3) (NR k4.2 λx=>UU))))
theorem nX(n1:Nat)(l1 r1:BW)(n2:Nat)(l2 r2:BW)(n3:Nat)(l3 r3:BW)(n4:Nat)(l4 eg g1 g2:BW)(k:((g1.E5&&g2.E5)&&((l1.E5&&r1.E5)&&((l2.E5&&r2.E5)&&((l3.E5&&r3.E5)&&((l4.E5&&eg.E5)&&BW.MJ U (.s (.s (.s (.s (.s g2 g1) (.m n1 (.s r1 l1))) (.m n2 (.s r2 l2))) (.m n3 (.s r3 l3))) (.m n4 (.s eg l4))))))))=U)(c:List Nat)(h1:l1.en c<=r1.en c)(h2:l2.en c<=r2.en c)(h3:l3.en c<=r3.en c)(h4:l4.en c<=eg.en c):g1.en c<=g2.en c:=by have k:=EF.mp k;have k2:=EF.mp k.2;have k3:=EF.mp k2.2;have k4:=EF.mp k3.2;have k5:=EF.mp k4.2;exact UT k.1 (IX (MK k2.1 h1) (IX (MK k3.1 h2) (IX (MK k4.1 h3) (IX (MK k5.1 h4) (NR k5.2 λx=>UU)))))
theorem DC(h:n<a)(e:Rt a b=U):n<b:=Hq h (LO e)
section
open PySem PySem.W PySem.Calls PyProof.Rows PySem.SeqAt
inductive JR:List Int->List AG->Prop
 |AH:JR [] []|AR {i:Int} {t:Tok} {is:List Int} {xs:List AG}:JR is xs->JR (i::is) (.int i t::xs)
def K_(h:Ca)(l:List Int)(a:BJ):Prop:=∃xs,h.get? a=H (Fg xs)/\JR l xs
inductive J2(h:Ca):EJ->AG->Prop
 |B (i:Int) (t:Tok):J2 h (.B i) (.int i t)|An (x:Str) (t:Tok):J2 h (.An x) (.str x t)|A3 {l:List Int} {a:BJ}:K_ h l a->J2 h (.A3 l) (.ref a)
inductive IY(h:Ca):List EJ->List AG->Prop
 |AH:IY h [] []|AR {k:EJ} {v:AG} {ks:List EJ} {vs:List AG}:J2 h k v->IY h ks vs->IY h (k::ks) (v::vs)
def isKey(h:Ca)(ks:List EJ)(a:BJ):Prop:=∃xs,h.get? a=H (Fg xs)/\IY h ks xs
theorem ek(e:Fg xs=Fg ys):xs=ys:=by injection e with _ _ e _;injection e with e _;exact congrArg Array.toList e
theorem JR.inj(a:JR x xs)(b:JR y xs):x=y:=by
 induction a generalizing y with
 |AH=>cases b;rfl
 |AR _ ih=>cases b with|AR b=>rw[ih b]
theorem K_.inj(p:K_ h x a)(q:K_ h y a):x=y:=by obtain⟨xs,e,r⟩:=p;obtain⟨ys,e',r'⟩:=q;obtain rfl:=ek (BR (e.symm.trans e'));exact r.inj r'
set_option tactic.hygienic true in
theorem J2.inj(p:J2 h x v)(q:J2 h y v):x=y:=by cases p<;>cases q<;>first|rfl|(rename_i a _ b;rw[a.inj b])
theorem IY.inj(a:IY h x xs)(b:IY h y xs):x=y:=by
 induction a generalizing y with
 |AH=>cases b;rfl
 |AR p _ ih=>cases b with|AR q b=>rw[ih b,p.inj q]
theorem isKey.inj(p:isKey h x a)(q:isKey h y a):x=y:=by obtain⟨xs,e,r⟩:=p;obtain⟨ys,e',r'⟩:=q;obtain rfl:=ek (BR (e.symm.trans e'));exact r.inj r'
theorem K_.Bo(k:EX h h')(p:K_ h l a):K_ h' l a:=p.elim λxs y=>⟨xs,k _ _ y.1,y.2⟩
theorem J2.Bo(k:EX h h')(p:J2 h x v):J2 h' x v:=by cases p with|B=>exact .B ..|An=>exact .An ..|A3 q=>exact .A3 (q.Bo k)
theorem IY.Bo(k:EX h h')(p:IY h x v):IY h' x v:=by induction p with|AH=>exact .AH|AR a _ ih=>exact .AR (a.Bo k) ih
theorem isKey.Bo(k:EX h h')(p:isKey h l a):isKey h' l a:=p.elim λxs y=>⟨xs,k _ _ y.1,y.2.Bo k⟩
theorem Xl(ho:h.get? d=H o)(hd:o.data=.dict es ep)(hs:Hr d h h'):EX h h':=by intro a xs e;refine(hs.2 a λq=>?_).trans e;clear hs;subst q;rw[ho] at e;clear ho;cases e;cases hd
theorem K_.FH(p:K_ h l a):∃xs,h.IsTuple a xs/\JR l xs.toList:=p.elim λxs y=>⟨_,⟨_,y.1,rfl,0,rfl⟩,y.2⟩
theorem JR.Cy(r:JR l xs):I xs=I l:=by induction r with|AH=>rfl|AR _ ih=>simp[ih]
theorem IY.Cy(r:IY h l xs):I xs=I l:=by induction r with|AH=>rfl|AR _ _ ih=>simp[ih]
theorem JR.Dh(r:JR l xs):∀{j:Nat} {v:AG},xs[j]?=H v->∃i t,l[j]?=H i/\v=.int i t:=by
 induction r with
 |AH=>intro j v e;simp at e|@AR i t is xs _ ih=>
  intro j v e;cases j with
  |zero=>simp at e;exact⟨i,t,rfl,e.symm⟩|succ j=>simpa using ih e
theorem IY.Dh(r:IY h l xs):∀{j:Nat} {v:AG},xs[j]?=H v->∃k,l[j]?=H k/\J2 h k v:=by
 induction r with
 |AH=>intro j v e;simp at e|@AR k t is xs p _ ih=>
  intro j v e;cases j with
  |zero=>simp at e;subst e;exact⟨k,rfl,p⟩|succ j=>simpa using ih e
theorem Xm{α:Type} [DecidableEq α](a b:α):(a==b)=decide (a=b):=rfl
theorem eo{α:Type} [DecidableEq α](d:α):∀(x y:List α),((Ey (min (I x) (I y))).all (λj=>decide (x.getD j d=y.getD j d))&&I x==I y)=decide (x=y)
 |[],[]=>rfl|[],_::_=>by simp|_::_,[]=>by simp|a::x,b::y=>by
  have ih:=eo d x y;simp only[er,Nat.succ_min_succ,List.range_succ_eq_map,nY,List.all_map];rw[show((λj=>decide _)∘Nat.succ)=λj=>decide (x.getD j d=y.getD j d) from rfl];by_cases hab:a=b
  .subst hab
   simpa using ih
  .simp [hab]
theorem Ű(hu:A.units<cLine)(p:K_ s.heap x a)(q:K_ s.heap y b):EqAt A s (.ref a) (.ref b) (decide (x=y)):=by
 by_cases e:a=b
 .subst e
  obtain rfl:=p.inj q;rw[decide_eq_true rfl];exact .same _
 .obtain ⟨xs,hx,rx⟩:=p.FH
  obtain⟨ys,hy,Dz⟩:=q.FH;have h:=RcAt.tuples (e:=λj=>decide (x.getD j 0=y.getD j 0)) hx hy hu λj h1 h2=>by obtain⟨i,t,ei,e1⟩:=rx.Dh (j:=j) (v:=xs[j]) (by simp[h1]);obtain⟨i',t',eu,e2⟩:=Dz.Dh (j:=j) (v:=ys[j]) (by simp[h2]);rw[e1,e2];simp only[List.getD,ei,eu,Option.getD_some];exact EqAt.int_int i t i' t'
  have l1:=rx.Cy;have l2:=Dz.Cy;simp only[Array.length_toList] at l1 l2;rw[l1,l2,eo] at h;exact .of_refs e h
theorem ű(hu:A.units<cLine)(p:J2 s.heap x u)(q:J2 s.heap y v):EqAt A s u v (decide (x=y)):=by
 cases p with
 |B i t=>
  cases q with
  |B j u=>have:=EqAt.int_int (A:=A) (s:=s) i t j u;rw[Xm] at this;simpa[EJ.B.injEq] using this|An y u=>simpa using EqAt.int_str i t y u|A3 q=>obtain⟨ys,hy,_⟩:=q.FH;simpa using EqAt.int_tuple i t hy hu
 |An z t=>
  cases q with
  |B j u=>simpa using EqAt.str_int z t j u|An y u=>have:=EqAt.str_str (A:=A) (s:=s) z t y u;rw[Xm] at this;simpa[EJ.An.injEq] using this|A3 q=>obtain⟨ys,hy,_⟩:=q.FH;simpa using EqAt.str_tuple z t hy hu
 |A3 p=>
  cases q with
  |B j u=>obtain⟨ys,hy,_⟩:=p.FH;simpa using EqAt.tuple_int j u hy hu
  |An y u=>obtain⟨ys,hy,_⟩:=p.FH;simpa using EqAt.tuple_str y u hy hu
  |A3 q=>have:=Ű hu p q;simpa[EJ.A3.injEq] using this
theorem Ų(hu:A.units+1<cLine)(p:isKey s.heap x a)(q:isKey s.heap y b):EqAt A s (.ref a) (.ref b) (decide (x=y)):=by
 by_cases e:a=b
 .subst e
  obtain rfl:=p.inj q;rw[decide_eq_true rfl];exact .same _
 .obtain ⟨xs,hx,rx⟩:=p
  obtain⟨ys,hy,Dz⟩:=q;have h:=RcAt.tuples (e:=λj=>decide (x.getD j default=y.getD j default)) ⟨_,hx,rfl,0,rfl⟩ ⟨_,hy,rfl,0,rfl⟩ (BG 1 (.a AI AF) A7 AI A7 A4 [A.units,cLine] hu) λj h1 h2=>by obtain⟨i,ei,e1⟩:=rx.Dh (j:=j) (v:=xs.toArray[j]) (by simp);obtain⟨i',eu,e2⟩:=Dz.Dh (j:=j) (v:=ys.toArray[j]) (by simp);simp only[List.getD,ei,eu,Option.getD_some];exact ű hu e1 e2
  simp only[ez,rx.Cy,Dz.Cy,eo] at h;exact .of_refs e h
section
variable{E:AG->BS->Prop}
def Xn(w:CO):EJ->Int
 |.B i=>hashInt i|.An x=>hashStr w x|.A3 l=>reduceHash (Xo (l.map hashInt))
def n_:EJ->Nat
 |.B _=>1|.An _=>1|.A3 l=>I l+1
def UW:List EJ->Nat
 |[]=>0|k::r=>n_ k+UW r
theorem nc{a:BJ}{n d:Nat}{z:Int}{Q:Int->BS->Prop}(hu:A.units<cLine)(ho:s.heap.get? a=H (Fg xs))
  (loop:∀(A':I_) (E':AG->BS->Prop) (Q':Array Int->BS->Prop),A'.units<=A.units+1->(∀b:Array Int,reduceHash (Xo b.toList)=z->Q' b {s with toks:=s.toks+d})->
   wpAny (model prog w) A' (forIn xs #[] λx r=>do let h <-pyHash x;pure LP;pure (S7 (r.push h))) Q' E' s)
  (h:Q z {s with toks:=s.toks+(d+1)}):wpAny (model prog w) A (pyHash (.ref a)) Q E s:=by
 refine pyHash_slot ⟨_,ho,rfl⟩ F.slot_tuple_hash F.entry_tuple_hash (F.args_tuple_hash_1 _) (beq_builtin_none _) (.inr hu) ?_;show wpAny _ _ (ų _>>=_) _ _ s;refine Ao (wpAny_tupleItemsOf ho rfl ?_);refine Ao ?_;rw[<-Array.forIn_toList];refine loop _ _ _ (Ds _) λb hb=>?_;exact Ao (wpAny_mkInt (Bg ⟨_,_,rfl,by rw[hb];exact h⟩))
theorem Ŵ(r:JR l xs)
  (h:∀b':Array Int,b'.toList=b.toList++l.map hashInt->Q b' {s with toks:=s.toks+I l}):
  wpAny (model prog w) A (forIn xs b λx r=>do let h <-pyHash x;pure LP;pure (S7 (r.push h))) Q E s:=by
 induction r generalizing s b with
 |AH=>exact Bg (h b (Oc _).symm)|AR r ih=>
  rw[S8];refine Ao (Ao (wpAny_pyHash_int (Ao (Bg (Bg ?_)))));refine ih λb' hb=>?_
  have:=h b' (by rw[hb];simp);simpa[f5,Xp 1] using this
theorem ŵ(hu:A.units<cLine)(p:K_ s.heap l a)(h:Q (reduceHash (Xo (l.map hashInt))) {s with toks:=s.toks+(I l+1)}):
  wpAny (model prog w) A (pyHash (.ref a)) Q E s:=by
 obtain⟨xs,ho,r⟩:=p;exact nc (n:=0) hu ho (λA' E' Q' x hq=>Ŵ r λb' hb=>hq b' (by rw[hb];rfl)) h
theorem Ŷ(hu:A.units<cLine)(p:J2 s.heap k v)(h:Q (Xn w k) {s with toks:=s.toks+n_ k}):wpAny (model prog w) A (pyHash v) Q E s:=by
 cases p with
 |B i t=>exact wpAny_pyHash_int h|An x t=>exact wpAny_pyHash_str h|A3 p=>exact ŵ hu p h
theorem ŷ(r:IY hp l xs)(eh:s.heap=hp)(hu:A.units<cLine)
  (h:∀b':Array Int,b'.toList=b.toList++l.map (Xn w)->Q b' {s with toks:=s.toks+UW l}):
  wpAny (model prog w) A (forIn xs b λx r=>do let h <-pyHash x;pure LP;pure (S7 (r.push h))) Q E s:=by
 induction r generalizing s b with
 |AH=>exact Bg (h b (Oc _).symm)|AR p r ih=>
  rw[S8];refine Ao (Ao (Ŷ hu (eh▸p) (Ao (Bg (Bg ?_)))));refine ih eh λb' hb=>?_
  have:=h b' (by rw[hb];simp);simpa[UW,f5] using this
theorem Ÿ(hu:A.units+1<cLine)(p:isKey s.heap l a)(h:Q (reduceHash (Xo (l.map (Xn w)))) {s with toks:=s.toks+(UW l+1)}):
  wpAny (model prog w) A (pyHash (.ref a)) Q E s:=by
 obtain⟨xs,ho,r⟩:=p;exact nc (n:=0) (BG 1 (.a AI AF) A7 AI A7 A4 [A.units,cLine] hu) ho (λA' E' Q' hle hq=>ŷ r rfl (By 1 A2 BB 1 (.a BB AF) Aa AI Aa A4 [A'.units,A.units,cLine] hle hu) λb' hb=>hq b' (by rw[hb];rfl)) h
theorem ng(ho:s.heap.get? a=H (Fg xs))
  (each:∀v∈xs,∀(A':I_) (Q':Bool->BS->Prop),Q' U s->wpAny M A' (eqIsQuiet n v) Q' E s)(h:Q U s):wpAny M A (eqIsQuiet (n+1) (.ref a)) Q E s:=by
 have hT:s.TypeIs (.ref a) _:=⟨_,ho,rfl⟩;unfold eqIsQuiet;refine Ao (f6 hT F.slot_tuple_eq.lookup ?_);refine Ao (wpAny_isInstance hT isSubtype_tuple_tuple ?_);refine Ao (wpAny_seqItems ho rfl ?_);refine Ao ?_;rw[<-Array.forIn_toList];refine wpAny_forIn_list _ (λrest r s'=>r.1=AB/\s'=s/\∀v∈rest,v∈xs) _ ?_ ?_ _ _ ⟨rfl,rfl,λv hv=>hv⟩
 .rintro v rest r s' ⟨hr,rfl,hall⟩
  refine Ao (each v (hall v D0) _ _ ?_);exact Bg ⟨rfl,rfl,λu Ź=>hall u (DV _ Ź)⟩
 .rintro ⟨r1,r2⟩ s' ⟨hr,rfl,_⟩
  subst hr;exact Bg h
theorem ź(p:isKey s.heap l a)(h:Q U s):wpAny M A (eqIsQuiet 8 (.ref a)) Q E s:=by
 obtain⟨xs,ho,r⟩:=p;refine ng ho (λv hv A' Q' hq=>?_) h;obtain⟨j,hj⟩:=UX.mp hv;obtain⟨k,_,hk⟩:=r.Dh hj;cases hk with
 |B i t=>exact Bg hq|An i t=>exact Bg hq|A3 p=>
  obtain⟨ys,hy,Dz⟩:=p;refine ng hy (λv hv A'' aoR hq'=>?_) hq;obtain⟨j',hj'⟩:=UX.mp hv;obtain⟨i,t,_,rfl⟩:=Dz.Dh hj';exact Bg hq'
def Ż(prog:Program)(w:CO):HeapKind prog w (List EJ) where
 is:=isKey
 hash:=λl=>reduceHash (Xo (l.map (Xn w)))
 draws:=λl=>UW l+1
 room:=λA=>A.units+1<cLine
 inj:=λp q=>p.inj q
 keeps:=λp ho hd hs=>p.Bo (Xl ho hd hs)
 pyHash:=λhu p h=>Ÿ hu p h
 eqBool:=λhu p q h=>Ų hu p q _ _ _ _ h
 quiet:=λp h=>ź p h
end
def S9(n:Str):Option AG:=([("len",.builtin "len"),("range",.type "range"),("tuple",.type "tuple"),("list",.type "list"),("str",.type "str"),("sorted",.builtin "sorted")]:List (Str×AG)).lookup n
structure Cfg where
 Gn:Program
 w:CO
 G:Env
 h₀:Ca
 K:Frag
 Fj:Nat->BJ
 LQ:Nat->BJ
 UY:∀a b,G.AM a=G.AM b->a=b
 HD:K.In h₀
 nh:h₀.NoLimit
 ni:(h₀.get? sysModules).isSome=U
 U_:List (Str×V)
 Xq:Nat->Str
 Xr:Nat->Bool
 Xs:Nat->Str
 Ua:Nat->Bool
 nj:∀(k:Nat) (n:Str) (c:V),U_[k]?=H (n,c)->∃x,nsIn K mainGlobals n=H (H x)/\∀h,K.In h->BN G.AM (λy=>[]) h c x
 nk:∀f,Xr f=U->nsIn K mainGlobals (Xq f)=H (H (.ref (LQ f)))/\keepIn K (.ref (LQ f))=U
 nq:∀c,Ua c=U->nsIn K mainGlobals (Xs c)=H (H (.ref (Fj c)))/\keepIn K (.ref (Fj c))=U/\makesIn K (Fj c)=U
 nt:∀c f,G.NP c=H f->findIn K (.ref (Fj c)) "__init__"=H (H (.ref (LQ f)))/\isFn K (.ref (LQ f))=U
 nu:∀c,Ua c=U->G.NP c=AB->findIn K (.ref (Fj c)) "__init__"=H (H (.builtin "object.__init__"))
 f7:∀c n,G.MI c n=U->plainGet K (Fj c) (G.AM n)=U/\hasDictIn K (Fj c)=U/\findIn K (.ref (Fj c)) (G.AM n)=H AB
 nv:∀c n,G.MI c n=U->plainOver K (Fj c)=U/\takerIn K (Fj c) (G.AM n)=H AB/\findIn K (.ref (Fj c)) "__setattr__"=H (H (.builtin "object.__setattr__"))
 ny:∀c n f,G.QB c n=H f->findIn K (.ref (Fj c)) (G.AM n)=H (H (.ref (LQ f)))/\isFn K (.ref (LQ f))=U/\plainGet K (Fj c) (G.AM n)=U/\keepIn K (.ref (LQ f))=U
 o4:∀n v,S9 n=H v->nsIn K mainGlobals n=H AB/\nsIn K builtinsNs n=H (H v)
 Xu:BJ
 o5:nsIn K mainGlobals "TID_PRIM"=H (H (.ref Xu))
 o6:(Xu==sysModules)=A1
 o7:∀h,K.In h->∃kvs:List (Int×AG),h.DictOf (intKind prog w) Xu kvs/\kvs.map (·.1)=G.S1
abbrev Cfg.M(X:Cfg):Model:=model X.Gn X.w
def F0(h:Ca)(a:BJ)(xs:List AG):Prop:=∃n,h.get? a=H (FT xs n)
theorem F0.Ep(p:F0 h a xs):h.IsList a xs.toArray:=p.elim λn e=>⟨_,e,rfl,n,rfl⟩
def Ub(a b:Int):Prop:=a=b
def Xv(h:Ca)(a:List EJ)(b:List EJ×BJ):Prop:=a=b.1
section
variable(X:Cfg)
abbrev f9(a:Nat)(b:Str):Prop:=b=X.G.AM a
inductive ż(n:Str)(P:AG->Prop)(R:List Fz->Prop)(es:List Fz):Prop
 |mk (hs:Int) (t:Tok) (y:AG) (es':List Fz) (e:es=⟨hs,.str n t,y⟩::es') (p:P y) (r:R es')
def IR(β:Af)(h:Ca):List (Nat×V)->List Fz->Prop
 |[],es=>es=[]|(a,v)::r,es=>ż (X.G.AM a) (BN X.G.AM β h v) (IR β h r) es
def Xw(xs:List (List EJ×BJ×AG)):List ((List EJ×BJ)×AG):=xs.map λx=>((x.1,x.2.1),x.2.2)
inductive Xx{α:Type}(p:BJ×BJ)(n:Nat)(D R:α->Prop):Prop
 |mk (e:p.1=p.2) (b:n<=BU) (xs:α) (d:D xs) (r:R xs)
inductive Ž(β:Af)(h:Ca)(p:BJ×BJ)(c:Nat)(l:List (Nat×V)):Prop
 |mk (e:h.get? p.1=H (instObj (X.Fj c) p.2)) (b:I l<=200/\∀x∈l,X.G.MI c x.1=U) (es:List Fz) (n:Nat) (d:h.get? p.2=H (K2 es n)) (r:IR X β h l es)
def ER(β:Af)(h:Ca)(p:BJ×BJ):A_->Prop
 |.A6 l=>Xx p (I l) (F0 h p.2) (C5 X.G.AM β h l)|.Ad l=>Xx p (I l) (h.DictOf (intKind X.Gn X.w) p.2) (Fi X.G.AM Ub β h l)|.BC l=>Xx p (I l) (h.DictOf (strKind X.Gn X.w) p.2) (Fi X.G.AM (f9 X) β h l)|.Ff l=>Xx p (I l) (h.DictOfH (Ż X.Gn X.w) p.2) λxs=>Fi X.G.AM (Xv h) β h l (Xw xs)|.CK c l=>Ž X β h p c l
structure Bh(β:Af)(A0:A0)(h:Ca):Prop where
 G0:∀(s i:Nat) (o:A_),(A0 s)[i]?=H o->∃p,(β s)[i]?=H p/\ER X β h p o
 Aj:∀s,I (β s)=I (A0 s)
 Od:∀(s i s' i':Nat) (p p':BJ×BJ),(β s)[i]?=H p->(β s')[i']?=H p'->p.2=p'.2->s=s'/\i=i'
 G1:∀b o,X.h₀.get? b=H o->h.get? b=H o
 Oe:∀a,β.mut a->X.h₀.get? a=AB
inductive ž(β:Af)(h:Ca)(l:List V)(x:AG):Prop
 |mk (a:BJ) (xs:List AG) (e:x=.ref a) (p:F0 h a xs) (r:C5 X.G.AM β h l xs) (b:I l<=BU) (m:¬β.mut a) (z:X.h₀.get? a=AB)
inductive ſ(β:Af)(h:Ca)(l:List V)(x:AG):Prop
 |mk (a:BJ) (xs:List AG) (e:x=.ref a) (p:F0 h a xs) (r:C5 X.G.AM β h l xs) (b:I l<=BU) (m:¬β.mut a)
def DH(β:Af)(h:Ca):T->AG->Prop
 |.AQ,_=>False|.v v,x=>BN X.G.AM β h v x|.Al l,x=>ž X β h l x|.DT l,x=>ſ X β h l x
inductive o8(β:Af)(h:Ca)(t:T)(o:Option AG):Prop
 |mk (x:AG) (e:o=H x) (r:DH X β h t x)
def JS(β:Af)(h:Ca)(t:T)(o:Option AG):Prop:=match t with
 |.AQ=>o=AB|t=>o8 X β h t o
end
theorem IR.Bo(k:EX h h')(l:Af.le β β'):∀{v:List (Nat×V)} {x:List Fz},IR X β h v x->IR X β' h' v x:=by
 intro BE;induction BE with
 |nil=>
  rintro _ e;exact e
 |cons hd0 r ih=>
  rintro ys e;obtain⟨hs,t,y,es,rfl,hy,ht⟩:=e;exact⟨hs,t,y,es,rfl,hy.Bo k l,ih ht⟩
theorem Fi.o9{k k':α->κ->Prop}(kk:EX h h')(l:Af.le β β')(w:∀a b,k a b->k' a b):∀{v:List (α×V)} {x:List (κ×AG)},Fi tab k β h v x->Fi tab k' β' h' v x:=by
 intro BE;induction BE with
 |nil=>
  rintro _ e;exact e
 |cons hd0 r ih=>
  rintro ys e;obtain⟨b,y,t,rfl,hk,hy,ht⟩:=e;exact⟨b,y,t,rfl,w _ _ hk,hy.Bo kk l,ih ht⟩
theorem Fi.Cy:∀{v:List (α×V)} {x:List (κ×AG)},Fi tab k β h v x->I x=I v:=by
 intro BE;induction BE with
 |nil=>
  rintro _ e;cases e;rfl
 |cons hd0 r ih=>
  rintro ys e;obtain⟨b,y,t,rfl,hk,hy,ht⟩:=e;simp[ih ht]
theorem ER.Bo(k:EX h h')(l:Af.le β β')(k1:∀o,h.get? p.1=H o->h'.get? p.1=H o)(k2:∀o,h.get? p.2=H o->h'.get? p.2=H o)(r:ER X β h p o):ER X β' h' p o:=by
 cases o with
 |A6 _=>rcases r with⟨a,b,xs,⟨n,e⟩,r⟩;exact⟨a,b,xs,⟨n,k2 _ e⟩,r.Bo k l⟩
 |Ad _=>rcases r with⟨a,b,kvs,⟨o,es,ep,e,r⟩,q⟩;exact⟨a,b,kvs,⟨o,es,ep,k2 _ e,r⟩,q.Bo k l⟩
 |BC _=>rcases r with⟨a,b,kvs,⟨o,es,ep,e,r⟩,q⟩;exact⟨a,b,kvs,⟨o,es,ep,k2 _ e,r⟩,q.Bo k l⟩
 |Ff _=>rcases r with⟨a,b,kvs,⟨o,es,ep,e,c,d,f,g,i⟩,q⟩;exact⟨a,b,kvs,⟨o,es,ep,k2 _ e,c,d,f,λx hx=>isKey.Bo k (g x hx),i⟩,q.o9 k l λy y e=>e⟩
 |CK _ _=>rcases r with⟨a,b,es,n,e,r⟩;exact⟨k1 _ a,b,es,n,k2 _ e,r.Bo k l⟩
def QK(o:Obj):Prop:=(o.cls=.type "list"/\∃xs n,o.data=.seq xs n)\/∃es ep,o.data=.dict es ep
theorem ER.LR(r:ER X β h p o):∃ob,h.get? p.2=H ob/\QK ob:=by
 cases o with
 |A6 _=>rcases r with⟨_,_,xs,⟨n,e⟩,_⟩;exact⟨_,e,.inl ⟨rfl,_,_,rfl⟩⟩
 |Ad _=>rcases r with⟨_,_,_,⟨o,es,ep,e,_,d,_⟩,_⟩;exact⟨o,e,.inr ⟨es,ep,d⟩⟩
 |BC _=>rcases r with⟨_,_,_,⟨o,es,ep,e,_,d,_⟩,_⟩;exact⟨o,e,.inr ⟨es,ep,d⟩⟩
 |Ff _=>rcases r with⟨_,_,_,⟨o,es,ep,e,_,d,_⟩,_⟩;exact⟨o,e,.inr ⟨es,ep,d⟩⟩
 |CK _ _=>rcases r with⟨_,_,es,n,e,_⟩;exact⟨_,e,.inr ⟨_,_,rfl⟩⟩
theorem Bh.LR{A0:A0}(S:Bh X β A0 h)(m:β.mut a):∃ob,h.get? a=H ob/\QK ob:=by obtain⟨s,p,hp,rfl⟩:=m;obtain⟨i,hi⟩:=UX.mp hp;have hlt:=S.Aj s▸(Dd.mp hi).1;obtain⟨q,hq,r⟩:=S.G0 s i _ (DP hlt);obtain rfl:=BR (hi.symm.trans hq);exact r.LR
theorem fB:¬QK (Fg xs):=by
 rintro(⟨e,_⟩|⟨es,ep,e⟩)
 .simp [Fg] at e
 .cases e
theorem Γ:¬QK (instObj C d):=by
 rintro(⟨e,_⟩|⟨es,ep,e⟩)
 .simp at e
 .cases e
theorem Bh.NS{A0:A0}(S:Bh X β A0 h)(e:h.get? a=H o)(n:¬QK o):¬β.mut a:=λm=>by obtain⟨ob,e',q⟩:=S.LR m;rw[e] at e';cases e';exact n q
theorem Bh.fC{A0:A0}(S:Bh X β A0 h)(P:Step β h β' h'):EX h h':=λa xs e=>P.AX _ _ e (S.NS e fB)
theorem BN.B5{A0:A0}(S:Bh X β A0 h)(P:Step β h β' h')(r:BN X.G.AM β h v x):BN X.G.AM β' h' v x:=r.Bo (S.fC P) P.le
theorem C5.B5{A0:A0}(S:Bh X β A0 h)(P:Step β h β' h')(r:C5 X.G.AM β h v x):C5 X.G.AM β' h' v x:=r.Bo (S.fC P) P.le
theorem Step.Of(P:Step β h β' h')(e:h.get? a=H o)(n:¬β.mut a):¬β'.mut a:=λm=>by
 rcases P.IC a m with q|q
 .exact n q
 .rw [e] at q;cases q
theorem DH.B5{A0:A0}(S:Bh X β A0 h)(P:Step β h β' h')(r:DH X β h t x):DH X β' h' t x:=by
 cases t with
 |AQ=>exact r|v v=>exact BN.B5 S P r|Al l=>rcases r with⟨a,xs,e,⟨n,ho⟩,hv,hl,hm,hs⟩;exact⟨a,xs,e,⟨n,P.AX _ _ ho hm⟩,hv.B5 S P,hl,P.Of ho hm,hs⟩
 |DT l=>rcases r with⟨a,xs,e,⟨n,ho⟩,hv,hl,hm⟩;exact⟨a,xs,e,⟨n,P.AX _ _ ho hm⟩,hv.B5 S P,hl,P.Of ho hm⟩
theorem JS.B5{A0:A0}{h:Ca}(S:Bh X β A0 h)(P:Step β h β' h'):∀{t:T} {o:Option AG},JS X β h t o->JS X β' h' t o
 |.AQ,_,r=>r|.v v,_,⟨x,e,r⟩=>⟨x,e,r.B5 S P⟩|.Al l,_,⟨x,e,r⟩=>⟨x,e,r.B5 S P⟩|.DT l,_,⟨x,e,r⟩=>⟨x,e,r.B5 S P⟩
theorem Bh.AX{A0:A0}(S:Bh X β A0 h)(k:∀b o,h.get? b=H o->h'.get? b=H o):Bh X β A0 h'/\Step β h β h':=by refine⟨⟨λs i o e=>?_,S.Aj,S.Od,λb o e=>k _ _ (S.G1 b o e),S.Oe⟩,⟨Af.le.BO _,λb o e x=>k b o e,λx e=>.inl e⟩⟩;obtain⟨p,hp,r⟩:=S.G0 s i o e;exact⟨p,hp,r.Bo (λa xs e=>k _ _ e) (Af.le.BO _) (λo e=>k _ _ e) λo e=>k _ _ e⟩
def Af.Cu(β:Af)(s:Nat)(p:BJ×BJ):Af:=λk=>if k=s then β s++[p] else β k
set_option tactic.hygienic true in
theorem Af.ML(β:Af)(s:Nat)(p:BJ×BJ):Af.le β (β.Cu s p):=λk=>by
 unfold Af.Cu;split
 .rename_i e;subst e;exact List.prefix_append ..
 .exact List.prefix_refl _
theorem Af.Uc{β:Af}(m:(β.Cu s p).mut a):β.mut a\/a=p.2:=by
 obtain⟨k,q,hq,rfl⟩:=m;unfold Af.Cu at hq;split at hq
 .rcases EY.mp hq with h|h
  .exact .inl ⟨s,q,h,rfl⟩
  .simp at h;clear hq;subst h;exact .inr rfl
 .exact .inl ⟨k,q,hq,rfl⟩
set_option tactic.hygienic true in
theorem Af.Xy{β:Af}{s:Nat}{p:BJ×BJ}{k i:Nat}{q:BJ×BJ}(e:(β.Cu s p k)[i]?=H q):(β k)[i]?=H q\/(k=s/\i=I (β s)/\q=p):=by
 unfold Af.Cu at e;split at e
 .rename_i hk
  subst hk;by_cases hi:i<I (β k)
  .rw [JQ hi] at e;exact .inl e
  .rw [JT (NT.mp hi)] at e
   have h0:i-(I (β k))=0:=by
    rcases oA _ with h|h
    .exact h
    .rw [SA (by assumption)] at e;cases e
   rw[h0] at e;simp at e;exact .inr ⟨rfl,(Fl (By 1 A2 (.a A7 Aa) 1 A7 AK A2 Aa A4 [i,i-(I (β k)),I (β k)] (LN i _) (BQ h0)) (BG 1 A2 A7 A2 A7 A4 [I (β k),i] (J1 hi))),e.symm⟩
 .exact .inl e
theorem Af.Og(β:Af)(s:Nat)(p:BJ×BJ):(β.Cu s p s)[I (β s)]?=H p:=by unfold Af.Cu;simp
set_option tactic.hygienic true in
theorem Bh.CH{A0:A0}(S:Bh X β A0 h)(k:∀b o,h.get? b=H o->h'.get? b=H o)
  (hp:h.get? p.2=AB)(ho:ER X (β.Cu s p) h' p o):Bh X (β.Cu s p) (Bm A0 s o) h'/\Step β h (β.Cu s p) h':=by
 have lt:¬β.mut p.2:=λm=>by obtain⟨_,e,_⟩:=S.LR m;rw[hp] at e;cases e
 have Ud:∀{s i:Nat} {p:BJ×BJ},(β s)[i]?=H p->β.mut p.2:=λ{s i p} e=>⟨s,p,HE e,rfl⟩;refine⟨⟨λs' i o' e=>?_,λs'=>?_,λs₁ i₁ s₂ i₂ p₁ p₂ e₁ e₂ ep=>?_,λb o e=>k _ _ (S.G1 b o e),λa m=>?_⟩,⟨Af.ML β s p,λb o e x=>k b o e,λa m=>?_⟩⟩
 .have Ue:=λ{i s' o'} e=>by obtain⟨q,hq,r⟩:=S.G0 s' i o' e;exact⟨q,(Af.ML β s p).Dh hq,r.Bo (λa xs e=>k _ _ e) (Af.ML β s p) (λo e=>k _ _ e) λo e=>k _ _ e⟩
  unfold Bm DA at e;split at e
  .rename_i hs
   subst hs;by_cases hi:i<I (A0 s')
   .rw [JQ hi] at e
    exact Ue e
   .rw [JT (NT.mp hi)] at e
    have h0:i-(I (A0 s'))=0:=by
     rcases oA _ with h|h
     .exact h
     .rw [SA (by assumption)] at e;cases e
    rw[h0] at e;simp at e;subst e;have hi':i=I (β s'):=by rw[S.Aj];exact Fl (By 1 A2 (.a A7 Aa) 1 A7 AK A2 Aa A4 [i,i-(I (A0 s')),I (A0 s')] (LN i _) (BQ h0)) (BG 1 A2 A7 A2 A7 A4 [I (A0 s'),i] (J1 hi))
    clear hi;subst hi';exact⟨p,Af.Og ..,ho⟩
  .exact Ue e
 .unfold Bm DA Af.Cu
  split
  .simp [S.Aj]
  .exact S.Aj s'
 .rcases Af.Xy e₁ with q₁|⟨rfl,rfl,rfl⟩<;>rcases Af.Xy e₂ with q₂|⟨rfl,rfl,rfl⟩
  .exact S.Od _ _ _ _ _ _ q₁ q₂ ep
  .exact absurd (ep▸Ud q₁) lt
  .exact absurd (ep▸Ud q₂) lt
  .exact ⟨rfl,rfl⟩
 .rcases Af.Uc m with q|rfl
  .exact S.Oe a q
  .exact LM S.G1 hp
 .rcases Af.Uc m with q|rfl
  .exact .inl q
  .exact .inr hp
set_option tactic.hygienic true in
theorem Bh.set{A0:A0}(S:Bh X β A0 h)(hp:(β s)[i]?=H p)(hi:(A0 s)[i]?=H o)(hs:Hr p.2 h h')(ho:ER X β h' p o'):
  Bh X β (Bf A0 s i o') h'/\Step β h β h':=by
 have hm:β.mut p.2:=⟨s,p,HE hp,rfl⟩;have tk:EX h h':=λa xs e=>(hs.2 a λq=>S.NS e fB (q▸hm)).trans e;refine⟨⟨λs' i' o₁ e=>?_,λs'=>?_,S.Od,λb o e=>?_,S.Oe⟩,⟨Af.le.BO _,λb o e n=>(hs.2 b λq=>n (q▸hm)).trans e,λx e=>.inl e⟩⟩
 .have other:∀{o₁:A_},¬(s'=s/\i'=i)->(A0 s')[i']?=H _->∃p',(β s')[i']?=H p'/\ER X β h' p' _:=λ{o₁} ne e=>by
   obtain⟨q,hq,r⟩:=S.G0 s' i' o₁ e;have n2:=λe=>ne (S.Od _ _ _ _ _ _ hq hp e);refine⟨q,hq,r.Bo tk (Af.le.BO _) (λo e=>?_) λo e=>(hs.2 _ n2).trans e⟩;refine(hs.2 _ λe'=>?_).trans e;cases o₁ with
   |CK c l=>
    have:=r.1;exact S.NS this Γ (e'▸hm)
   |A6 l=>exact n2 (r.1▸e')|Ad l=>exact n2 (r.1▸e')|BC l=>exact n2 (r.1▸e')|Ff l=>exact n2 (r.1▸e')
  unfold Bf DA at e;split at e
  .rename_i hs'
   subst hs';by_cases fD:i'=i
   .clear other;subst fD
    have hlt:=(Dd.mp hi).1;rw[LS hlt] at e;cases e;exact⟨p,hp,ho⟩
   .rw [Xz (FU fD)] at e
    exact other (λq=>fD q.2) e
  .rename_i hs'
   exact other (λq=>hs' q.1) e
 .unfold Bf DA
  split
  .rename_i hs';clear hi hp;subst hs';simp[S.Aj]
  .exact S.Aj s'
 .refine (hs.2 b λq=>?_).trans (S.G1 b o e)
  subst q;rw[S.Oe _ hm] at e;cases e
theorem Bh.Δ{A0:A0}(S:Bh X β A0 h)(ha:h.get? a=H ob)(n:¬β.mut a)(ht:∀xs,ob≠Fg xs)(hs:Hr a h h')
  (h0:X.h₀.get? a=AB)(hin:∀C d,ob≠instObj C d):Bh X β A0 h':=by
 have tk:EX h h':=λb xs e=>(hs.2 b λq=>by clear h0 hs n;subst q;rw[ha] at e;exact ht _ (BR e)).trans e;refine⟨λs i o e=>?_,S.Aj,S.Od,λb o e=>(hs.2 b λq=>?_).trans (S.G1 b o e),S.Oe⟩
 .obtain ⟨q,hq,r⟩:=S.G0 s i o e
  have n2:=λe'=>n ⟨s,q,HE hq,e'⟩;refine⟨q,hq,r.Bo tk (Af.le.BO _) (λo' e'=>(hs.2 _ λz=>?_).trans e') λo' e'=>(hs.2 _ n2).trans e'⟩;cases o with
  |CK c l=>
   have:=r.1;rw[z,ha] at this;exact hin _ _ (BR this)
  |A6 l=>exact n2 (r.1▸z)|Ad l=>exact n2 (r.1▸z)|BC l=>exact n2 (r.1▸z)|Ff l=>exact n2 (r.1▸z)
 .clear hs n ha;subst q
  rw[h0] at e;cases e
theorem AJ(h:(a&&b)=U):a=U/\b=U:=EF.mp h
def E0(k n:Nat)(f:n=k->Bool):Bool:=if h:n=k then f h else A1
theorem Ej{f:n=k->Bool}(h:E0 k n f=U){P:Prop}(q:∀e,f e=U->P):P:=by
 unfold E0 at h;split at h
 .exact q _ h
 .cases h
theorem Oh{α:Type} [BEq α] [LawfulBEq α]{a b:α}(h:(a==b)=U){P:α->Prop}(k:P b):P a:=beq_iff_eq.mp h▸k
def GD(x:AY)(f:Str->Pos->Bool):Bool:=E0 23 x.ctorIdx λh=>XM (motive_1:=λy=>Bool) x h f
theorem HF{f:Str->Pos->Bool}(h:GD x f=U){P:AY->Prop}(kk:∀n p,f n p=U->P (.Name n p)):P x:=Ej h λe h=>XM x e (λn p e h=>kk n p h) e h
def J3(x:AY)(f:Const->Nat->Pos->Bool):Bool:=E0 19 x.ctorIdx λh=>n6 (motive_1:=λy=>Bool) x h f
theorem Ka{f:Const->Nat->Pos->Bool}(h:J3 x f=U){P:AY->Prop}(kk:∀v k p,f v k p=U->P (.Constant v k p)):P x:=Ej h λe h=>n6 x e (λv k p e h=>kk v k p h) e h
def Y0(x:AY)(f:UnaryOp->AY->Pos->Bool):Bool:=E0 3 x.ctorIdx λh=>n7 (motive_1:=λy=>Bool) x h f
theorem Uf{f:UnaryOp->AY->Pos->Bool}(h:Y0 x f=U){P:AY->Prop}(kk:∀o v p,f o v p=U->P (.UnaryOp o v p)):P x:=Ej h λe h=>n7 x e (λo v p e h=>kk o v p h) e h
def oB(x:AY)(f:AY->Operator->AY->Pos->Bool):Bool:=E0 2 x.ctorIdx λh=>AY.BinOp.elim (motive_1:=λy=>Bool) x h f
theorem oE{f:AY->Operator->AY->Pos->Bool}(h:oB x f=U){P:AY->Prop}(kk:∀l o r p,f l o r p=U->P (.BinOp l o r p)):P x:=Ej h λe h=>AY.BinOp.elim x e (λl o r p e h=>kk l o r p h) e h
def oF(x:AY)(f:BoolOp->List AY->Pos->Bool):Bool:=E0 0 x.ctorIdx λh=>Θ (motive_1:=λy=>Bool) x h f
theorem oG{f:BoolOp->List AY->Pos->Bool}(h:oF x f=U){P:AY->Prop}(kk:∀o l p,f o l p=U->P (.BoolOp o l p)):P x:=Ej h λe h=>Θ x e (λo l p e h=>kk o l p h) e h
def Y3(x:AY)(f:AY->List CmpOp->List AY->Pos->Bool):Bool:=E0 15 x.ctorIdx λh=>Ξ (motive_1:=λy=>Bool) x h f
theorem fE{f:AY->List CmpOp->List AY->Pos->Bool}(h:Y3 x f=U){P:AY->Prop}(kk:∀l o r p,f l o r p=U->P (.Compare l o r p)):P x:=Ej h λe h=>Ξ x e (λl o r p e h=>kk l o r p h) e h
def MM(x:AY)(f:AY->List AY->List Keyword->Pos->Bool):Bool:=E0 16 x.ctorIdx λh=>AY.Call.elim (motive_1:=λy=>Bool) x h f
theorem Oi{f:AY->List AY->List Keyword->Pos->Bool}(h:MM x f=U){P:AY->Prop}(kk:∀g l k p,f g l k p=U->P (.Call g l k p)):P x:=Ej h λe h=>AY.Call.elim x e (λg l k p e h=>kk g l k p h) e h
def oH(x:AY)(f:AY->AY->AY->Pos->Bool):Bool:=E0 5 x.ctorIdx λh=>AY.IfExp.elim (motive_1:=λy=>Bool) x h f
theorem oJ{f:AY->AY->AY->Pos->Bool}(h:oH x f=U){P:AY->Prop}(kk:∀a b d p,f a b d p=U->P (.IfExp a b d p)):P x:=Ej h λe h=>AY.IfExp.elim x e (λa b d p e h=>kk a b d p h) e h
def Y4(x:AY)(f:AY->Str->Pos->Bool):Bool:=E0 20 x.ctorIdx λh=>Φ (motive_1:=λy=>Bool) x h f
theorem Y5{f:AY->Str->Pos->Bool}(h:Y4 x f=U){P:AY->Prop}(kk:∀v n p,f v n p=U->P (.Attribute v n p)):P x:=Ej h λe h=>Φ x e (λv n p e h=>kk v n p h) e h
def SB(x:AY)(f:AY->AY->Pos->Bool):Bool:=E0 21 x.ctorIdx λh=>Ψ (motive_1:=λy=>Bool) x h f
theorem Ug{f:AY->AY->Pos->Bool}(h:SB x f=U){P:AY->Prop}(kk:∀v s p,f v s p=U->P (.Subscript v s p)):P x:=Ej h λe h=>Ψ x e (λv s p e h=>kk v s p h) e h
def oK(x:AY)(f:Option AY->Option AY->Option AY->Pos->Bool):Bool:=E0 26 x.ctorIdx λh=>AY.Slice.elim (motive_1:=λy=>Bool) x h f
theorem Ω{f:Option AY->Option AY->Option AY->Pos->Bool}(h:oK x f=U){P:AY->Prop}(kk:∀a b d p,f a b d p=U->P (.Slice a b d p)):P x:=Ej h λe h=>AY.Slice.elim x e (λa b d p e h=>kk a b d p h) e h
def Y6(x:AY)(f:List AY->Nat->Pos->Bool):Bool:=E0 25 x.ctorIdx λh=>oM (motive_1:=λy=>Bool) x h f
theorem Y7{f:List AY->Nat->Pos->Bool}(h:Y6 x f=U){P:AY->Prop}(kk:∀l k p,f l k p=U->P (.Tuple l k p)):P x:=Ej h λe h=>oM x e (λl k p e h=>kk l k p h) e h
def oN(x:AY)(f:List AY->Pos->Bool):Bool:=E0 24 x.ctorIdx λh=>AY.List.elim (motive_1:=λy=>Bool) x h f
theorem oO{f:List AY->Pos->Bool}(h:oN x f=U){P:AY->Prop}(kk:∀l p,f l p=U->P (.List l p)):P x:=Ej h λe h=>AY.List.elim x e (λl p e h=>kk l p h) e h
def oQ(x:AY)(f:List (Option AY)->List AY->Pos->Bool):Bool:=E0 6 x.ctorIdx λh=>AY.Dict.elim (motive_1:=λy=>Bool) x h f
theorem oR{f:List (Option AY)->List AY->Pos->Bool}(h:oQ x f=U){P:AY->Prop}(kk:∀l r p,f l r p=U->P (.Dict l r p)):P x:=Ej h λe h=>AY.Dict.elim x e (λl r p e h=>kk l r p h) e h
def Y8(x:AY)(f:AY->List Comprehension->Scope->Pos->Bool):Bool:=E0 8 x.ctorIdx λh=>δ (motive_1:=λy=>Bool) x h f
theorem fF{f:AY->List Comprehension->Scope->Pos->Bool}(h:Y8 x f=U){P:AY->Prop}(kk:∀y g s p,f y g s p=U->P (.ListComp y g s p)):P x:=Ej h λe h=>δ x e (λy g s p e h=>kk y g s p h) e h
def oS(x:AY)(f:List AY->Pos->Bool):Bool:=E0 18 x.ctorIdx λh=>ε (motive_1:=λy=>Bool) x h f
theorem oU{f:List AY->Pos->Bool}(h:oS x f=U){P:AY->Prop}(kk:∀l p,f l p=U->P (.JoinedStr l p)):P x:=Ej h λe h=>ε x e (λl p e h=>kk l p h) e h
def fG(x:AY)(f:AY->Int->Option AY->Pos->Bool):Bool:=E0 17 x.ctorIdx λh=>ζ (motive_1:=λy=>Bool) x h f
theorem oV{f:AY->Int->Option AY->Pos->Bool}(h:fG x f=U){P:AY->Prop}(kk:∀v i o p,f v i o p=U->P (.FormattedValue v i o p)):P x:=Ej h λe h=>ζ x e (λv i o p e h=>kk v i o p h) e h
def GE{α:Type}(l:List α)(f:α->Bool):Bool:=@List.casesOn α (λx=>Bool) l A1 λa r=>@List.casesOn α (λx=>Bool) r (f a) λx x=>A1
theorem GU{f:α->Bool}{l:List α}(h:GE l f=U){P:List α->Prop}(k:∀a,f a=U->P [a]):P l:=by
 cases l with
 |nil=>exact Bp h|cons a l=>cases l with
  |nil=>exact k a h|cons b l=>exact Bp h
def JU{α:Type}(l:List α)(f:α->List α->Bool):Bool:=@List.casesOn α (λx=>Bool) l A1 f
theorem K5:∀{l:List α},JU l f=U->∀{P:List α->Prop},(∀a r,f a r=U->P (a::r))->P l:=by
 intro l h P k;cases l with
 |nil=>exact Bp h|cons a r=>exact k a r h
def GF{α:Type}(l:List α):Bool:=@List.casesOn α (λx=>Bool) l U λx x=>A1
theorem ID:∀{l:List α},GF l=U->∀{P:List α->Prop},P []->P l:=by
 intro l h P k;cases l with
 |nil=>exact k|cons a r=>exact Bp h
def Uh{α:Type}(l:Option α)(f:α->Bool):Bool:=@Option.casesOn α (λx=>Bool) l A1 f
theorem Ui:∀{l:Option α},Uh l f=U->∀{P:Option α->Prop},(∀a,f a=U->P (H a))->P l:=by
 intro l h P k;cases l with
 |none=>exact Bp h|some a=>exact k a h
def SC{α:Type}(l:Option α):Bool:=@Option.casesOn α (λx=>Bool) l U λx=>A1
theorem Uj:∀{l:Option α},SC l=U->∀{P:Option α->Prop},P AB->P l:=by
 intro l h P k;cases l with
 |none=>exact k|some a=>exact Bp h
def Uk(c:Const)(f:Str->Bool):Bool:=E0 5 c.ctorIdx λh=>Const.str.elim (motive:=λx=>Bool) c h f
theorem Y9{f:Str->Bool}(h:Uk c f=U){P:Const->Prop}(k:∀s,f s=U->P (.str s)):P c:=Ej h λe h=>Const.str.elim c e (λs e h=>k s h) e h
def fH(c:Const)(f:Int->Bool):Bool:=E0 2 c.ctorIdx λh=>Const.int.elim (motive:=λx=>Bool) c h f
theorem oW{f:Int->Bool}(h:fH c f=U){P:Const->Prop}(k:∀s,f s=U->P (.int s)):P c:=Ej h λe h=>Const.int.elim c e (λs e h=>k s h) e h
def oX(c:Const)(f:Bool->Bool):Bool:=E0 1 c.ctorIdx λh=>Const.bool.elim (motive:=λx=>Bool) c h f
theorem η{f:Bool->Bool}(h:oX c f=U){P:Const->Prop}(k:∀s,f s=U->P (.bool s)):P c:=Ej h λe h=>Const.bool.elim c e (λs e h=>k s h) e h
def SD(c:Const):Bool:=E0 0 c.ctorIdx λx=>U
theorem fJ(h:SD c=U){P:Const->Prop}(k:P .none):P c:=Ej h λe x=>Const.none.elim (motive:=P) c e k
structure CY where
 Bc:List (Str×JV)
 Bt:List (Nat×Str)
 ns:Nat
def fK(a b:V):Bool:=@V.casesOn (λx=>Bool) a A1 (λx=>A1) (λi=>@V.casesOn (λx=>Bool) b A1 (λx=>A1) (λj=>i==j) (λx=>A1) (λx=>A1) (λx=>A1) λx x=>A1) (λx=>A1) (λx=>A1) (λx=>A1) λx x=>A1
theorem oY(h:fK a b=U):a=b:=by
 cases a with
 |B i=>cases b with
  |B j=>exact congrArg _ (beq_iff_eq.mp h)|_=>exact Bp h
 |_=>exact Bp h
def o_(l:List V):List V->Bool:=@List.rec V (λx=>List V->Bool) GF (λa x ih r=>JU r λb r=>fK a b&&ih r) l
theorem θ:∀{l r:List V},o_ l r=U->l=r:=by
 intro BE;induction BE with
 |nil=>
  rintro r h;exact ID h rfl
 |cons a l ih=>
  rintro r h;exact K5 h λb r h=>by rw[oY (AJ h).1,ih (AJ h).2]
def oh(a b:V):Bool:=fK a b||@V.casesOn (λx=>Bool) a A1 (λx=>A1) (λx=>A1) (λx=>A1) (λx=>A1) (λl=>@V.casesOn (λx=>Bool) b A1 (λx=>A1) (λx=>A1) (λx=>A1) (λx=>A1) (λr=>o_ l r) λx x=>A1) λx x=>A1
theorem ι(h:oh a b=U):a=b:=by
 refine(QL.mp h).elim oY λh=>?_;cases a with
 |A3 l=>cases b with
  |A3 r=>exact congrArg _ (θ h)|_=>exact Bp h
 |_=>exact Bp h
def Ia(x:AY):Bool:=!MM x λf a k y=>GD f λn y=>GF a&&GF k&&n=="super"
def fL:LI->Operator
 |.Cu=>.Add|.AE=>.Sub|.UJ=>.Mult|.XX=>.Mod|.eV=>.FloorDiv|.UK=>.BitAnd|.Ru=>.BitOr
def NU:UL->CmpOp
 |.eq=>.Eq|.ne=>.NotEq|.lt=>.Lt|.le=>.LtE|.gt=>.Gt|.ge=>.GtE
section
variable(X:Cfg)
def Hs(c:CY)(n:Str):Bool:=c.Bc.lookup n==H .globalImplicit&&n !="__debug__"
def bi(c:CY)(n:Str)(x:AY):Bool:=GD x λy z=>y==n&&(Hs c n&&(S9 n).isSome)
def fM(v:V)(x:AY):Bool:=@V.casesOn (λz=>Bool) v (J3 x λk z z=>SD k) (λb=>J3 x λk z z=>oX k λd=>b==d) (λi=>J3 x (λk z z=>fH k λj=>i==j)||Y0 x λo y z=>o==.USub&&J3 y λk z z=>fH k λj=>i==-j)
 (λn=>J3 x λk z z=>Uk k λy=>X.G.AM n==y) (λz=>A1) (λz=>A1) (λz z=>A1)
def QM(e:E):Bool:=E0 0 e.ctorIdx λh=>E.AO.elim (motive_1:=λy=>Bool) e h λc=>Ct c.ctorIdx 0
def oi(e:E):Bool:=@E.casesOn (λx=>Bool) e (λc=>@V.casesOn (λx=>Bool) c A1 (λb=>b) (λx=>A1) (λx=>A1) (λx=>A1) (λx=>A1) λx x=>A1) (λx=>A1) (λx x=>A1) (λx x=>A1) (λx x=>A1) (λx x=>A1) (λx x=>A1) (λx x x=>A1) (λx x x=>A1) (λx=>A1) (λx=>A1) (λx=>A1) (λx=>A1) (λx x x x=>A1) (λx=>A1) (λx=>A1) (λx x x=>A1) (λx x=>A1) (λx x x=>A1) (λx x x=>A1) (λx=>A1) (λx=>A1) (λx x=>A1) (λx x=>A1) (λx=>A1) (λx x=>A1) (λx=>A1) (λx x x=>A1) (λx=>A1) (λx=>A1) (λx x x=>A1) (λx x=>A1) (λx x x x x x=>A1) (λx x x=>A1)
def SE(c:CY)(Ac:List Nat)(x:AY):Bool:=JU Ac λi r=>@List.casesOn Nat (λz=>Bool) r (GD x λn z=>c.Bt.lookup i==H n) λj r=>GF r&&Y6 x λl z z=>JU l λa l=>GE l λb=>GD a λx z=>GD b λy z=>c.Bt.lookup i==H x&&(c.Bt.lookup j==H y&&i !=j)
inductive Kc(c:CY):List Nat->AY->Prop
 |GG {i:Nat} {x:Str} {p:Pos}:c.Bt.lookup i=H x->Kc c [i] (.Name x p)|YA {i j k:Nat} {x y:Str} {p q r:Pos}:c.Bt.lookup i=H x->c.Bt.lookup j=H y->i≠j->Kc c [i,j] (.Tuple [.Name x p,.Name y q] k r)
theorem oj(h:SE c Ac x=U):Kc c Ac x:=by
 refine K5 (P:=λAc=>Kc c Ac x) h λi r h=>?_;cases r with
 |nil=>exact HF h λn p h=>.GG (beq_iff_eq.mp h)|cons j r=>
  have h:=AJ h;exact ID (P:=λr=>Kc c (i::j::r) x) h.1 (Y7 h.2 λl k p h=>K5 (P:=λl=>Kc c _ (.Tuple l k p)) h λa l h=>GU (P:=λl=>Kc c _ (.Tuple _ k p)) h λb h=>
   HF (P:=λa=>Kc c _ (.Tuple [a,b] k p)) h λx p1 h=>HF (P:=λb=>Kc c _ (.Tuple [.Name x p1,b] k p)) h λy p2 h=>.YA (beq_iff_eq.mp (AJ h).1) (beq_iff_eq.mp (AJ (AJ h).2).1) (bne_iff_ne.mp (AJ (AJ h).2).2))
def JW(x:AY):List Str:=dite (x.ctorIdx=23) (λh=>XM (motive_1:=λz=>List Str) x h λn z=>[n]) λz=>dite (x.ctorIdx=25) (λh=>oM (motive_1:=λz=>List Str) x h λl z z=>l.filterMap λy=>dite (y.ctorIdx=23) (λh=>XM (motive_1:=λz=>Option Str) y h λn z=>H n) λz=>AB) λz=>[]
def Es(c:CY)(l:List (Str×JV)):List (Str×JV):=l.map λp=>if p.2==.free&&c.Bc.lookup p.1==H .cell then(p.1,.cell) else p
def Et(c:CY)(l:List (Str×JV))(Ac:List Nat)(t:AY):CY:=
 ⟨Es c l,Ac.zip (JW t)++c.Bt.filter λp=>c.Bc.lookup p.2==H .cell&&(Es c l).lookup p.2==H .cell,c.ns⟩
def Ht:List Str->Bool
 |[]=>U|x::r=>!r.contains x&&Ht r
def μ(l:List (Nat×Str)):Bool:=l.all λp=>p.2 !="__debug__"
def QN:List Nat->Bool
 |[]=>U|x::r=>!r.contains x&&QN r
def Ul(c:CY)(l:List (Str×JV)):Bool:=
 l.all λp=>p.2 !=.cell&&(p.2 !=.local||l.lookup p.1==H .local)&&(p.2 !=.free||(c.Bc.lookup p.1==H .cell&&c.Bt.any λq=>q.2==p.1))
def fN(c:CY)(n:Str):Bool:=c.Bc.lookup n==H .local||c.Bc.lookup n==H .cell
theorem YB(h:fN c n=U):c.Bc.lookup n=H .local\/c.Bc.lookup n=H .cell:=(QL.mp h).imp (λh=>beq_iff_eq.mp h) λh=>beq_iff_eq.mp h
def fO(c:CY)(ik:FG)(fa fb:AY->Bool)(nb:Bool)(x:AY):Bool:=@FG.casesOn (λu=>Bool) ik (MM x λg l k u=>GE l λy=>GF k&&(bi c "range" g&&(fa y&&nb))) (MM x λg l k u=>JU l λy l=>GE l λz=>GF k&&(bi c "range" g&&(fa y&&fb z))) (fa x&&nb) A1
abbrev Bu:=CY->AY->Bool
abbrev K6:=(CY->List AY->Bool)×(CY->List (Option AY)->List AY->Bool)×(CY->List (Option AY)->List AY->Bool)
def QO(x:AY)(f:AY->Str->List AY->Bool):Bool:=MM x λg l k p=>Y4 g λv n q=>GF k&&(q.endLine==p.line&&(Ia v&&f v n l))
theorem Um{f:AY->Str->List AY->Bool}(h:QO x f=U){P:AY->Prop}(k:∀v n l q p,(q.endLine==p.line)=U->Ia v=U->f v n l=U->P (.Call (.Attribute v n q) l [] p)):P x:=
 Oi h λg l r p h=>Y5 (P:=λg=>P (.Call g l r p)) h λv n q h=>ID (P:=λr=>P (.Call _ l r p)) (AJ h).1 (k v n l q p (AJ (AJ h).2).1 (AJ (AJ (AJ h).2).2).1 (AJ (AJ (AJ h).2).2).2)
def Oj(s:Str)(r:Bu):Bu:=λc x=>MM x λg l k y=>GE l λa=>GF k&&(bi c s g&&r c a)
theorem SG{r:Bu}{c:CY}{x:AY}(h:Oj s r c x=U){P:AY->Prop}(k:∀g a p,bi c s g=U->r c a=U->P (.Call g [a] [] p)):P x:=
 Oi h λg l r' p h=>GU (P:=λl=>P (.Call g l r' p)) h λa h=>ID (P:=λr'=>P (.Call g [a] r' p)) (AJ h).1 (k g a p (AJ (AJ h).2).1 (AJ (AJ h).2).2)
def MN(o:CmpOp)(r1:Bu)(r2:CY->AY->Bool):Bu:=λc x=>Y3 x λl os rs y=>GE os λo'=>GE rs λr=>o'==o&&(r1 c l&&r2 c r)
theorem SH{r1 r2:Bu}{c:CY}{x:AY}(h:MN o r1 r2 c x=U){P:AY->Prop}(k:∀l r p,r1 c l=U->r2 c r=U->P (.Compare l [o] [r] p)):P x:=
 fE h λl os rs p h=>GU (P:=λos=>P (.Compare l os rs p)) h λo' h=>GU (P:=λrs=>P (.Compare l _ rs p)) h λr h=>Oh (P:=λo=>P (.Compare l [o] [r] p)) (AJ h).1 (k l r p (AJ (AJ h).2).1 (AJ (AJ h).2).2)
def ν(Ac:List Nat)(ik:FG)(nb ct:Bool)(re ra rb rc:Bu):Bu:=λc x=>Y8 x λy g sc u=>GE g λg=>g.is_async==0&&(sc.kind==.function&&(fO c ik (ra c) (rb c) nb g.iter&&(SE (Et c sc.names Ac g.target) Ac g.target&&(I Ac==I (JW g.target)
 &&((JW g.target).all (λn=>(Es c sc.names).lookup n==H .local)&&(Ht ((Et c sc.names Ac g.target).Bt.map (·.2))&&(QN ((Et c sc.names Ac g.target).Bt.map (·.1))&&(Ul c sc.names&&(Ac.all (λi=>decide (i<c.ns))&&(μ (Et c sc.names Ac g.target).Bt
 &&(re (Et c sc.names Ac g.target) y&&@List.casesOn AY (λu=>Bool) g.ifs ct λz r=>GF r&&rc (Et c sc.names Ac g.target) z)))))))))))
def ξ(i j n:Nat):Bu:=λc x=>MM x λg l k w=>GE l λq=>Y8 q λy gs sc w=>GE gs λg1=>GD y λa w=>GD g1.target λa2 w=>GD g1.iter λd w=>GE g1.ifs λz=>Y3 z λu os rs w=>GE os λo=>GE rs λr=>GD u λa3 w=>SB r λv s w=>GD v λmm w=>J3 s λk2 w w=>Uk k2 λy=>
 GF k&&(o==.NotIn&&(bi c "len" g&&(a==a2&&(a==a3&&(g1.is_async==0&&(sc.kind==.function&&(c.Bt.lookup i==H d&&(fN c d&&(d !="__debug__"&&(c.Bt.lookup j==H mm&&(mm !="__debug__"&&(X.G.AM n==y&&((Es c sc.names).lookup a==H .local&&(Ul c sc.names&&((Es c sc.names).lookup mm==H .cell&&a !="__debug__")))))))))))))))
def om:V->Bu:=(λv y x=>fM X v x)
def oq:Nat->Bu:=(λi c x=>GD x λn y=>c.Bt.lookup i==H n&&(fN c n&&n !="__debug__"))
def ou:Nat->V->Bu:=(λk v c x=>GD x λn y=>Hs c n&&Uh X.U_[k]? λp=>p.1==n&&oh p.2 v)
def ow:E->Nat->Bu->Bu:=(λy n r c x=>Y4 x λv a y=>r c v&&(a==X.G.AM n&&Ia v))
def oz:E->E->Bu->Bu->Bu:=(λy y r q c x=>SB x λv s y=>r c v&&q c s)
def p5:E->E->Bu->Bu->Bu:=(λy y r q c x=>SB x λv s y=>oK s λa b d y=>SC a&&(SC d&&(r c v&&Uh b λs=>q c s)))
def p6:Nat->Dg->K6->Bu:=(λf y rs c x=>MM x λg l k y=>GD g λn y=>GF k&&(n==X.Xq f&&(X.Xr f&&(Hs c n&&rs.1 c l))))
def p7:Nat->Nat->Dg->K6->Bu:=(λk y y rs c x=>MM x λg l kk y=>GD g λn y=>GF kk&&(n==X.Xs k&&(X.Ua k&&(Hs c n&&rs.1 c l))))
def p8:E->Nat->Dg->Bu->K6->Bu:=(λy n y r rs c x=>QO x λv a l=>r c v&&(a==X.G.AM n&&(rs.1 c l&&decide (I l<20))))
def p9:E->Bu->Bu:=(λx r=>Oj "len" r)
def pA:E->Bu->Bu:=(λx r=>Oj "tuple" r)
def pB:E->Bu->Bu:=(λx r=>Oj "list" r)
def pC:E->Bu->Bu:=(λx r=>Oj "str" r)
def pD:E->Nat->E->Nat->Bu->Bu->Bu:=(λw m w n r q c x=>oS x λl w=>JU l λa l=>JU l λb l=>JU l λd l=>GE l λe=>fG a λu i s w=>J3 b λk w w=>Uk k λy=>fG d λv j t w=>J3 e λk w w=>Uk k λz=>
  SC s&&(SC t&&(i==-1&&(j==-1&&(X.G.AM m==y&&(X.G.AM n==z&&(r c u&&(q c v&&(decide (y.length<1000)&&decide (z.length<1000))))))))))
def pF:E->Bu->Bu:=(λx r=>Oj "sorted" r)
def pG:E->Bu->Bu:=(λy r=>Oj "sorted" λc x=>QO x λv n l=>n=="items"&&(GF l&&r c v))
def pH:E->E->E->Bu->Bu->Bu->Bu:=(λy y y r q t c x=>QO x λv n l=>JU l λa l=>GE l λb=>n=="get"&&(r c v&&(q c a&&t c b)))
def pI:E->E->Bu->Bu->Bu:=(λy y r q c x=>QO x λv n l=>GE l λa=>n=="get"&&(r c v&&q c a))
def pJ:LI->E->E->Bu->Bu->Bu:=(λop z z r q c x=>oB x λl o y z=>o==fL op&&(r c l&&q c y))
def pK:UL->E->E->Bu->Bu->Bu:=(λop x x r q=>MN (NU op) r q)
def pL:E->Bu->Bu:=(λx r=>MN .Is r λx y=>J3 y λk x x=>SD k)
def pM:E->Bu->Bu:=(λx r=>MN .IsNot r λx y=>J3 y λk x x=>SD k)
def pN:E->E->Bu->Bu->Bu:=(λx x r q=>MN .In r q)
def pO:E->E->Bu->Bu->Bu:=(λx x r q=>MN .NotIn r q)
def pP:E->Bu->Bu:=(λx r=>MN .In r λc y=>GD y λn x=>n=="TID_PRIM"&&Hs c n)
def pQ:Bool->Dg->K6->Bu:=(λal y rs c x=>oF x λo l y=>o==(if al then .And else .Or)&&rs.1 c l)
def pR:E->Bu->Bu:=(λz r c x=>Y0 x λo y z=>o==.Not&&r c y)
def pS:E->E->E->Bu->Bu->Bu->Bu:=(λy y y r q t c x=>oH x λa b d y=>r c a&&(q c b&&t c d))
def pT:Dg->K6->Bu:=(λy rs c x=>Y6 x λl y y=>rs.1 c l&&decide (I l<1000))
def pU:Dg->K6->Bu:=(λy rs c x=>oN x λl y=>rs.1 c l&&decide (I l<1000))
def pV:UM->Nat->Dg->K6->Bu:=(λy y y rs c x=>oQ x λl r y=>rs.2.1 c l r&&(decide (I l<=15)||I l==17))
def pW:Nat->E->Bu->Bu:=(λx x r=>r)
def pX:E->List Nat->FG->E->E->E->Bu->Bu->Bu->Bu->Bu:=(λx Ac ik x b d re ra rb rc=>ν Ac ik (QM b) (oi d) re ra rb rc)
def pY:Nat->Nat->Nat->Bu:=(λi j n=>ξ X i j n)
def p_:K6:=⟨λx l=>GF l,λx l r=>GF l&&GF r,λx x x=>A1⟩
def pe:E->Dg->Bu->K6->K6:=(λz z r rs=>⟨λc l=>JU l λx l=>r c x&&rs.1 c l,λc l v=>JU l λk l=>Uh k λx=>r c x&&rs.2.2 c l v,λc l v=>JU v λy v=>r c y&&rs.2.1 c l v⟩)
def ο:E->Bu:=@E.rec (λx=>Bu) (λx=>K6) (om X) oq (ou X) (ow X) oz p5 (p6 X) (p7 X) (p8 X) p9 pA pB pC (pD X) pF pG pH pI pJ pK pL pM pN pO pP pQ pR pS pT pU pV pW pX (pY X) p_ pe
def pg:Dg->K6:=@Dg.rec (λx=>Bu) (λx=>K6) (om X) oq (ou X) (ow X) oz p5 (p6 X) (p7 X) (p8 X) p9 pA pB pC (pD X) pF pG pH pI pJ pK pL pM pN pO pP pQ pR pS pT pU pV pW pX (pY X) p_ pe
def D7(c:CY)(e:E)(x:AY):Bool:=ο X e c x
def MO(c:CY)(es:Dg)(l:List AY):Bool:=(pg X es).1 c l
def NV(c:CY)(es:Dg)(l:List (Option AY))(r:List AY):Bool:=(pg X es).2.1 c l r
end
structure CL(c:CY)(env:GS):Prop where
 Bc:env.scope.names=c.Bc
 GV:env.scope.kind=.function
 fP:env.globals=mainGlobals
 ph:env.builtins=builtinsNs
 Ib:Ht (c.Bt.map (·.2))=U
 LU:∀(i:Nat) (x y:Str),(i,x)∈c.Bt->(i,y)∈c.Bt->x=y
 lt:∀(i:Nat) (x:Str),(i,x)∈c.Bt->i<c.ns
 Ol:∀(i:Nat) (x:Str),(i,x)∈c.Bt->c.Bc.lookup x=H .local\/c.Bc.lookup x=H .cell
theorem CL.HG(K:CL c env)(n:Str):env.kindOf n=c.Bc.lookup n:=by unfold Env.kindOf;rw[K.Bc]
def MP:T->Bool
 |.Al _=>U|_=>A1
def Fo:T->Bool
 |.Al _=>U|.DT _=>U|_=>A1
theorem Om(h:MP t=U):Fo t=U:=by
 cases t with
 |Al=>rfl|_=>exact Bp h
section
variable(X:Cfg)
inductive π(env:GS)(β:Af)(h:Ca)(x:Str)(t:T):Prop
 |mk (a:BJ) (v:Option AG) (e:env.cells.lookup x=H a) (i:h.IsCell a v) (z:X.h₀.get? a=AB) (r:JS X β h t v) (n:Fo t=A1)
structure DW(c:CY)(env:GS)(ρ:List T)(β:Af)(h:Ca)(m:Str->Option AG):Prop where
 ns:h.Ns env.locals m
 QR:¬β.mut env.locals
 SI:X.h₀.get? env.locals=AB
 Am:∀(i:Nat) (x:Str),(i,x)∈c.Bt->c.Bc.lookup x=H .local->JS X β h (BD ρ i) (m x)
 Gp:∀(i:Nat) (x:Str),(i,x)∈c.Bt->c.Bc.lookup x=H .cell->π X env β h x (BD ρ i)
 QS:∀(x y:Str) (a:BJ),c.Bc.lookup x=H .cell->c.Bc.lookup y=H .cell->env.cells.lookup x=H a->env.cells.lookup y=H a->x=y
 SJ:∀(i:Nat) (x:Str) (j:Nat) (y:Str) (a:BJ),(i,x)∈c.Bt->(j,y)∈c.Bt->MP (BD ρ i)=U->Fo (BD ρ j)=U->m x=H (.ref a)->m y=H (.ref a)->x=y
 Aj:I ρ=c.ns
inductive ς(c:CY)(env:GS)(ρ:List T)(β:Af)(h:Ca):Prop
 |mk (m:Str->Option AG) (f:DW X c env ρ β h m)
structure Go(β:Af)(s:BS)(β':Af)(H':A0)(s':BS):Prop where
 st:Bh X β' H' s'.heap
 B5:Step β s.heap β' s'.heap
 Hu:s'={s with heap:=s'.heap,toks:=s'.toks}
def Ek(A:I_)(n:Nat):Prop:=A.depth+3*n+5<=recursionLimit/\A.units+12*n+400<=cLine/\A.handled=AB
inductive Post(β:Af)(s:BS)(fr:Bool)(Q:T->A0->Prop)(x:AG)(s':BS):Prop
 |mk (t:T) (H':A0) (β':Af) (q:Q t H') (r:DH X β' s'.heap t x) (g:Go X β s β' H' s') (f:fr=U->∀l,t=.Al l->∃a,x=.ref a/\s.heap.get? a=AB)
inductive FW(β:Af)(s:BS)(Q:T->A0->Prop)(b:Bool)(s':BS):Prop
 |mk (H':A0) (β':Af) (q:Q (.v (.Au b)) H') (g:Go X β s β' H' s')
inductive YC(β:Af)(s:BS)(Q:V->A0->Prop)(x:AG)(s':BS):Prop
 |mk (v:V) (H':A0) (β':Af) (q:Q v H') (r:BN X.G.AM β' s'.heap v x) (g:Go X β s β' H' s')
inductive JX(β:Af)(s:BS)(Q:List V->A0->Prop)(xs:List AG)(s':BS):Prop
 |mk (v:List V) (H':A0) (β':Af) (q:Q v H') (r:C5 X.G.AM β' s'.heap v xs) (g:Go X β s β' H' s')
abbrev AP:AG->BS->Prop:=λx x=>False
end
theorem Go.BO{A0:A0}(S:Bh X β A0 s.heap):Go X β s β A0 s:=⟨S,.BO ..,rfl⟩
theorem Go.Aw(x:Go X β s β' H' s')(y:Go X β' s' β'' σ s''):Go X β s β'' σ s'':=
 ⟨y.st,x.B5.Aw y.B5,by have a:=x.Hu;have b:=y.Hu;rw[b,a]⟩
theorem Go.G2(x:Go X β s β' H' s')(t:Nat):Go X β s β' H' {s' with toks:=t}:=⟨x.st,x.B5,by have a:=x.Hu;rw[a]⟩
theorem Go.HD(x:Go X β s β' H' s'):X.K.In s'.heap:=X.HD.keeps x.st.G1
theorem Bh.HD(S:Bh X β H' h):X.K.In h:=X.HD.keeps S.G1
theorem Go.Kd(x:Go X β s β' H' s')(o:Obj)(t:Nat):Go X β s β' H' {s' with heap:=s'.heap.push o,toks:=t}:=by obtain⟨a,b⟩:=x.st.AX (λb ob e=>GW o e);exact⟨a,x.B5.Aw b,by have a:=x.Hu;rw[a]⟩
theorem Go.AX(x:Go X β s β' H' s')(k:∀b o,s'.heap.get? b=H o->h'.get? b=H o)(t:Nat):Go X β s β' H' {s' with heap:=h',toks:=t}:=by obtain⟨a,b⟩:=x.st.AX k;exact⟨a,x.B5.Aw b,by have a:=x.Hu;rw[a]⟩
theorem pn(h:o.data=.cell v):¬QK o:=by rintro(⟨_,xs,n,e⟩|⟨es,ep,e⟩)<;>(rw[h] at e;cases e)
theorem J4:BU<=sizeLine:=by decide
theorem τ:BU=100000:=rfl
section
variable{X:Cfg}{A0:A0}{s:BS}
theorem BY(h:wpAny X.M A t P AP s)(k:∀a s',P a s'->P' a s'):wpAny X.M A t P' AP s:=HH h k λx x e=>e
theorem LV{t:Sem α}{P P':α->BS->Prop}{E:AG->BS->Prop}(h:wpAny X.M A t P AP s)(k:∀a s',P a s'->P' a s'):wpAny X.M A t P' E s:=HH h k λx x e=>e.elim
theorem E6(q:Q (.v v) H')(r:BN X.G.AM β' s'.heap v x)(g:Go X β s β' H' s'):Post X β s fr Q x s':=
 ⟨_,H',β',q,r,g,λy l e=>by cases e⟩
theorem T.Ic{t:T}{v:V}(e:t.Av=H v):t=.v v:=by
 cases t with
 |v x=>exact congrArg T.v (BR e)|_=>exact nn e
theorem υ{R:V->Internal.A0->Prop}{P:Prop}(p:Post X β s fr (λt h1=>opt t.Av λv=>R v h1) x s')(k:∀v H1 A9,R v H1->BN X.G.AM A9 s'.heap v x->Go X β s A9 H1 s'->P):P:=by obtain⟨t,H1,A9,⟨v,e,q⟩,r,g,_⟩:=p;cases T.Ic e;exact k v H1 A9 q r g
theorem Hv{R:V->Internal.A0->Prop}(h:wpAny X.M A w (Post X β s fr λt h1=>opt t.Av λv=>R v h1) AP s)(k:∀x s1 v H1 A9,R v H1->BN X.G.AM A9 s1.heap v x->Go X β s A9 H1 s1->P x s1):wpAny X.M A w P AP s:=
 BY h λx s1 q=>υ q (k x s1)
theorem φ(ag:fM X v x=U)(S:Bh X β A0 s.heap)(q:Q (.v v) A0):wpAny X.M A (eval x env) (Post X β s fr Q) AP s:=by
 let R:=λx=>wpAny X.M A (eval x env) (Post X β s fr Q) AP s
 cases v with
 |AV=>exact Ka (P:=R) ag λk n p h=>fJ (P:=λk=>R (.Constant k n p)) h (Bg (E6 q rfl (.BO S)))|Au b=>exact Ka (P:=R) ag λk n p h=>η (P:=λk=>R (.Constant k n p)) h λd h=>Bg (E6 q (congrArg AG.bool (beq_iff_eq.mp h)).symm (.BO S))|B i=>
  refine(QL.mp ag).elim (λag=>?_) λag=>?_
  .exact Ka (P:=R) ag λk n p h=>oW (P:=λk=>R (.Constant k n p)) h λj h=>wpAny_mkInt (E6 q ⟨_,congrArg (Un · _) (beq_iff_eq.mp h).symm⟩ ((Go.BO S).G2 _))
  .exact Uf (P:=R) ag λo y p h=>Oh (P:=λo=>R (.UnaryOp o y p)) (AJ h).1 (Ka (P:=λy=>R (.UnaryOp .USub y p)) (AJ h).2 λk n p2 h=> oW (P:=λk=>R (.UnaryOp .USub (.Constant k n p2) p)) h λj h=>Ao (wpAny_mkInt (Ao (JY (GX (neg_int (E6 q ⟨_,congrArg (Un · _) (beq_iff_eq.mp h).symm⟩ ((Go.BO S).G2 _))))))))
 |An n=>exact Ka (P:=R) ag λk n p h=>Y9 (P:=λk=>R (.Constant k n p)) h λy h=>wpAny_mkText (E6 q ⟨_,congrArg (AG.str · _) (beq_iff_eq.mp h).symm⟩ ((Go.BO S).G2 _))|Ed x=>cases ag
 |A3 l=>cases ag
 |O a b=>cases ag
theorem IE{l:List (Nat×Str)}(e:l.lookup i=H n):(i,n)∈l:=by
 induction l with
 |nil=>exact nn e|cons p l ih=>
  have e:(match i==p.1 with|true=>H p.2|false=>l.lookup i)=H n:=e;cases h:i==p.1 with
  |true=>rw[h] at e;clear ih;cases e;exact beq_iff_eq.mp h▸D0
  |false=>rw[h] at e;exact DV _ (ih e)
theorem pq(r:JS X β h t o)(n:t≠.AQ):o8 X β h t o:=by
 cases t with
 |AQ=>exact absurd rfl n|v v=>exact r|Al l=>exact r|DT l=>exact r
theorem χ(h1:c.Bt.lookup i=H n)(h2:c.Bc.lookup n=H .local\/c.Bc.lookup n=H .cell)(h3:(n==("__debug__":Str))=A1)(K:CL c env)
  (S:Bh X β A0 s.heap)(F:ς X c env ρ β s.heap)(u:BD ρ i≠.AQ)(q:Q (BD ρ i) A0)(nf:fr=A1):wpAny X.M A (eval (.Name n p) env) (Post X β s fr Q) AP s:=by
 obtain⟨m,F⟩:=F;refine Uo ?_ h3;rcases h2 with h2|h2
 .obtain ⟨x,e,r⟩:=pq (F.Am i n (IE h1) h2) u
  exact Up K.GV (by rw[K.HG];exact h2) F.ns e ⟨_,A0,β,q,r,.BO S,λe=>by rw[nf] at e;cases e⟩
 .obtain ⟨a,v,e1,e2,e3,e4,e5⟩:=F.Gp i n (IE h1) h2
  obtain⟨x,e,r⟩:=pq e4 u;clear e4;subst e;exact fQ K.GV (by rw[K.HG];exact h2) e1 e2 ⟨_,A0,β,q,r,.BO S,λe=>by rw[nf] at e;cases e⟩
theorem YD(h1:Hs c n=U)(K:CL c env)(S:Bh X β A0 s.heap)(e:nsIn X.K mainGlobals n=H (H x))(q:P x s):
  wpAny X.M A (eval (.Name n p) env) P AP s:=by
 simp only[Hs,Gq,beq_iff_eq] at h1;refine Name_function_global K.GV (by rw[K.HG];exact h1.1) ?_ (by simpa using h1.2);unfold loadGlobal;rw[K.fP];refine Ao ((looks_nsIn S.HD e).here ?_);exact Bg q
theorem fR(h1:Hs c n=U)(K:CL c env)(S:Bh X β A0 s.heap)(e:S9 n=H x)(q:P x s):
  wpAny X.M A (eval (.Name n p) env) P AP s:=by
 simp only[Hs,Gq,beq_iff_eq] at h1;obtain⟨e1,e2⟩:=X.o4 n x e;refine Name_function_global K.GV (by rw[K.HG];exact h1.1) ?_ (by simpa using h1.2);unfold loadGlobal;rw[K.fP,K.ph];refine Ao ((looks_nsIn S.HD e1).here ?_);refine Ao ((looks_nsIn S.HD e2).here ?_);exact Bg q
theorem ψ{k:Nat}(h1:Hs c n=U)(h2:∃m u,X.U_[k]?=H (m,u)/\m=n/\v=u)(K:CL c env)(S:Bh X β A0 s.heap)(q:Q (.v v) A0):
  wpAny X.M A (eval (.Name n p) env) (Post X β s fr Q) AP s:=by
 obtain⟨m,u,e,rfl,rfl⟩:=h2;obtain⟨x,e1,e2⟩:=X.nj k _ _ e;refine YD h1 K S e1 (E6 q ((e2 _ S.HD).Bo (.BO _) λs=>?_) (.BO S));exact List.nil_prefix
theorem SK(h:Ia o=U):attributeBase o a env w=w:=by
 cases o with
 |Call f l k p=>
  cases f with
  |Name id q=>
   cases l with
   |cons _ _=>rfl|nil=>
    cases k with
    |cons _ _=>rfl|nil=>exact if_pos (by rw[show(id !=("super"))=U from h];rfl)
  |_=>rfl
 |_=>rfl
inductive Hd:AG->Prop
 |AV:Hd .none|Au (b:Bool):Hd (.bool b)|int (i:Int) (t:Tok):Hd (.int i t)|str (s:Str) (t:Tok):Hd (.str s t)|ref (a:BJ):Hd (.ref a)
theorem BN.hd(r:BN X.G.AM β h v x):Hd x:=by
 cases v with
 |AV=>exact r▸.AV|Au b=>exact r▸.Au b|B i=>obtain⟨t,e⟩:=r;exact e▸.int i t
 |An i=>obtain⟨t,e⟩:=r;exact e▸.str _ t
 |Ed i=>obtain⟨t,e⟩:=r;exact e▸.str _ t
 |A3 l=>obtain⟨a,_,e,_⟩:=r;exact e▸.ref a
 |O i j=>obtain⟨a,_,e⟩:=r;exact e▸.ref _
theorem Hd.fS(h:Hd x):handedIn x=U:=by cases h<;>rfl
theorem BN.fS(r:BN X.G.AM β h v x):handedIn x=U:=r.hd.fS
theorem IR.q1(e:IR X β h l es):es.any (·.refKey)=A1:=by
 induction l generalizing es with
 |nil=>cases e;rfl
 |cons p l ih=>
  obtain⟨_,_,_,es',e,_,ht⟩:=e;subst e;exact(id (ih ht):es'.any _=A1)
theorem q2:(AG.str (X.G.AM a) t).isStr (X.G.AM n)=decide (a=n):=
 Bool.eq_iff_iff.mpr ⟨λe=>decide_eq_true (X.UY _ _ (beq_iff_eq.mp e)),λe=>beq_iff_eq.mpr (congrArg _ (of_decide_eq_true e))⟩
def YE(X:Cfg)(β:Af)(h:Ca)(o:Option V)(r:Option (Option AG)):Prop:=@Option.rec V (λy=>Prop) (r=H AB) (λv=>∃x,r=H (H x)/\BN X.G.AM β h v x) o
theorem IR.Jy(e:IR X β h l es):YE X β h (Bw l n) (QT (X.G.AM n) es):=by
 induction l generalizing es with
 |nil=>cases e;rfl
 |cons p l ih=>
  obtain⟨a,v⟩:=p;have hk:=e.q1;obtain⟨hs,t,y,es',e,hv,ht⟩:=e;subst e;show YE X β h (if a=n then H v else Bw l n) _;unfold QT;rw[fT,q2,hk];by_cases hn:a=n
  .rw [if_pos hn,decide_eq_true hn];exact⟨y,rfl,hv⟩
  .rw [if_neg hn,decide_eq_false hn]
   have:=ih ht;unfold QT at this;rw[ht.q1] at this;exact this
theorem q3(e:IR X β h l es)(q:Bw l n=H v):∃x,QT (X.G.AM n) es=H (H x)/\BN X.G.AM β h v x:=
 (congrArg (YE X β h · _) q).mp e.Jy
theorem q4(e:IR X β h l es)(q:Bw l n=AB):QT (X.G.AM n) es=H AB:=
 (congrArg (YE X β h · _) q).mp e.Jy
inductive ω(X:Cfg)(β:Af)(h:Ca)(k:Nat)(l:List (Nat×V))(p:BJ×BJ):Prop
 |mk (es:List Fz) (n:Nat) (i:InstAt h p.1 (instObj (X.Fj k) p.2) (X.Fj k) (H (K2 es n))) (r:IR X β h l es) (b:I l<=200) (a:∀x∈l,X.G.MI k x.1=U) (d:h.get? p.2=H (K2 es n))
theorem fU{si i k:Nat}(S:Bh X β A0 s.heap)(hp:(β si)[i]?=H p)(e:(A0 si)[i]?=H (.CK k l)):ω X β s.heap k l p:=by obtain⟨q,hq,h1,h2,es,n,h4,h5⟩:=S.G0 si i _ e;cases hp.symm.trans hq;exact⟨es,n,⟨h1,rfl,rfl,h4⟩,h5,h2.1,h2.2,h4⟩
theorem ϊ(e:Bw l n=H v):∃x∈l,x.1=n:=by
 induction l with
 |nil=>exact nn e|cons p l ih=>
  by_cases h:p.1=n
  .exact ⟨_,D0,h⟩
  .obtain ⟨x,hx,h⟩:=ih ((if_neg h).symm.trans e)
   exact⟨x,DV _ hx,h⟩
theorem ϋ(e:Xc n o=H y):∃c l,o=H (.CK c l)/\Bw l n=H y:=by
 cases o with
 |none=>exact nn e|some o=>
  cases o with
  |CK c l=>exact⟨c,l,rfl,e⟩|_=>exact nn e
theorem ό(ha:a=X.G.AM n)(hs:Ia v=U)
  (h:wpAny X.M A (eval v env) (Post X β s A1 λt h1=>opt t.Av λx=>opt (LL h1 n x) λy=>Q (.v y) h1) AP s):
  wpAny X.M A (eval (.Attribute v a p) env) (Post X β s fr Q) AP s:=by
 subst ha;refine Ao (Hv (by rw[SK hs];exact h) λx s1 v H1 A9 q r g=>Ao (JY ?_));obtain⟨y,e2,q⟩:=q;cases v with
 |O si i=>
  obtain⟨k,l,ho,e2⟩:=ϋ e2;obtain⟨p1,hp,rfl⟩:=r;obtain⟨es,nn,Ai,MQ,hl,hh,_⟩:=fU g.st hp ho;obtain⟨z,hz,hv⟩:=q3 MQ e2;clear h;obtain⟨w,hw,rfl⟩:=ϊ e2;have a:=X.f7 k _ (hh w hw);exact Ao (GX (get_value g.HD Ai (plainGet_of a.1).1 (findObj_own a.2.1 a.2.2 rfl hz) hv.fS (Ao (q6 (Bg (E6 q hv (g.G2 _)))))))
 |_=>exact nn e2
end
def FY(x:AY):Bool:=x.ctorIdx==22
theorem MR(h:FY x=A1):starEach (x::r) env=(A1,eval x env)::starEach r env:=by cases x<;>first|rfl|exact Bp h.symm
section
variable{X:Cfg}
def HJ(x:AY):Bool:=!(x.ctorIdx==22)&&(!(x.ctorIdx==26)&&(!(x.ctorIdx==7)&&(!(x.ctorIdx==9)&&!(x.ctorIdx==10))))
theorem Uq:∀(e:E) (c:CY) (x:AY),D7 X c e x=U->HJ x=U:=@E.rec (λe=>∀(c:CY) (x:AY),D7 X c e x=U->HJ x=U) (λy=>True)
 (λv c x h=>by
  have k:∀{f:Const->Nat->Pos->Bool},J3 x f=U->HJ x=U:=λh=>Ka (P:=λx=>HJ x=U) h λy y y y=>rfl;cases v with
  |B i=>exact(QL.mp h).elim k λh=>Uf (P:=λx=>HJ x=U) h λy y y y=>rfl|AV=>exact k h|Au b=>exact k h|An b=>exact k h|Ed b=>cases h
  |A3 b=>cases h
  |O a b=>cases h)
 (λy y y h=>nm h) (λy y y y h=>nm h)
 (λy y y y y h=>Y5 (P:=λx=>HJ x=U) h λy y y y=>rfl)
 (λy y y y y y h=>sb h) (λy y y y y y h=>sb h)
 (λy y y y y h=>ca h) (λy y y y y y h=>ca h) (λy y y y y y y h=>ca h)
 (λy y y y h=>ca h) (λy y y y h=>ca h) (λy y y y h=>ca h) (λy y y y h=>ca h)
 (λy y y y y y y y h=>oU (P:=λx=>HJ x=U) h λy y y=>rfl)
 (λy y y y h=>ca h) (λy y y y h=>ca h) (λy y y y y y y y h=>ca h) (λy y y y y y h=>ca h)
 (λy y y y y y y h=>oE (P:=λx=>HJ x=U) h λy y y y y=>rfl)
 (λy y y y y y y h=>cm h) (λy y y y h=>cm h) (λy y y y h=>cm h) (λy y y y y y h=>cm h) (λy y y y y y h=>cm h) (λy y y y h=>cm h)
 (λy y y y y h=>oG (P:=λx=>HJ x=U) h λy y y y=>rfl)
 (λy y y y h=>Uf (P:=λx=>HJ x=U) h λy y y y=>rfl)
 (λy y y y y y y y h=>oJ (P:=λx=>HJ x=U) h λy y y y y=>rfl)
 (λy y y y h=>Y7 (P:=λx=>HJ x=U) h λy y y y=>rfl)
 (λy y y y h=>oO (P:=λx=>HJ x=U) h λy y y=>rfl)
 (λy y y y y y h=>oR (P:=λx=>HJ x=U) h λy y y y=>rfl)
 (λy y ih c x h=>ih c x h)
 (λy y y y y y y y y y y y h=>fF (P:=λx=>HJ x=U) h λy y y y y=>rfl)
 (λy y y y y h=>ca h) trivial (λy y y y=>trivial)
where
 nm {x:AY} {f:Str->Pos->Bool} (h:GD x f=U):=HF (P:=λx=>HJ x=U) h λy y y=>rfl
 sb {x:AY} {f:AY->AY->Pos->Bool} (h:SB x f=U):=Ug (P:=λx=>HJ x=U) h λy y y y=>rfl
 ca {x:AY} {f:AY->List AY->List _->Pos->Bool} (h:MM x f=U):=Oi (P:=λx=>HJ x=U) h λy y y y y=>rfl
 cm {x:AY} {f:AY->List _->List AY->Pos->Bool} (h:Y3 x f=U):=fE (P:=λx=>HJ x=U) h λy y y y y=>rfl
theorem fV{n k:Nat}(h:(!(n==k))=U):n≠k:=λe=>Bp ((NJ h).symm.trans (beq_iff_eq.mpr e))
theorem J5(h:D7 X c e x=U):FY x=A1:=NJ (C4 (Uq e c x h))
theorem fW(h:MO X c .AH xs=U):xs=[]:=ID (P:=λl=>l=[]) h rfl
theorem fX{e:E}{es:Dg}{xs:List AY}(h:MO X c (.AR e es) xs=U){P:List AY->Prop}(k:∀x r,D7 X c e x=U->MO X c es r=U->P (x::r)):P xs:=
 K5 h λx r h=>k x r (AJ h).1 (AJ h).2
theorem YF:∀{es:Dg} {xs:List AY},MO X c es xs=U->(backTo pos (starEach xs env)).any (·.1)=A1
 |.AH,xs,h=>fW h▸rfl|.AR e es,xs,h=>fX (P:=λxs=>(backTo pos (starEach xs env)).any _=A1) h λx r h1 h2=>by rw[MR (J5 h1)];exact YF h2
variable{A0:A0}{fr:Bool}
theorem ύ(S:Bh X β A0 s.heap)(q:Q [] A0):wpAny X.M A (spliced (backTo pos (starEach [] env))) (JX X β s Q) AP s:=
 SL ⟨[],A0,β,q,rfl,.BO S⟩
theorem ώ{R:V->Internal.A0->Prop}(ns:FY x=A1)
  (h:wpAny X.M A (eval x env) (Post X β s A1 λt h1=>opt t.Av λv=>R v h1) AP s)
  (hr:∀v H1 A9 s1,Go X β s A9 H1 s1->R v H1->wpAny X.M A (spliced (backTo pos (starEach r env))) (JX X A9 s1 λvs h2=>Q (v::vs) h2) AP s1):
  wpAny X.M A (spliced (backTo pos (starEach (x::r) env))) (JX X β s Q) AP s:=by
 rw[MR ns];show wpAny _ _ (spliced ((A1,eval x env)::backTo pos _)) ..;refine On (Hv h λy s1 v H1 A9 q rr g=>BY (hr v H1 A9 s1 g q) λys s2 B7=>?_);obtain⟨vs,H2,Br,B7,r2,g2⟩:=B7;exact⟨_,H2,Br,B7,⟨y,ys,rfl,BN.B5 g.st g2.B5 rr,r2⟩,g.Aw g2⟩
theorem Ϗ{E:AG->BS->Prop}(hp:args.any (·.1)=A1)(h:wpAny X.M A (spliced args) (λvs s'=>Q ⟨vs,[]⟩ s') E s):
  wpAny X.M A (evalArgs f U args []) Q E s:=by
 cases args with
 |nil=>
  refine Ao (HH h (λvs s' h'=>?_) λy y x=>x);refine GX ?_;exact Ao (Bg (Ao (Bg (Bg h'))))
 |cons a r=>
  obtain⟨b,t⟩:=a;cases b with
  |true=>exact Bp hp.symm|false=>exact SM h
theorem fY(ag:MO X c es args=U)(hk:keepIn X.K f=U)
  (h:wpAny X.M A (spliced (backTo p2 (starEach args env))) (JX X β s Q) AP s)
  (hc:∀xs s1,JX X β s Q xs s1->wpAny X.M A (call f (first++xs)) P AP s1):
  wpAny X.M A (callWith pos f first (backTo p2 (starEach args env)) []) P AP s:=by
 refine callWith_of (P:=λh=>X.K.In h) (by rw[YF ag];rfl) (λh X'=>keeps_K hk h X') (Ϗ (YF ag) (BY h λxs s1 q=>?_));refine⟨?_,hc xs s1 q⟩;obtain⟨v,H',β',_,_,g⟩:=q;exact g.HD
def NW(X:Cfg)(C:Cl)(n:Nat):Prop:=∀(f:Nat) (vs:List V) (A0:Internal.A0) (Q:V->Internal.A0->Prop),C f vs A0 Q->∀(A:I_) (β:Af) (s:BS) (xs:List AG),Ek A n->Bh X β A0 s.heap->C5 X.G.AM β s.heap vs xs->
 codeAny X.M A (.call (.ref (X.LQ f)) ⟨xs,[]⟩) (λr s'=>match r with|.ok (.ret x)=>YC X β s Q x s'|_=>False) s
theorem NW.wp(cs:NW X C n)(h:C f vs A0 Q)(R:Ek A n)(S:Bh X β A0 s.heap)(r:C5 X.G.AM β s.heap vs xs):
  wpAny X.M A (call (.ref (X.LQ f)) xs) (YC X β s Q) AP s:=
 wpAny_call (f_ (cs f vs A0 Q h A β s xs R S r) λr s' z=>by rcases r with e|(_|_|_|v)<;>first|exact z|exact z.elim)
theorem q7(g:Go X β s A9 H1 s1)(q:YC X A9 s1 (λv h=>Q (.v v) h) x s'):Post X β s fr Q x s':=by obtain⟨v,H2,Br,q,r,g2⟩:=q;exact E6 q r (g.Aw g2)
theorem ϐ(cs:NW X C n)(R:Ek A n)(h1:nm=X.Xq f)(h2:X.Xr f=U)(h3:Hs c nm=U)(ag:MO X c es args=U)
  (K:CL c env)(S:Bh X β A0 s.heap)
  (h:wpAny X.M A (spliced (backTo pos (starEach args env))) (JX X β s λvs h1=>C f vs h1 λx h2=>Q (.v x) h2) AP s):
  wpAny X.M A (eval (.Call (.Name nm p) args [] pos) env) (Post X β s fr Q) AP s:=by
 obtain⟨e1,e2⟩:=X.nk f h2;refine Ao (YD h3 K S (h1▸e1) ?_);refine fY ag e2 h λxs s1 q=>?_;obtain⟨vs,H1,A9,q,r,g⟩:=q;exact BY (cs.wp q R g.st r) λx s2 z=>q7 g z
theorem ϑ(e:QT name es=H AB):shadowIn (H (K2 es n)) name=H A1:=by show(lookIn ..).map _=_;rw[show lookIn name _=QT name es from rfl,e];rfl
inductive MethAt(G:Internal.Env)(h:Internal.A0)(n f:Nat):V->Prop
 |mk (s i c:Nat) (l:List (Nat×V)) (o:(h s)[i]?=H (.CK c l)) (k:Bw l n=AB) (m:G.QB c n=H f):MethAt G h n f (.O s i)
theorem ϒ(e:nN G n o=H f):∃c l,o=H (.CK c l)/\Bw l n=AB/\G.QB c n=H f:=by
 cases o with
 |none=>exact nn e|some o=>
  cases o with
  |CK c l=>
   have e:(match Bw l n with|none=>G.QB c n|some _=>AB)=H f:=e;cases q:Bw l n with
   |none=>rw[q] at e;exact⟨c,l,rfl,q,e⟩|some v=>rw[q] at e;exact nn e
  |_=>exact nn e
theorem ϓ(e:S2 G h n x=H f):MethAt G h n f x:=by
 cases x with
 |O s i=>obtain⟨c,l,a,b,d⟩:=ϒ e;exact⟨s,i,c,l,a,b,d⟩
 |_=>exact nn e
theorem ϔ(ag:MO X c es args=U)(hlen:I args<20):methodCallForm (I args+I ([]:List Keyword)) (backTo pos (starEach args env)) (backToKw pos (keywordEach [] env))=U:=
 EF.mpr ⟨EF.mpr ⟨Gm.mpr λx hx=>by rw[Bool.eq_false_iff.mpr (List.any_eq_false.mp (YF ag) x hx)];rfl,rfl⟩,decide_eq_true (Hq hlen ())⟩
theorem ϕ(cs:NW X C n)(R:Ek A n)(ha:a=X.G.AM m)(hs:Ia o=U)(ag:MO X c es args=U)
  (hp:ap.endLine=pos.line)(hlen:I args<20)
  (h:wpAny X.M A (eval o env) (Post X β s A1 λt h1=>opt t.Av λx=>opt (S2 X.G h1 m x) λf=>HB X.G C es ρ h1 λvs h2=>C f (x::vs) h2 λy h3=>Q (.v y) h3) AP s)
  (hargs:∀A9 H1 s1 Q1,Go X β s A9 H1 s1->HB X.G C es ρ H1 Q1->wpAny X.M A (spliced (backTo pos (starEach args env))) (JX X A9 s1 Q1) AP s1):
  wpAny X.M A (eval (.Call (.Attribute o a ap) args [] pos) env) (Post X β s fr Q) AP s:=by
 subst ha;show wpAny _ _ (attributeBase o _ env _>>=_) ..;rw[SK hs];refine Ao (Hv h λx s1 v H1 A9 q r g=>Ao (JY ?_));obtain⟨f,e2,q⟩:=q;cases ϓ e2 with
 |mk si idx k l ho hl e3=>
  obtain⟨p1,hp1,rfl⟩:=r;obtain⟨es',nn,Ai,MQ,_,hh,_⟩:=fU g.st hp1 ho;obtain⟨m1,m2,m3,m4⟩:=X.ny k m f e3;unfold methodCall;rw[ϔ ag hlen];refine Ao (GX (method_fn g.HD Ai (plainGet_of m3).1 (plainGet_of m3).2 m1 (beq_iff_eq.mp m2) (ϑ (q4 MQ hl)) ?_));rw[show methodCallPos U o env ap pos=pure pos from if_pos (beq_iff_eq.mpr hp)];refine Ao (Bg (fY ag m4 (hargs A9 H1 s1 _ g q) λxs s2 B7=>?_));obtain⟨vs,H2,Br,B7,r2,g2⟩:=B7;exact BY (cs.wp B7 R g2.st ⟨_,_,rfl,⟨p1,g2.B5.le.Dh hp1,rfl⟩,r2⟩) λy s3 z=>q7 (g.Aw g2) z
theorem ϖ(R:Ek A (n+1)):Ek (A.under (.builtin "type.__call__" ⟨.ref C::rest,kw⟩)) n:=by
 obtain⟨r1,r2,r3⟩:=R;refine⟨?_,?_,r3⟩
 .exact BG 1 (.a (.a A2 (.m 3 BB)) (.k 5)) Aa (.a (.a AI (.m 3 A7)) (.k 5)) Aa A4 [A.depth,n,recursionLimit] r1
 .exact BG 1 (.a (.a A2 (.m 12 BB)) (.k 400)) Aa (.a (.a AI (.m 12 A7)) (.k 400)) Aa A4 [A.units,n,cLine] r2
theorem ϗ(cs:NW X C n)(R:Ek A (n+1))(h1:nm=X.Xs k)(h2:X.Ua k=U)(h3:Hs c nm=U)(ag:MO X c es args=U)
  (K:CL c env)(S:Bh X β A0 s.heap)
  (h:wpAny X.M A (spliced (backTo pos (starEach args env))) (JX X β s λvs h1=>match X.G.NP k with
   |some f=>C f (.O si (I (h1 si))::vs) (Bm h1 si (.CK k [])) λx h2=>x=.AV/\Q (.v (.O si (I (h1 si)))) h2|none=>vs=[]/\Q (.v (.O si (I (h1 si)))) (Bm h1 si (.CK k []))) AP s):
  wpAny X.M A (eval (.Call (.Name nm p) args [] pos) env) (Post X β s fr Q) AP s:=by
 obtain⟨e1,e2,e3⟩:=X.nq k h2;refine Ao (YD h3 K S (h1▸e1) ?_);refine fY ag e2 h λxs s1 q=>?_;obtain⟨vs,H1,A9,q,r,g⟩:=q;obtain⟨hh,DQ,dd,tt,os⟩:=s1;have Y:=makes_of (M:=X.M) g.HD e3;have CP:Bh X A9 H1 hh:=g.st;have k1:∀b o,hh.get? b=H o->((hh.push emptyDict).push (instObj (X.Fj k) hh.objs.size)).get? b=H o:=λb o e=>GW _ (GW _ e);have hd:((hh.push _).push (instObj (X.Fj k) hh.objs.size)).get? _=H emptyDict:=GW _ (J6 _ rfl);have hx:((hh.push emptyDict).push (instObj (X.Fj k) hh.objs.size)).get? (hh.objs.size+1)=H (instObj (X.Fj k) hh.objs.size):=by have:=J6 (hh.push emptyDict) (o:=instObj (X.Fj k) hh.objs.size) rfl;rwa [Ur] at this
 have OK:ER X (A9.Cu si (hh.objs.size+1,hh.objs.size)) _ (hh.objs.size+1,hh.objs.size) (.CK k []):=
  ⟨hx,⟨D3 _,λx hx=>by cases hx⟩,[],0,hd,rfl⟩
 obtain⟨CG,P2⟩:=CP.CH k1 (J0 hh) OK;have g2:Go X A9 ⟨hh,DQ,dd,tt,os⟩ _ _ ⟨(hh.push _).push _,DQ,dd,tt,os⟩:=⟨CG,P2,rfl⟩;have fc:BN X.G.AM _ ((hh.push emptyDict).push (instObj (X.Fj k) hh.objs.size)) (.O si (I (H1 si))) (.ref (hh.objs.size+1)):=
  ⟨(hh.objs.size+1,hh.objs.size),by rw[<-CP.Aj];exact Af.Og ..,rfl⟩
 refine wpAny_call ?_;cases hi:X.G.NP k with
 |some f=>
  rw[hi] at q;obtain⟨i1,i2⟩:=X.nt k f hi;refine make_core Y (looks_findIn g.HD i1) (λself=>bind_fn g.HD self (beq_iff_eq.mp i2)) (.inl rfl) ?_;refine f_ (cs f _ _ _ q _ _ _ _ (ϖ R) CG ⟨_,_,rfl,fc,r.B5 CP P2⟩) λrr s3 z=>?_;rcases rr with e|(v|_|_|_)<;>first|exact z.elim|skip
  obtain⟨v',H3,Ke,⟨rfl,F1⟩,r3,g3⟩:=z;refine⟨r3,?_⟩;exact E6 F1 (fc.B5 CG g3.B5) ((g.Aw g2).Aw g3)
 |none=>
  rw[hi] at q;obtain⟨rfl,q⟩:_/\_:=q;cases r;have i1:=X.nu k h2 hi;refine make_core Y (looks_findIn g.HD i1) (λself=>Looks.of_pure (oi_bind self)) (.inr ⟨rfl,rfl⟩) ?_;have t1:Looks X.M _ (typeOf (.ref _)) (.ref _):=(Looks.ld hx).andThen .now;have t2:Looks X.M _ (isInstance ..) U:=t1.andThen (Y.top.keeps k1);refine codeAny_call_builtin oi_plain entry_oi (@check_slot X.M _ _ _ _ _ _ _ [] [] _ oi_kind oi_split t2 (oi_args _) ?_);exact Bg (And.intro rfl (E6 q fc (g.Aw g2)))
end
section
variable{X:Cfg}
def q8(X:Cfg)(β:Af)(h:Ca)(o:Option V)(z:Option AG):Prop:=match o with
 |some v=>∃x,z=H x/\BN X.G.AM β h v x|none=>z=AB
theorem Ϙ [DecidableEq κ]{b b0:κ}{t:List (κ×AG)}:valueAt ((b,y)::t) b0=if b=b0 then H y else valueAt t b0:=by
 unfold valueAt;rw[fT];by_cases h:b=b0
 .rw [if_pos h,decide_eq_true h];rfl
 .rw [if_neg h,decide_eq_false h]
theorem q9 [DecidableEq α] [DecidableEq κ]{k:α->κ->Prop}{f:List (α×V)->α->Option V}(f0:∀a,f [] a=AB)(f1:∀a x r b,f ((a,x)::r) b=if a=b then H x else f r b)
  {a0:α}{b0:κ}(hk:∀a b,k a b->(a=a0↔b=b0)){l:List (α×V)}{kvs:List (κ×AG)}(r:Fi X.G.AM k β h l kvs):q8 X β h (f l a0) (valueAt kvs b0):=by
 induction l generalizing kvs with
 |nil=>cases r;rw[f0];rfl
 |cons p l ih=>
  obtain⟨a,v⟩:=p;obtain⟨b,y,t,rfl,hab,hv,ht⟩:=r;rw[f1,Ϙ];by_cases ha:a=a0
  .rw [if_pos ha,if_pos ((hk a b hab).mp ha)];exact⟨y,rfl,hv⟩
  .rw [if_neg ha,if_neg λe=>ha ((hk a b hab).mpr e)];exact ih ht
theorem ϙ [DecidableEq κ]{b b0:κ}{t:List (κ×AG)}(hb:¬b=b0):stored ((b,y)::t) b0 x=(b,y)::stored t b0 x:=by unfold stored;simp only[List.any_cons,hb,decide_false,Bool.false_or,Hw];split<;>rfl
theorem Ϛ [DecidableEq κ]{b:κ}{t:List (κ×AG)}(hn:b∉t.map (·.1)):stored ((b,y)::t) b x=(b,x)::t:=by unfold stored;simp only[List.any_cons,decide_true,Bool.true_or,if_true,Hw];rw[map_store_of_not_mem t b x hn]
theorem qA [DecidableEq α] [DecidableEq κ]{k:α->κ->Prop}{g:List (α×V)->α->V->List (α×V)}(g0:∀a x,g [] a x=[(a,x)])(g1:∀a y r b x,g ((a,y)::r) b x=if a=b then(a,x)::r else(a,y)::g r b x)
  {a0:α}{b0:κ}(h0:k a0 b0)(hk:∀a b,k a b->(a=a0↔b=b0)){v0:V}{x0:AG}(hv0:BN X.G.AM β h v0 x0){l:List (α×V)}{kvs:List (κ×AG)}(r:Fi X.G.AM k β h l kvs)(hn:(kvs.map (·.1)).Nodup):
  Fi X.G.AM k β h (g l a0 v0) (stored kvs b0 x0):=by
 induction l generalizing kvs with
 |nil=>cases r;rw[g0];exact⟨b0,x0,[],rfl,h0,hv0,rfl⟩
 |cons p l ih=>
  obtain⟨a,v⟩:=p;obtain⟨b,y,t,rfl,hab,hv,ht⟩:=r;have hn:=SN.mp hn;rw[g1];by_cases ha:a=a0
  .have hb:=(hk a b hab).mp ha
   clear ih hk h0;subst hb;rw[if_pos ha,Ϛ hn.1];exact⟨b,x0,t,rfl,hab,hv0,ht⟩
  .rw [if_neg ha,ϙ λe=>ha ((hk a b hab).mpr e)]
   exact⟨b,y,_,rfl,hab,hv,ih ht hn.2⟩
theorem ff{α:Type} [DecidableEq α]{g:List (α×V)->α->V->List (α×V)}(g0:∀a x,g [] a x=[(a,x)])(g1:∀a y r b x,g ((a,y)::r) b x=if a=b then(a,x)::r else(a,y)::g r b x)(a0:α)(v0:V)
  (l:List (α×V)):I (g l a0 v0)<=I l+1:=by
 induction l with
 |nil=>rw[g0];exact Ds _|cons p l ih=>
  rw[g1 p.1 p.2];by_cases h:p.1=a0
  .rw [if_pos h];exact SO _
  .rw [if_neg h];exact Us ih
theorem qB:∀(a:Nat) (b:Str),f9 X a b->(a=a0↔b=X.G.AM a0):=λa b e=>by subst e;exact⟨λe=>by rw[e],λe=>X.UY _ _ e⟩
theorem qC:∀(a b:Int),Ub a b->(a=a0↔b=a0):=λa b e=>by subst e;rfl
theorem ϛ{k k0:List EJ}{ad:BJ}:atKey ((k,ad,y)::t) k0=if k=k0 then H (ad,y) else atKey t k0:=by
 unfold atKey;rw[fT];by_cases h:k=k0
 .rw [if_pos h,decide_eq_true h];rfl
 .rw [if_neg h,decide_eq_false h]
theorem Ϝ(r:Fi X.G.AM (Xv h) β h l (Xw xs)):q8 X β h (Q8 l k0) ((atKey xs k0).map (·.2)):=by
 induction l generalizing xs with
 |nil=>
  cases xs with
  |nil=>rfl|cons _ _=>exact nomatch(show _=_ from r)
 |cons p l ih=>
  obtain⟨a,v⟩:=p;obtain⟨b,y,t,e,hab,hv,ht⟩:=(show e_ _ a .. from r);cases xs with
  |nil=>exact nomatch e
  |cons q xs=>
   obtain⟨k,ad,z⟩:=q;clear r;cases(e);cases(show a=k from hab);rw[ϛ];by_cases ha:a=k0
   .rw [show Q8 ((a,v)::l) k0=H v from if_pos ha,if_pos ha];exact⟨z,rfl,hv⟩
   .rw [show Q8 ((a,v)::l) k0=Q8 l k0 from if_neg ha,if_neg ha];exact ih ht
theorem ϝ{k k0:List EJ}{ad a0:BJ}(hb:¬k=k0):storedH ((k,ad,y)::t) k0 a0 x=(k,ad,y)::storedH t k0 a0 x:=by
 have e:atKey ((k,ad,y)::t) k0=atKey t k0:=by simp[atKey,hb]
 unfold storedH;rw[e];split
 .simp [putAt,hb]
 .rfl
theorem Ϟ{k:List EJ}{ad a0:BJ}(hn:k∉t.map (·.1)):storedH ((k,ad,y)::t) k a0 x=(k,ad,x)::t:=by
 have e:atKey ((k,ad,y)::t) k=H (ad,y):=by simp[atKey]
 unfold storedH;rw[e];simp[putAt,map_putAt_of_not_mem t k x hn]
theorem ϟ(hv0:BN X.G.AM β h v0 x0)(r:Fi X.G.AM (Xv h) β h l (Xw xs))(hn:(xs.map (·.1)).Nodup):
  Fi X.G.AM (Xv h) β h (Q9 l k0 v0) (Xw (storedH xs k0 a0 x0)):=by
 induction l generalizing xs with
 |nil=>
  cases xs with
  |nil=>exact⟨(k0,a0),x0,[],rfl,rfl,hv0,rfl⟩|cons _ _=>exact nomatch(show _=_ from r)
 |cons p l ih=>
  obtain⟨a,v⟩:=p;obtain⟨b,y,t,e,hab,hv,ht⟩:=(show e_ _ a .. from r);cases xs with
  |nil=>exact nomatch e
  |cons q xs=>
   obtain⟨k,ad,z⟩:=q;clear r;cases(e);cases(show a=k from hab);have hn:=SN.mp hn;by_cases ha:a=k0
   .clear ih;subst ha
    rw[show Q9 ((a,v)::l) a v0=(a,v0)::l from if_pos rfl,Ϟ hn.1];exact⟨(a,ad),x0,_,rfl,rfl,hv0,ht⟩
   .rw [show Q9 ((a,v)::l) k0 v0=(a,v)::Q9 l k0 v0 from if_neg ha,ϝ ha]
    exact⟨(a,ad),z,_,rfl,rfl,hv,ih ht hn.2⟩
theorem qD(k:OX f (x::r)=H ks):∃y t,f x=H y/\OX f r=H t/\ks=y::t:=by
 have k:(match f x,OX f r with|some y,H t=>H _|_,_=>AB)=H ks:=k;cases h1:f x with
 |none=>rw[h1] at k;exact nn k|some y=>
  cases h2:OX f r with
  |none=>rw[h1,h2] at k;exact nn k|some t=>rw[h1,h2] at k;exact⟨y,t,rfl,rfl,(BR k).symm⟩
theorem Ϡ(r:C5 X.G.AM β h l xs)(k:OX Rx l=H ks):JR ks xs:=by
 induction l generalizing xs ks with
 |nil=>cases r;cases BR k;exact .AH
 |cons v l ih=>
  obtain⟨y,t,rfl,hy,ht⟩:=(show nP _ _ xs from r);obtain⟨i,is,hi,his,rfl⟩:=qD k;cases v with
  |B j=>cases BR hi;clear r;obtain⟨tk,rfl⟩:=hy;exact .AR (ih ht his)
  |_=>exact nn hi
theorem ϡ(r:BN X.G.AM β h v x)(e:nM X.G.AM v=H k):J2 h k x:=by
 cases v with
 |B i=>obtain⟨t,rfl⟩:=r;exact BR e▸.B ..
 |An i=>obtain⟨t,rfl⟩:=r;exact BR e▸.An ..
 |Ed i=>obtain⟨t,rfl⟩:=r;exact BR e▸.An ..
 |A3 l=>
  obtain⟨is,e1,rfl⟩:=SP.mp e;obtain⟨a,xs,rfl,ho,_,hv⟩:=r;exact .A3 ⟨xs,ho,Ϡ hv e1⟩
 |_=>exact nn e
theorem Ϣ(r:C5 X.G.AM β h l xs)(k:Ry X.G.AM l=H ks):IY h ks xs:=by
 induction l generalizing xs ks with
 |nil=>cases r;cases BR k;exact .AH
 |cons v l ih=>
  obtain⟨y,t,rfl,hy,ht⟩:=r;obtain⟨i,is,hi,his,rfl⟩:=qD k;exact .AR (ϡ hy hi) (ih ht his)
theorem qE(r:BN X.G.AM β h (.A3 l) x)(e:Ry X.G.AM l=H ks):∃a,x=.ref a/\isKey h ks a:=by obtain⟨a,xs,rfl,ho,_,hv⟩:=r;exact⟨a,rfl,xs,ho,Ϣ hv e⟩
inductive YG(tab:Nat->Str):A_->V->Option V->Prop
 |i (l:List (Int×V)) (i:Int):YG tab (.Ad l) (.B i) (BP l i)|s (l:List (Nat×V)) (i:Nat):YG tab (.BC l) (.An i) (Bw l i)|t (l:List (List EJ×V)) (i:List V) (ks:List EJ) (e:Ry tab i=H ks):YG tab (.Ff l) (.A3 i) (Q8 l ks)
theorem ϣ(e:Jy tab o k=H y):YG tab o k y:=by
 cases o with
 |Ad l=>
  cases k with
  |B i=>exact BR e▸.i l i|_=>exact nn e
 |BC l=>
  cases k with
  |An i=>exact BR e▸.s l i|_=>exact nn e
 |Ff l=>
  cases k with
  |A3 i=>obtain⟨ks,DX,rfl⟩:=SP.mp e;exact .t l i ks DX
  |_=>exact nn e
 |_=>exact nn e
theorem G3 [Decidable p]{α:Type}{x:α}{y:α}(h:(if p then H x else AB)=H y):p/\H x=H y:=by
 by_cases z:p
 .rw [if_pos z] at h;exact⟨z,h⟩
 .rw [if_neg z] at h;exact nn h
inductive YH(tab:Nat->Str)(x:V):A_->V->A_->Prop
 |i (l:List (Int×V)) (i:Int) (h:I l<BU):YH tab x (.Ad l) (.B i) (.Ad (Ba l i x))|s (l:List (Nat×V)) (i:Nat) (h:I l<BU):YH tab x (.BC l) (.An i) (.BC (CX l i x))|t (l:List (List EJ×V)) (i:List V) (ks:List EJ) (e:Ry tab i=H ks) (h:I l<BU):YH tab x (.Ff l) (.A3 i) (.Ff (Q9 l ks x))
theorem qF(e:Ef tab o k x=H o'):YH tab x o k o':=by
 cases o with
 |Ad l=>
  cases k with
  |B i=>have e:=G3 e;exact BR e.2▸.i l i e.1|_=>exact nn e
 |BC l=>
  cases k with
  |An i=>have e:=G3 e;exact BR e.2▸.s l i e.1|_=>exact nn e
 |Ff l=>
  cases k with
  |A3 i=>obtain⟨ks,DX,e⟩:=Option.bind_eq_some_iff.mp e;have e:=G3 e;exact BR e.2▸.t l i ks DX e.1
  |_=>exact nn e
 |_=>exact nn e
end
section
variable{β:Af}{A0:A0}{s:BS}
theorem Bh.Oo(S:Bh X β A0 h)(m:β.mut a):(a==sysModules)=A1:=by have:=S.Oe a m;have r:=X.ni;exact beq_eq_false_iff_ne.mpr λe=>by clear m;subst e;rw[this] at r;cases r
theorem Op{si i:Nat}(hp:(β si)[i]?=H p):β.mut p.2:=⟨si,p,HE hp,rfl⟩
theorem Bh.at(S:Bh X β A0 s.heap){si i:Nat}(hp:(β si)[i]?=H p)(ho:(A0 si)[i]?=H o):ER X β s.heap p o:=by obtain⟨q,hq,r⟩:=S.G0 si i o ho;obtain rfl:=BR (hp.symm.trans hq);exact r
theorem Ut{si i:Nat}{E:AG->BS->Prop}(R:A.units+200<cLine)(S:Bh X β A0 s.heap)(hp:(β si)[i]?=H p)(ho:(A0 si)[i]?=H o)
  (e:Jy X.G.AM o k=H y)(rk:BN X.G.AM β s.heap k kx)(q:∀t z,(match y with|some v=>∃x,z=H x/\BN X.G.AM β s.heap v x|none=>z=AB)->P z {s with toks:=t}):
  p.1=p.2/\s.TypeIs (.ref p.2) "dict"/\(∀a,MF p.2=.ref a->∃ob,s.heap.get? a=H ob/\ob.dict=AB)/\wpAny X.M A (dictGet p.2 kx) P E s:=by
 have r:=S.at hp ho;cases ϣ e with
 |i l i=>
  obtain⟨e0,_,kvs,hd,pr⟩:=r;obtain⟨t,rfl⟩:=rk;exact⟨e0,hd.typeIs,hd.mapOf.noDict,wpAny_dictGet_of (YI ..) hd.mapOf (q _ _ (q9 (λu=>rfl) (λu u u u=>rfl) qC pr))⟩
 |s l i=>
  obtain⟨e0,_,kvs,hd,pr⟩:=r;obtain⟨t,rfl⟩:=rk;exact⟨e0,hd.typeIs,hd.mapOf.noDict,wpAny_dictGet_of (strKind_is ..) hd.mapOf (q _ _ (q9 (λu=>rfl) (λu u u u=>rfl) qB pr))⟩
 |t l i ks DX=>
  obtain⟨e0,_,xs,hd,pr⟩:=r;obtain⟨a,rfl,ik⟩:=qE rk DX;exact⟨e0,hd.typeIs,(by obtain⟨ob,_,_,ho,hc,_⟩:=hd;exact λa ea=>qG ea▸⟨ob,ho,hc.2.1⟩),wpAny_dictGet_heap (GH (Oq () _) R) ik hd (q _ _ (Ϝ pr))⟩
end
def YJ(x:AY):Bool:=x.ctorIdx==26
theorem Ϥ(h:YJ x=A1):subscripted x A1 o i=operate [o,i] (getItem o i):=by cases x<;>first|rfl|exact Bp h.symm
section
variable{X:Cfg}
theorem ϥ(h:D7 X c e x=U):YJ x=A1:=NJ (C4 (AD (Uq e c x h)))
section
variable{E:AG->BS->Prop}
theorem qH(hT:s.TypeIs (.ref d) "dict")(h:wpAny X.M A.in1 (dictGet d key) (λz s'=>∃v,z=H v/\P v s') E s):wpAny X.M A (getItem (.ref d) key) P E s:=by
 unfold getItem;try with_reducible refine GX ?_
 refine Ao (fh hT () ?_);refine Ao (fi hT fj
  (Ot fj hT entry_dict_getitem ?_ (args_dict_getitem ..)))
 show wpAny _ _ (dictGet d key>>=_) _ _ s;refine Ao (HH h (λz s' q=>?_) λx x e=>e);obtain(⟨v,rfl,q⟩):=q;exact Bg ⟨v,rfl,Bg q⟩
theorem qI(hT:s.TypeIs (.ref d) "dict")(hd:(d==sysModules)=A1)(h:wpAny X.M A.in1 (dictGet d key) (λz s'=>Q z.isSome s') E s):wpAny X.M A (contains (.ref d) key) Q E s:=by
 unfold contains;try with_reducible refine GX ?_
 refine Ao (f6 hT qJ.lookup ?_);refine Ao (wpAny_callSpecialUnlessNone?_slot hT qJ
  (Ot qJ hT entry_dict_contains ?_ (args_dict_contains ..)))
 show wpAny _ _ (dictGet d key>>=_) _ _ s;refine Ao (HH h (λz s' q=>?_) λx x e=>e);cases z with
 |some v=>
  exact Bg ⟨_,rfl,fk q⟩
 |none=>
  exact Ao (wpAny_pendingKey_other hd (Bg ⟨_,rfl,fk q⟩))
theorem Ϧ(hT:s.TypeIs (.ref d) "dict")(hd:(d==sysModules)=A1)(h:wpAny X.M A.in1 (dictGet d key) (λz s'=>P (.bool z.isSome) s') E s):wpAny X.M A (compareOp .In key (.ref d)) P E s:=Ao (qI hT hd (HH h (λx x q=>Bg q) λx x e=>e))
theorem qK(hT:s.TypeIs (.ref d) "dict")(hd:(d==sysModules)=A1)(h:wpAny X.M A.in1 (dictGet d key) (λz s'=>P (.bool (!z.isSome)) s') E s):wpAny X.M A (compareOp .NotIn key (.ref d)) P E s:=Ao (qI hT hd (HH h (λx x q=>Bg q) λx x e=>e))
theorem ϧ{dflt:AG}(hT:s.TypeIs (.ref d) "dict")(hd:(d==sysModules)=A1)(h:wpAny X.M A.in1 (dictGet d key) (λz s'=>P (z.getD dflt) s') E s):wpAny X.M A (call (.builtin "dict.get") [.ref d,key,dflt]) P E s:=by
 refine Ot fm hT F.entry_dict_get ?_ (F.args_dict_get_3 ..);show wpAny _ _ (dictGet d key>>=_) _ _ s;refine Ao (HH h (λz s' q=>?_) λx x e=>e);cases z with
 |some v=>exact Bg ⟨v,rfl,q⟩|none=>
  exact Ao (wpAny_missed_other hd (Bg ⟨_,rfl,q⟩))
theorem Ϩ(hT:s.TypeIs (.ref d) "dict")(hd:(d==sysModules)=A1)(h:wpAny X.M A.in1 (dictGet d key) (λz s'=>P (z.getD .none) s') E s):wpAny X.M A (call (.builtin "dict.get") [.ref d,key]) P E s:=by
 refine Ot fm hT F.entry_dict_get ?_ (F.args_dict_get_2 ..);show wpAny _ _ (dictGet d key>>=_) _ _ s;refine Ao (HH h (λz s' q=>?_) λx x e=>e);cases z with
 |some v=>exact Bg ⟨v,rfl,q⟩|none=>
  exact Ao (wpAny_missed_other hd (Bg ⟨_,rfl,q⟩))
end
theorem qL(hs:YJ slice=A1)
  (h:wpAny X.M A (eval value env) (λo s₁=>wpAny X.M A (eval slice env) (λi s₂=>SubscriptOn X.M A o i P AP s₂) AP s₁) AP s):wpAny X.M A (eval (.Subscript value slice pos) env) P AP s:=by
 refine Ao (BY h λo s₁ h₁=>Ao (GX (BY h₁ λi s₂ h₂=>Ao (JY ?_))));obtain⟨T,id,hl,hT,hg⟩:=h₂;refine Ao ?_;refine Ao (f6 hT hl (Bg (Ao ?_)));rw[Ϥ hs];exact wpAny_operating (BY hg λr s₃ h₃=>Ao (q6 (Bg h₃)))
theorem qM(e:Be l i=H x):0<=i/\l[i.toNat]?=H x:=by
 unfold Be at e;by_cases h:0<=i
 .exact ⟨h,(if_pos h).symm.trans e⟩
 .rw [if_neg h] at e;exact nn e
theorem fq{i:Int}(h0:0<=i)(a:i.toNat<n)(b:n<=k)(c:k<=100000):i<2^63/\i<n:=
 ⟨fu ((Int.toNat_lt h0).mp a) (Kf.mpr (GH (Cr b c) (show 100000<2^63 by decide))),(Int.toNat_lt h0).mp a⟩
theorem qN{α:Type}{l:List α}{i:Int}{x:α}(h0:0<=i)(e:l[i.toNat]?=H x)(hl:I l<=BU):i<2^63/\i<I l:=fq h0 (Dd.mp e).1 hl (BQ rfl)
theorem qO{h:Ca}{l:List V}{xs:List AG}{a:BJ}{i:Int}{v:V}{x:AG}{P:AG->BS->Prop}(hl:F0 s.heap a xs)(rv:C5 X.G.AM β s.heap l xs)(hb:I l<=BU)(e:Be l i=H v)(rx:BN X.G.AM β s.heap (.B i) x)
  (q:∀y,BN X.G.AM β s.heap v y->P y s):SubscriptOn X.M A (.ref a) x P AP s:=by
 obtain⟨h0,e⟩:=qM e;obtain⟨y,ey,Dz⟩:=rv.Dh e;obtain⟨t,rfl⟩:=rx;exact⟨_,_,slot_list_getitem.lookup,hl.Ep.typeIs,wpAny_getItem_list hl.Ep h0 (qN h0 e hb).1 (Uu.trans ey) (q y Dz)⟩
theorem ϩ(ho:s.heap.get? a=H (Fg xs))(rv:C5 X.G.AM β s.heap l xs)(hb:I xs<=BU)(e:Be l i=H v)(rx:BN X.G.AM β s.heap (.B i) x)
  (q:∀y,BN X.G.AM β s.heap v y->P y s):SubscriptOn X.M A (.ref a) x P AP s:=by
 obtain⟨h0,e⟩:=qM e;obtain⟨y,ey,Dz⟩:=rv.Dh e;obtain⟨t,rfl⟩:=rx;have b:=qN h0 ey hb;have ht:IsTup _ a _:=⟨_,ho,rfl,0,rfl⟩;exact⟨_,_,fy.lookup,ht.typeIs,getItem_tuple ht (Xi () h0) b.1 (seqIndex_of h0 b.2) (Uu.trans ey) (q y Dz)⟩
inductive Uv(X:Cfg)(h:Internal.A0)(y:V):T->V->Prop
 |lst (l:List V) (i:Int) (e:Be l i=H y):Uv X h y (.Al l) (.B i)|tup (l:List V) (i:Int) (e:Be l i=H y):Uv X h y (.v (.A3 l)) (.B i)|A6 (s n:Nat) (l:List V) (i:Int) (o:(h s)[n]?=H (.A6 l)) (e:Be l i=H y):Uv X h y (.v (.O s n)) (.B i)|Dm (s n:Nat) (d:A_) (k:V) (o:(h s)[n]?=H d) (e:Jy X.G.AM d k=H (H y)):Uv X h y (.v (.O s n)) k
theorem Ϫ{o:Option (Option V)}(e:(match o with|some (H x)=>H x|_=>AB)=H y):o=H (H y):=by
 cases o with
 |none=>exact nn e|some o=>
  cases o with
  |none=>exact nn e|some x=>exact congrArg H e
theorem ϫ(e:Hl X.G.AM h t k=H y):Uv X h y t k:=by
 cases t with
 |AQ=>exact nn e|DT l=>exact nn e|Al l=>
  cases k with
  |B i=>exact .lst l i e|_=>exact nn e
 |v w=>
  cases w with
  |A3 l=>
   cases k with
   |B i=>exact .tup l i e|_=>exact nn e
  |O s n=>
   cases ho:(h s)[n]? with
   |none=>exact nn ((congrArg (Rz _ · k) ho).symm.trans e)|some o=>
    have e:=(congrArg (Rz _ · k) ho).symm.trans e;cases o with
    |A6 l=>
     cases k with
     |B i=>exact .A6 s n l i ho e|_=>exact nn e
    |_=>exact .Dm s n _ k ho (Ϫ e)
  |_=>exact nn e
theorem YK(BI:Ek A n):A.units+1+200<cLine:=Hq (Hq (Nat.add_lt_add_left (show 1+200<400 by decide) _) (YL (QE ..) 400)) BI.2.1
theorem Ϭ(BI:Ek A n)(hs:YJ k=A1)
  (h:wpAny X.M A (eval v env) (Post X β s A1 R) AP s)
  (hk:∀t A9 H1 s1,Go X β s A9 H1 s1->R t H1->wpAny X.M A (eval k env) (Post X A9 s1 A1 λu h2=>opt u.Av λkv=>opt (Hl X.G.AM h2 t kv) λy=>Q (.v y) h2) AP s1):
  wpAny X.M A (eval (.Subscript v k pos) env) (Post X β s fr Q) AP s:=by
 refine qL hs (BY h λo s1 q=>?_);obtain⟨t,H1,A9,q,r,g,_⟩:=q;refine Hv (hk t A9 H1 s1 g q) λi s2 kv H2 Br B7 r2 g2=>?_;obtain⟨y,e2,B7⟩:=B7;have r:=r.B5 g.st g2.B5;have fin:∀z,BN _ Br _ y z->Post X β s fr Q z s2:=λz ϭ=>E6 B7 ϭ (g.Aw g2);cases ϫ e2 with
 |lst l i e=>clear f;obtain⟨a,xs,rfl,pl,rv,hb,_⟩:=r;exact qO (h:=s.heap) pl rv hb e r2 fin
 |tup l i e=>clear f;obtain⟨a,xs,rfl,ho,hb,rv⟩:=r;exact ϩ ho rv hb e r2 fin
 |A6 si idx l i ho e=>
  clear f;obtain⟨p,hp,rfl⟩:=r;obtain⟨l1,l2,xs,pl,rv⟩:=g2.st.at hp ho;exact l1▸qO (h:=s.heap) pl rv l2 e r2 fin
 |Dm si idx d k ho e=>
  clear f;obtain⟨p,hp,rfl⟩:=r;obtain⟨d1,d2,d3,d4⟩:=Ut (A:=A.in1) (E:=AP) (P:=λz' s'=>∃v',z'=H v'/\Post X β s fr Q v' s') (YK BI) g2.st hp ho e r2 λt' z' hz=>by obtain⟨x,rfl,rx⟩:=hz;exact⟨x,rfl,E6 B7 rx ((g.Aw g2).G2 _)⟩
  exact d1▸⟨_,_,fj.lookup,d2,qH d2 d4⟩
end
section
variable{X:Cfg}{A0:A0}{s:BS}{fr:Bool}
theorem fz(h:bi c n g=U):∃p,g=.Name n p/\Hs c n=U:=
 HF (P:=λg=>∃p,g=.Name n p/\Hs c n=U) h λx p h=>⟨p,congrArg (AY.Name · p) (beq_iff_eq.mp (AJ h).1),(AJ (AJ h).2).1⟩
theorem YM{id:String}(hb:bi c n g=U)(hv:S9 n=H (.builtin id))(ns:FY a=A1)(K:CL c env)(S:Bh X β A0 s.heap)
  (h:wpAny X.M A (eval a env) Z AP s)(hc:∀x s1,Z x s1->wpAny X.M A (call (.builtin id) [x]) P AP s1):wpAny X.M A (eval (.Call g [a] [] pos) env) P AP s:=by
 obtain⟨p,rfl,hg⟩:=fz hb;refine Ao (fR hg K S hv ?_);have e:starEach [a] env=(A1,eval a env)::starEach [] env:=MR ns;rw[e];exact YN rfl (SM (On (BY h λx s1 q=>SL (hc x s1 q))))
theorem YO{id:String}(hb:bi c n g=U)(hv:S9 n=H (.type id))(ns:FY a=A1)(K:CL c env)(S:Bh X β A0 s.heap)
  (h:wpAny X.M A (eval a env) Z AP s)(hc:∀x s1,Z x s1->wpAny X.M A (call (.type id) [x]) P AP s1):wpAny X.M A (eval (.Call g [a] [] pos) env) P AP s:=by
 obtain⟨p,rfl,hg⟩:=fz hb;refine Ao (fR hg K S hv ?_);have e:starEach [a] env=(A1,eval a env)::starEach [] env:=MR ns;rw[e];exact Ϯ rfl (SM (On (BY h λx s1 q=>SL (hc x s1 q))))
def YQ:T->Bool
 |.v (.A3 _)=>U|_=>A1
inductive g4(h:Ca)(β:Af)(X:Cfg)(t:T)(l:List V):AG->Prop
 |A6 (a:BJ) (xs:List AG) (p:F0 h a xs) (r:C5 X.G.AM β h l xs) (b:I l<=BU) (y:YQ t=A1):g4 h β X t l (.ref a)|A3 (a:BJ) (xs:List AG) (p:h.get? a=H (Fg xs)) (r:C5 X.G.AM β h l xs) (b:I l<=BU) (y:YQ t=U):g4 h β X t l (.ref a)
theorem qP(e:NK o=H l):o=H (.A6 l):=by
 cases o with
 |none=>exact nn e|some o=>
  cases o with
  |A6 l=>exact congrArg (λl=>H _) (BR e)|_=>exact nn e
theorem SQ(S:Bh X β A0 s.heap)(e:IB A0 t=H l)(r:DH X β s.heap t x):g4 s.heap β X t l x:=by
 cases t with
 |AQ=>exact r.elim|DT l'=>exact nn e|Al l'=>
  cases(show H l'=H l from e);obtain⟨a,xs,rfl,pl,rv,hb,_⟩:=r;exact .A6 a xs pl rv hb rfl
 |v w=>
  cases w with
  |A3 l'=>
   cases(show H l'=H l from e);obtain⟨a,xs,rfl,ho,hb,rv⟩:=r;exact .A3 a xs ho rv (rv.Cy▸hb) rfl
  |O si i=>
   obtain⟨p,hp,rfl⟩:=r;obtain⟨l1,l2,xs,pl,rv⟩:=S.at hp (qP e);exact l1▸.A6 _ xs pl rv l2 rfl
  |_=>exact nn e
theorem SR(h:n<=BU):(n:Int)<2^63:=Kf.mpr (GH h (show 100000<2^63 by decide))
inductive YR(h:Internal.A0)(k:Nat):T->Prop
 |Ci {t:T} (l:List V) (e:IB h t=H l) (q:I l=k):YR h k t|Ad (s i:Nat) (l:List (Int×V)) (o:(h s)[i]?=H (.Ad l)) (q:I l=k):YR h k (.v (.O s i))|BC (s i:Nat) (l:List (Nat×V)) (o:(h s)[i]?=H (.BC l)) (q:I l=k):YR h k (.v (.O s i))
theorem ϯ(e:OY h t=H k):YR h k t:=by
 cases t with
 |Al l=>exact .Ci l rfl (BR e)|v w=>
  cases w with
  |A3 l=>exact .Ci l rfl (BR e)|O s i=>
   cases q:(h s)[i]? with
   |none=>exact nn ((congrArg Xb q).symm.trans e)|some o=>
    have e:=(congrArg Xb q).symm.trans e;cases o with
    |A6 l=>exact .Ci l (congrArg NK q) (BR e)|Ad l=>exact .Ad s i l q (BR e)|BC l=>exact .BC s i l q (BR e)|_=>exact nn e
  |_=>exact nn e
 |_=>exact nn e
theorem ϰ(hb:bi c "len" g=U)(ns:FY a=A1)(K:CL c env)(S:Bh X β A0 s.heap)
  (h:wpAny X.M A (eval a env) (Post X β s A1 λt h1=>opt (OY h1 t) λk=>Q (.v (.B k)) h1) AP s):wpAny X.M A (eval (.Call g [a] [] pos) env) (Post X β s fr Q) AP s:=by
 refine YM hb rfl ns K S h λx s1 q=>?_;obtain⟨t,H1,A9,⟨k,e,q⟩,r,g',-⟩:=q;have fin:∀{n:Nat} tk,n=k->Post X β s fr Q (.int n (s1.toks+1)) {s1 with toks:=tk}:=λtk e=>e▸E6 q ⟨_,rfl⟩ (g'.G2 _);cases ϯ e with
 |Ci l el DX=>
  cases SQ g'.st el r with
  |A6 a xs pl rv hb _=>exact Calls.call_len_list pl.Ep (SR (rv.Cy.symm▸hb:I xs<=BU)) (fin _ (rv.Cy.trans DX))|A3 a xs ho rv hb _=>exact len_tuple ⟨_,ho,rfl,0,rfl⟩ (SR (rv.Cy.symm▸hb:I xs<=BU)) (fin _ (rv.Cy.trans DX))
 |Ad si i l ho DX=>
  obtain⟨p,hp,rfl⟩:=r;obtain⟨l1,l2,kvs,hd,pr⟩:=g'.st.at hp ho;exact l1▸call_len_dict (g'.st.Oo (Op hp)) hd (SR (pr.Cy.symm▸l2)) (fin _ (pr.Cy.trans DX))
 |BC si i l ho DX=>
  obtain⟨p,hp,rfl⟩:=r;obtain⟨l1,l2,kvs,hd,pr⟩:=g'.st.at hp ho;exact l1▸call_len_dict (g'.st.Oo (Op hp)) hd (SR (pr.Cy.symm▸l2)) (fin _ (pr.Cy.trans DX))
theorem ϱ [DecidableEq κ](kvs:List (κ×AG))(i:κ):decide (i∈kvs.map (·.1))=(valueAt kvs i).isSome:=by
 induction kvs with
 |nil=>rfl|cons p r ih=>
  by_cases h:p.1=i
  .rw [decide_eq_true (h▸D0)]
   unfold valueAt;rw[List.find?_cons_of_pos (p:=λkv:κ×AG=>decide (kv.1=i)) (decide_eq_true h)];rfl
  .unfold valueAt at ih⊢
   rw[List.find?_cons_of_neg (by rw[decide_eq_true_iff];exact h),<-ih];exact decide_eq_decide.mpr ⟨λm=>(D4.mp m).resolve_left λe=>h e.symm,DV _⟩
inductive qQ(X:Cfg)(h:Internal.A0)(k:V)(z:Option V):V->Prop
 |mk (s i:Nat) (o:A_) (e:(h s)[i]?=H o) (q:Jy X.G.AM o k=H z):qQ X h k z (.O s i)
theorem qR(e:EG X.G.AM h d k=H z):qQ X h k z d:=by
 unfold EG at e;cases q:E4 h d with
 |none=>rw[q] at e;exact nn e|some o=>
  rw[q] at e;cases d with
  |O s i=>exact⟨s,i,o,q,e⟩|_=>exact nn q
theorem ϲ{z:Option V}(hz:match z with|some v=>∃x,z'=H x/\BN X.G.AM β h v x|none=>z'=AB):z'.isSome=z.isSome:=by
 cases z with
 |none=>exact congrArg _ hz|some v=>obtain⟨x,rfl,_⟩:=hz;rfl
theorem ϳ{neg:Bool}(hop:op=if neg then .NotIn else .In)(BI:Ek A n)(nm:behindInMarks op d=A1)
  (h:wpAny X.M A (eval k env) (Post X β s A1 R) AP s)
  (hk:∀t A9 H1 s1,Go X β s A9 H1 s1->R t H1->∃x,t=.v x/\wpAny X.M A (eval d env) (Post X A9 s1 A1 λu h2=>opt u.Av λy=>opt (EG X.G.AM h2 y x) λz=>Q (.v (.Au (if neg then !z.isSome else z.isSome))) h2) AP s1):
  wpAny X.M A (eval (.Compare k [op] [d] pos) env) (Post X β s fr Q) AP s:=by
 refine Uw (BY h λkx s1 q=>?_) nm;obtain⟨t,H1,A9,q,r,g,-⟩:=q;obtain⟨x,rfl,hk⟩:=hk t A9 H1 s1 g q;refine Hv hk λdx s2 y H2 Br B7 r2 g2=>?_;obtain⟨z,e2,B7⟩:=B7;cases qR e2 with
 |mk si i o ho e3=>
  obtain⟨p,hp,rfl⟩:=r2;obtain⟨d1,d2,d3,d4⟩:=Ut (A:=A.in1) (E:=AP) (P:=λz' s'=>z'.isSome=z.isSome/\Go X A9 s1 Br H2 s') (YK BI) g2.st hp ho e3 (BN.B5 g.st g2.B5 r) λt' z' hz=>⟨ϲ hz,g2.G2 _⟩;have YS:=g2.st.Oo (Op hp);rw[d1];cases neg with
  |false=>clear nm;subst hop;exact Ϧ d2 YS (BY d4 λz' s' hz=>E6 B7 (congrArg _ hz.1) (g.Aw hz.2))|true=>clear nm;subst hop;exact qK d2 YS (BY d4 λz' s' hz=>E6 B7 (congrArg (λb=>AG.bool _) hz.1) (g.Aw hz.2))
theorem ϴ(hg:Hs c n=U)(hn:n="TID_PRIM")(K:CL c env)
  (h:wpAny X.M A (eval k env) (Post X β s A1 λt h1=>match t with|.v (.B i)=>Q (.v (.Au (decide (i∈X.G.S1)))) h1|_=>False) AP s):
  wpAny X.M A (eval (.Compare k [.In] [.Name n p] pos) env) (Post X β s fr Q) AP s:=by
 refine Uw (BY h λkx s1 q=>?_) rfl;obtain⟨t,H1,A9,q,r,g,-⟩:=q;cases t with
 |v w=>
  cases w with
  |B i=>
   obtain⟨tk,rfl⟩:=r;subst hn;refine YD hg K g.st X.o5 ?_;obtain⟨kvs,hd,hk⟩:=X.o7 _ g.HD;exact wpAny_in_of (YI ..) X.o6 hd.mapOf (E6 q (congrArg _ ((ϱ kvs i).symm.trans (hk▸rfl))) (g.G2 _))
  |_=>exact q.elim
 |_=>exact q.elim
end
section
variable{X:Cfg}{A:I_}{β:Af}{A0:A0}{s:BS}
structure YT(A:I_)(s:BS)(x y:AG)(r:Bool):Prop where
 eq:RcAt A s x y r
 ne:RcNeAt A s x y (!r)
 at':EqAt A s x y r
inductive ϵ(f:V->V->Option Bool)(a b:List V)(r:Bool):Prop
 |mk (e:Nat->Bool) (q:r=((Ey (min (I a) (I b))).all e&&I a==I b)) (k:∀j u v,a[j]?=H u->b[j]?=H v->f u v=H (e j))
theorem qS{x y:V}{a b:List V}{r:Bool}(h:Hi f (x::a) (y::b)=H r):∃p q,f x y=H p/\Hi f a b=H q/\r=(p&&q):=by
 have h:(match f x y,Hi f a b with|some a,H b=>H _|_,_=>AB)=H r:=h;cases hp:f x y with
 |none=>rw[hp] at h;exact nn h|some p=>
  cases hq:Hi f a b with
  |none=>rw[hp,hq] at h;exact nn h|some q=>rw[hp,hq] at h;exact⟨p,q,rfl,rfl,(BR h).symm⟩
theorem ϶:((Ey (min (n+1) (m+1))).all (λj=>Nat.rec p (λj x=>e j) j)&&(n+1)==(m+1))=(p&&((Ey (min n m)).all e&&n==m)):=by rw[Nat.succ_min_succ,List.range_succ_eq_map,nY,List.all_map,Bool.and_assoc,show(n+1==m+1)=(n==m) by simp];rfl
theorem qT(h:Hi f a b=H r):ϵ f a b r:=by
 induction a generalizing b r with
 |nil=>
  cases b with
  |nil=>exact⟨λz=>U,(BR h).symm,λz z z h=>nn h⟩|cons y b=>exact⟨λz=>U,(BR h).symm,λz z z h=>nn h⟩
 |cons x a ih=>
  cases b with
  |nil=>exact⟨λz=>U,(BR h).symm,λz z z z h=>nn h⟩|cons y b=>
   obtain⟨p,q,hp,hq,rfl⟩:=qS h;clear h;obtain⟨e,rfl,he⟩:=ih hq;refine⟨λj=>Nat.rec p (λj z=>e j) j,϶.symm,λj u v hu hv=>?_⟩;cases j with
   |zero=>cases BR hu;cases BR hv;exact hp
   |succ j=>exact he j u v hu hv
section
variable{a b:List V}{x y:BJ}{xs ys:List AG}{f:V->V->Option Bool}
theorem YU{e:Nat->Bool}(hee:∀j u v,a[j]?=H u->b[j]?=H v->f u v=H (e j))(rx:C5 X.G.AM β s.heap a xs)(Dz:C5 X.G.AM β s.heap b ys)(ih:∀u v k p q,f u v=H k->BN X.G.AM β s.heap u p->BN X.G.AM β s.heap v q->EqAt A.in1 s p q k)
  (j:Nat)(h1:j<xs.toArray.size)(h2:j<ys.toArray.size):EqAt A.in1 s xs.toArray[j] ys.toArray[j] (e j):=by
 have j1:j<I a:=rx.Cy▸h1;have j2:j<I b:=Dz.Cy▸h2;obtain⟨p,hp,rp⟩:=rx.Dh (DP j1);obtain⟨q,hq,g5⟩:=Dz.Dh (DP j2);cases(DP (l:=xs) h1).symm.trans hp;cases(DP (l:=ys) h2).symm.trans hq;exact ih _ _ _ _ _ (hee j _ _ (DP j1) (DP j2)) rp g5
theorem Ϸ(hu:A.units+1<cLine)(he:Hi f a b=H r)(hx:s.heap.get? x=H (Fg xs))(hy:s.heap.get? y=H (Fg ys))
  (rx:C5 X.G.AM β s.heap a xs)(Dz:C5 X.G.AM β s.heap b ys)(ih:∀u v k p q,f u v=H k->BN X.G.AM β s.heap u p->BN X.G.AM β s.heap v q->EqAt A.in1 s p q k):
  RcAt A s (.ref x) (.ref y) r/\RcNeAt A s (.ref x) (.ref y) (!r):=by
 obtain⟨e,rfl,hee⟩:=qT he;have tx:s.heap.IsTuple x _:=⟨_,hx,rfl,0,rfl⟩;have ty:s.heap.IsTuple y _:=⟨_,hy,rfl,0,rfl⟩;rw[<-rx.Cy,<-Dz.Cy];exact⟨RcAt.tuples tx ty (Ou hu) (YU hee rx Dz ih),RcNeAt.tuples tx ty (Ou hu) (YU hee rx Dz ih)⟩
theorem ϸ(hu:A.units+1<cLine)(he:Hi f a b=H r)(hx:s.heap.IsList x xs.toArray)(hy:s.heap.IsList y ys.toArray)
  (rx:C5 X.G.AM β s.heap a xs)(Dz:C5 X.G.AM β s.heap b ys)(ih:∀u v k p q,f u v=H k->BN X.G.AM β s.heap u p->BN X.G.AM β s.heap v q->EqAt A.in1 s p q k):
  RcAt A s (.ref x) (.ref y) r/\RcNeAt A s (.ref x) (.ref y) (!r):=by
 obtain⟨e,rfl,hee⟩:=qT he;rw[<-rx.Cy,<-Dz.Cy];by_cases sz:I xs=I ys
 .rw [beq_iff_eq.mpr sz,Bool.and_true,<-sz,Nat.min_self]
  exact⟨RcAt.lists hx hy sz (Ou hu) (YU hee rx Dz ih),RcNeAt.lists hx hy sz (Ou hu) (YU hee rx Dz ih)⟩
 .have e0:=beq_eq_false_iff_ne.mpr sz
  have sz:=congrArg (!·) e0;rw[e0,qU];exact⟨RcAt.lists_lengths hx hy sz (Ou hu),RcNeAt.lists_lengths hx hy sz (Ou hu)⟩
end
def Ux:V->Option Nat
 |.AV=>H 0|.B _=>H 1|.An _=>H 2|.A3 _=>H 3|_=>AB
inductive QU:V->V->Bool->Prop
 |AV:QU .AV .AV U|Au (a b:Bool):QU (.Au a) (.Au b) (a==b)|B (a b:Int):QU (.B a) (.B b) (decide (a=b))|An (a b:Nat):QU (.An a) (.An b) (decide (a=b))|g6 {u v:V} (k l:Nat) (hu:Ux u=H k) (hv:Ux v=H l) (n:k≠l):QU u v A1
theorem qV(e:Rw u v=H r):QU u v r:=by
 have df:∀{u v:V} (k l:Nat),Ux u=H k->Ux v=H l->k≠l->H _=H r->QU u v r:=λk l hu hv n e=>BR e▸.g6 k l hu hv n;cases u with
 |AV=>
  cases v with
  |AV=>exact BR e▸.AV|B _=>exact df 0 1 rfl rfl () e|An _=>exact df 0 2 rfl rfl () e|A3 _=>exact df 0 3 rfl rfl () e|_=>exact nn e
 |Au a=>
  cases v with
  |Au b=>exact BR e▸.Au a b|_=>exact nn e
 |B a=>
  cases v with
  |AV=>exact df 1 0 rfl rfl () e|B b=>exact BR e▸.B a b|An _=>exact df 1 2 rfl rfl () e|A3 _=>exact df 1 3 rfl rfl () e|_=>exact nn e
 |An a=>
  cases v with
  |AV=>exact df 2 0 rfl rfl () e|B b=>exact df 2 1 rfl rfl () e|An b=>exact BR e▸.An a b|A3 _=>exact df 2 3 rfl rfl () e|_=>exact nn e
 |A3 a=>
  cases v with
  |AV=>exact df 3 0 rfl rfl () e|B b=>exact df 3 1 rfl rfl () e|An b=>exact df 3 2 rfl rfl () e|_=>exact nn e
 |Ed a=>exact nn e|O a b=>exact nn e
inductive LW(h:Ca):Nat->AG->Prop
 |AV:LW h 0 .none|B (i:Int) (t:Tok):LW h 1 (.int i t)|An (i:Str) (t:Tok):LW h 2 (.str i t)|A3 {a:BJ} {xs:Array AG} (i:h.IsTuple a xs):LW h 3 (.ref a)
theorem BN.kd(r:BN X.G.AM β h u x)(e:Ux u=H k):LW h k x:=by
 cases u with
 |AV=>exact r▸BR e▸.AV|B i=>obtain⟨t,rfl⟩:=r;exact BR e▸.B i t
 |An i=>obtain⟨t,rfl⟩:=r;exact BR e▸.An _ t
 |A3 l=>obtain⟨a,xs,rfl,ho,_⟩:=r;exact BR e▸.A3 ⟨_,ho,rfl,0,rfl⟩
 |_=>exact nn e
theorem LW.inj(a:LW h k x)(b:LW h l x):k=l:=by have g:∃f:AG->Nat,∀{k:Nat} {x:AG},LW h k x->k=f x:=⟨λx=>match x with|.none=>0|.int ..=>1|.str ..=>2|_=>3,λa=>by cases a<;>rfl⟩;exact g.elim λf g=>(g a).trans (g b).symm
theorem qW(e:Rw u v=H r)(G4:BN X.G.AM β h u x)(rv:BN X.G.AM β h v x):r=U:=by
 cases qV e with
 |AV=>rfl|Au a b=>exact beq_iff_eq.mpr (AG.bool.inj (G4.symm.trans rv))|B a b=>obtain⟨t,rfl⟩:=G4;obtain⟨t',h⟩:=rv;exact decide_eq_true (Un.inj h).1
 |An a b=>obtain⟨t,rfl⟩:=G4;obtain⟨t',h⟩:=rv;exact decide_eq_true (X.UY _ _ (AG.str.inj h).1)
 |g6 k l hu hv n=>exact absurd ((G4.kd hu).inj (rv.kd hv)) n
theorem qX(hf:∀u v k p,f u v=H k->BN X.G.AM β s.heap u p->BN X.G.AM β s.heap v p->k=U)(e:Hi f a b=H r)(ra:C5 X.G.AM β s.heap a xs)(rb:C5 X.G.AM β s.heap b xs):r=U:=by
 induction a generalizing b r xs with
 |nil=>
  cases b with
  |nil=>exact(BR e).symm|cons y b=>obtain⟨_,_,h,_⟩:=rb;exact nomatch ra.symm.trans h
 |cons x a ih=>
  obtain⟨p,ps,rfl,rp,Ϲ⟩:=ra;cases b with
  |nil=>exact nomatch(show p::ps=[] from rb)
  |cons y b=>
   obtain⟨q,qs,e2,g5,Ϻ⟩:=rb;cases e2;obtain⟨k,k',hk,hk',rfl⟩:=qS e;rw[hf _ _ _ _ hk rp g5,ih hk' Ϲ Ϻ];rfl
inductive YV(h:Internal.A0)(n:Nat)(r:Bool):V->V->Prop
 |A3 (a b:List V) (e:Hi (JO h n) a b=H r):YV h n r (.A3 a) (.A3 b)|A6 (s i t j:Nat) (a b:List V) (h1:(h s)[i]?=H (.A6 a)) (h2:(h t)[j]?=H (.A6 b)) (e:Hi (JO h n) a b=H r):YV h n r (.O s i) (.O t j)|s {u v:V} (e:Rw u v=H r):YV h n r u v
theorem ϻ{o p:Option A_}(e:(match o,p with|some (.A6 a),H (.A6 b)=>Hi f a b|_,_=>AB)=H r):∃a b,o=H (.A6 a)/\p=H (.A6 b)/\Hi f a b=H r:=by
 cases o with
 |none=>exact nn e|some o=>
  cases o with
  |A6 a=>
   cases p with
   |none=>exact nn e|some p=>
    cases p with
    |A6 b=>exact⟨a,b,rfl,rfl,e⟩|_=>exact nn e
  |_=>exact nn e
theorem qY(e:JO h (n+1) u v=H r):YV h n r u v:=by
 cases u with
 |A3 a=>
  cases v with
  |A3 b=>exact .A3 a b e|_=>exact .s e
 |O s i=>
  cases v with
  |O t j=>obtain⟨a,b,h1,h2,e⟩:=ϻ e;exact .A6 s i t j a b h1 h2 e
  |_=>exact .s e
 |_=>exact .s e
theorem aaa(S:Bh X β A0 s.heap)(n:Nat)(u v:V)(r:Bool)(x:AG)(e:JO A0 n u v=H r)(G4:BN X.G.AM β s.heap u x)(rv:BN X.G.AM β s.heap v x):r=U:=by
 induction n generalizing u v r x with
 |zero=>exact qW e G4 rv|succ n ih=>
  cases qY e with
  |s e=>exact qW e G4 rv|A3 a b e=>
   obtain⟨p,xs,rfl,ho,_,hv⟩:=G4;obtain⟨p',ys,h,ho',_,hv'⟩:=rv;clear b_2;cases h;cases ek (BR (ho.symm.trans ho'));exact qX ih e hv hv'
  |A6 si i aab j a b h1 h2 e=>
   obtain⟨p,hp,rfl⟩:=G4;obtain⟨q,hq,h⟩:=rv;obtain⟨a1,_,xs,pl,rx⟩:=S.at hp h1;obtain⟨b1,_⟩:=S.at hq h2;clear r_1 b_2;obtain⟨rfl,rfl⟩:=S.Od _ _ _ _ _ _ hp hq (a1.symm.trans ((qG h).trans b1));cases h1.symm.trans h2;exact qX ih e rx rx
theorem aac(hu:A.units<cLine)(a:LW s.heap k x)(b:LW s.heap l y)(n:k≠l):YT A s x y A1:=by
 cases a with
 |AV=>
  cases b with
  |AV=>exact absurd rfl n|B i t=>exact⟨.none_int _ _,.none_int _ _,.none_int _ _⟩|An i t=>exact⟨.none_str _ _,.none_str _ _,.none_str _ _⟩|A3 i=>exact⟨.none_tuple i hu,.none_tuple i hu,.none_tuple i hu⟩
 |B j t=>
  cases b with
  |AV=>exact⟨.int_none _ _,.int_none _ _,.int_none _ _⟩|B i t=>exact absurd rfl n|An i t=>exact⟨.int_str _ _ _ _,.int_str _ _ _ _,.int_str _ _ _ _⟩|A3 i=>exact⟨.int_tuple _ _ i hu,.int_tuple _ _ i hu,.int_tuple _ _ i hu⟩
 |An j t=>
  cases b with
  |AV=>exact⟨.str_none _ _,.str_none _ _,.str_none _ _⟩|B i t=>exact⟨.str_int _ _ _ _,.str_int _ _ _ _,.str_int _ _ _ _⟩|An i t=>exact absurd rfl n|A3 i=>exact⟨.str_tuple _ _ i hu,.str_tuple _ _ i hu,.str_tuple _ _ i hu⟩
 |A3 j=>
  cases b with
  |AV=>exact⟨.tuple_none j hu,.tuple_none j hu,.tuple_none j hu⟩|B i t=>exact⟨.tuple_int _ _ j hu,.tuple_int _ _ j hu,.tuple_int _ _ j hu⟩|An i t=>exact⟨.tuple_str _ _ j hu,.tuple_str _ _ j hu,.tuple_str _ _ j hu⟩|A3 i=>exact absurd rfl n
theorem q_(hu:A.units<cLine)(e:Rw u v=H r)(G4:BN X.G.AM β s.heap u x)(rv:BN X.G.AM β s.heap v y):YT A s x y r:=by
 cases qV e with
 |AV=>cases(show x=.none from G4);cases(show y=.none from rv);exact⟨.none_none,.none_none,.same _⟩
 |Au a b=>cases(show x=.bool a from G4);cases(show y=.bool b from rv);exact⟨.bool_bool _ _,.bool_bool _ _,.bool_bool _ _⟩
 |B a b=>obtain⟨t,rfl⟩:=G4;obtain⟨t',rfl⟩:=rv;rw[<-Xm];exact⟨.int_int _ _ _ _,.int_int _ _ _ _,.int_int _ _ _ _⟩
 |An a b=>
  obtain⟨t,rfl⟩:=G4;obtain⟨t',rfl⟩:=rv;rw[show decide (a=b)=(X.G.AM a==X.G.AM b) from(Xm (X.G.AM a) (X.G.AM b)).symm▸decide_eq_decide.mpr ⟨congrArg _,X.UY _ _⟩];exact⟨.str_str _ _ _ _,.str_str _ _ _ _,.str_str _ _ _ _⟩
 |g6 k l a b n=>exact aac hu (G4.kd a) (rv.kd b) n
theorem qa(S:Bh X β A0 s.heap)(n:Nat)(A:I_)(u v:V)(r:Bool)(x y:AG)(hu:A.units+n+1<cLine)(e:JO A0 n u v=H r)(G4:BN X.G.AM β s.heap u x)(rv:BN X.G.AM β s.heap v y):YT A s x y r:=by
 induction n generalizing A u v r x y with
 |zero=>exact q_ (Ou hu) e G4 rv|succ n ih=>
  have hu1:=GH (Oq (QF 1 n) _) (Ou hu);have hi:=(J_ _ 1 n).symm▸hu;have ih':=λu v k p q e G4 rv=>(ih A.in1 u v k p q hi e G4 rv).at';have fin:∀a b,x=.ref a->y=.ref b->RcAt A s (.ref a) (.ref b) r/\RcNeAt A s (.ref a) (.ref b) (!r)->YT A s x y r:=λa b ea eb c=>by
   subst ea eb;refine⟨c.1,c.2,?_⟩;by_cases hp:a=b
   .subst hp
    cases aaa S _ _ _ _ _ e G4 rv;exact .same _
   .exact .of_refs hp c.1
  cases qY e with
  |s e=>exact q_ (Ou hu1) e G4 rv|A3 a b e=>
   obtain⟨p,xs,e1,ho,_,hv⟩:=G4;obtain⟨p',ys,e2,ho',_,hv'⟩:=rv;exact fin _ _ e1 e2 (Ϸ hu1 e ho ho' hv hv' ih')
  |A6 si i aab j a b h1 h2 e5=>
   obtain⟨p,hp,e1⟩:=G4;obtain⟨q,hq,e2⟩:=rv;obtain⟨a1,_,xs,pl,rx⟩:=S.at hp h1;obtain⟨b1,_,ys,SS,Dz⟩:=S.at hq h2;exact fin _ _ (e1.trans (congrArg _ a1)) (e2.trans (congrArg _ b1)) (ϸ hu1 e5 pl.Ep SS.Ep rx Dz ih')
end
section
variable{X:Cfg}{A0:A0}{s:BS}{R:T->Internal.A0->Prop}
theorem aad:behindInMarks (NU op) r=A1:=by
 have h:(NU op==.In||NU op==.NotIn)=A1:=by cases op<;>rfl
 cases r with
 |Set e k p=>
  show(k==0&&(NU op==.In||NU op==.NotIn)&&e.all _)=A1;rw[h,qU,Bool.false_and]
 |_=>rfl
theorem aae{x y:V}{r:Bool}(e:S0 f x y=H r){P:V->V->Bool->Prop}(k:∀a b,P (.B a) (.B b) (f a b)):P x y r:=by
 cases x with
 |B a=>
  cases y with
  |B b=>exact BR e▸k a b|_=>exact nn e
 |_=>exact nn e
theorem aaf(BI:Ek A n)
  (h:wpAny X.M A (eval l env) (Post X β s A1 R) AP s)
  (hk:∀t A9 H1 s1,Go X β s A9 H1 s1->R t H1->∃x,t=.v x/\wpAny X.M A (eval r env) (Post X A9 s1 A1 λu h2=>opt u.Av λy=>opt (Iz h2 op x y) λz=>Q (.v (.Au z)) h2) AP s1):
  wpAny X.M A (eval (.Compare l [NU op] [r] pos) env) (Post X β s fr Q) AP s:=by
 refine Uw (BY h λkx s1 q=>?_) aad;obtain⟨t,H1,A9,q,rr,g,-⟩:=q;obtain⟨x,rfl,hk⟩:=hk t A9 H1 s1 g q;refine Hv hk λdx s2 y H2 Br B7 r2 g2=>?_;obtain⟨z,e2,B7⟩:=B7;have rk:=BN.B5 g.st g2.B5 rr;have fin:Post X β s fr Q _ s2:=E6 B7 rfl (g.Aw g2);have hu:=Hq (Hq (Nat.add_lt_add_left (show 6+1<400 by decide) _) (YL (QE ..) 400)) BI.2.1;have iv:∀{f:Int->Int->Bool},S0 f x y=H z->(∀a b t1 t2,z=f a b->wpAny X.M A _ _ AP s2)->wpAny X.M A _ _ AP s2:=λ{f} e k=>
  aae (P:=λx y z=>BN X.G.AM Br s2.heap x kx->BN X.G.AM Br s2.heap y dx->(∀a b t1 t2,z=f a b->wpAny X.M A (compareOp (NU op) (.int a t1) (.int b t2)) _ AP s2)->wpAny X.M A _ (Post X β s fr Q) AP s2) e
   (λa b u v k=>u.elim λt1 e1=>v.elim λt2 e2=>e1▸e2▸k a b t1 t2 rfl) rk r2 k
 cases op with
 |eq=>exact(qa g2.st 6 A x y z kx dx hu e2 rk r2).eq _ _ _ _ fin|ne=>
  clear iv B7;obtain⟨w,e3,rfl⟩:=SP.mp e2;exact(qa g2.st 6 A x y w kx dx hu e3 rk r2).ne _ _ _ _ fin
 |lt=>exact iv e2 λa b t1 t2 e=>lt_int (e▸fin)|le=>exact iv e2 λa b t1 t2 e=>le_int (e▸fin)|gt=>exact iv e2 λa b t1 t2 e=>gt_int (e▸fin)|ge=>exact iv e2 λa b t1 t2 e=>ge_int (e▸fin)
theorem qb(r:BN X.G.AM β h v x):(x==NX)=K0 v:=by
 cases v with
 |AV=>rw[r];rfl|Au b=>rw[r];rfl|B i=>obtain⟨_,rfl⟩:=r;rfl
 |An i=>obtain⟨_,rfl⟩:=r;rfl
 |Ed i=>obtain⟨_,rfl⟩:=r;rfl
 |A3 l=>obtain⟨_,_,rfl,_⟩:=r;rfl
 |O a b=>obtain⟨_,_,rfl⟩:=r;rfl
theorem aag(h:wpAny X.M A (eval l env) (Post X β s A1 λt h1=>opt t.Av λx=>Q (.v (.Au (K0 x))) h1) AP s):
  wpAny X.M A (eval (.Compare l [.Is] [.Constant .none k p] pos) env) (Post X β s fr Q) AP s:=
 Uw (Hv h λkx s1 x H1 A9 q rr g=>Bg (is_none_gen (E6 q (congrArg _ (qb rr)) g))) rfl
theorem aah(h:wpAny X.M A (eval l env) (Post X β s A1 λt h1=>opt t.Av λx=>Q (.v (.Au (!K0 x))) h1) AP s):
  wpAny X.M A (eval (.Compare l [.IsNot] [.Constant .none k p] pos) env) (Post X β s fr Q) AP s:=
 Uw (Hv h λkx s1 x H1 A9 q rr g=>Bg (isnot_none_gen (E6 q (congrArg (λb=>AG.bool _) (qb rr)) g))) rfl
theorem aai(e:K1 h x=U):∃s i o,x=.O s i/\(h s)[i]?=H o/\UP o=U:=by
 unfold K1 at e;cases q:E4 h x with
 |none=>rw[q] at e;exact Bp e|some o=>
  rw[q] at e;cases x with
  |O s i=>exact⟨s,i,o,rfl,q,e⟩|_=>exact nn q
inductive qc(X:Cfg)(β:Af)(A0:Internal.A0)(s:BS)(x:V)(kx:AG):Prop
 |mk (p:BJ) (si i:Nat) (o:A_) (e1:x=.O si i) (e2:kx=.ref p) (t:s.TypeIs (.ref p) "dict") (n:∀a,MF p=.ref a->∃ob,s.heap.get? a=H ob/\ob.dict=AB) (hp:(β si)[i]?=H (p,p)) (ho:(A0 si)[i]?=H o)
theorem qd(S:Bh X β A0 s.heap)(e:K1 A0 x=U)(r:BN X.G.AM β s.heap x kx):qc X β A0 s x kx:=by
 obtain⟨si,i,o,rfl,ho,d⟩:=aai e;obtain⟨⟨p1,p2⟩,hp,rfl⟩:=r;have z:=S.at hp ho;have fin:p1=p2->s.TypeIs (.ref p2) _->(∀a,MF p2=.ref a->∃ob,s.heap.get? a=H ob/\ob.dict=AB)->qc X β A0 s ..:=λe t n=>by cases e;exact⟨_,si,i,o,rfl,rfl,t,n,hp,ho⟩
 cases o with
 |Ad l=>obtain⟨l1,_,_,hd,_⟩:=z;exact fin l1 hd.typeIs hd.mapOf.noDict
 |BC l=>obtain⟨l1,_,_,hd,_⟩:=z;exact fin l1 hd.typeIs hd.mapOf.noDict
 |Ff l=>
  obtain⟨l1,_,_,hd,_⟩:=z;obtain⟨ob,_,_,ho',hc,_⟩:=id hd;exact fin l1 hd.typeIs λa ea=>qG ea▸⟨ob,ho',hc.2.1⟩
 |_=>exact Bp d
theorem qe(BI:Ek A n)(S:Bh X β A0 s.heap)(hp:(β si)[i]?=H (a,a))(e:EG X.G.AM A0 (.O si i) kv=H y)
  (rk:BN X.G.AM β s.heap kv kx)(q:∀t z,(match y with|some v=>∃x,z=H x/\BN X.G.AM β s.heap v x|none=>z=AB)->P z {s with toks:=t}):
  s.TypeIs (.ref a) "dict"/\(a==sysModules)=A1/\wpAny X.M A.in1 (dictGet a kx) P AP s:=by
 generalize hx:V.O si i=x at e;cases qR e with
 |mk s' i' o ho e2=>
  cases hx;obtain⟨d1,d2,d3,d4⟩:=Ut (A:=A.in1) (E:=AP) (YK BI) S hp ho e2 rk q;exact⟨d2,S.Oo (Op hp),d4⟩
theorem qf{y:Option V}(hz:match y with|some v=>∃x,z=H x/\BN X.G.AM β h v x|none=>z=AB)(r:BN X.G.AM β h dv dx):BN X.G.AM β h (y.getD dv) (z.getD dx):=by
 cases y with
 |none=>rw[hz];exact r|some v=>obtain⟨x,rfl,hx⟩:=hz;exact hx
theorem aaj{nm:Str}{ap pos:Pos}{n:Nat}(BI:Ek A n)(hn:nm="get")(hs:Ia v=U)(hl:(ap.endLine==pos.line)=U)(na:FY a=A1)(nb:FY b=A1)
  {J7:V->T->Internal.A0->Prop}{EH:V->V->T->Internal.A0->Prop}
  (h:wpAny X.M A (eval v env) (Post X β s A1 λt h1=>opt t.Av λx=>K1 h1 x=U/\R (.v x) h1) AP s)
  (hk:∀x A9 H1 s1,Go X β s A9 H1 s1->R (.v x) H1->wpAny X.M A (eval a env) (Post X A9 s1 A1 (J7 x)) AP s1)
  (hd:∀x t A9 H1 s1,Go X β s A9 H1 s1->J7 x t H1->∃kv,t=.v kv/\wpAny X.M A (eval b env) (Post X A9 s1 A1 (EH x kv)) AP s1)
  (hq:∀x kv t h3,EH x kv t h3->∃dv y,t=.v dv/\EG X.G.AM h3 x kv=H y/\Q (.v (y.getD dv)) h3):
  wpAny X.M A (eval (.Call (.Attribute v nm ap) [a,b] [] pos) env) (Post X β s fr Q) AP s:=by
 subst hn;have ht:backTo pos (starEach [a,b] env)=[(A1,eval a env),(A1,eval b env)]:=by rw[MR na,MR nb];rfl
 refine wpAny_Call_method2_late (SK hs) hl ht (Hv h λov s1 x H1 A9 q rr g=>?_);obtain⟨p,si,i,o,rfl,rfl,hT,nd,hp,ho⟩:=qd g.st q.1 rr;refine⟨_,_,qg,fm,F.type_dict_get,hT,nd,YN rfl (SM (On (BY (hk _ A9 H1 s1 g q.2) λkx s2 B7=>?_)))⟩;obtain⟨t2,H2,Br,B7,r2,g2,-⟩:=B7;obtain⟨kv,rfl,hd'⟩:=hd _ t2 Br H2 s2 (g.Aw g2) B7;refine On (BY hd' λdx s3 F1=>SL ?_);obtain⟨t3,H3,Ke,F1,r3,g3,-⟩:=F1;obtain⟨dv,y,rfl,el,F1⟩:=hq _ _ _ _ F1;obtain⟨d1,d2,d3⟩:=qe (P:=λz s'=>Post X β s fr Q _ s') BI g3.st ((g2.B5.le.Aw g3.B5.le).Dh hp) el (BN.B5 g2.st g3.B5 r2) λt z hz=>E6 F1 (qf hz r3) (((g.Aw g2).Aw g3).G2 _);exact ϧ d1 d2 d3
theorem aak{nm:Str}{ap pos:Pos}{n:Nat}(BI:Ek A n)(hn:nm="get")(hs:Ia v=U)(hl:(ap.endLine==pos.line)=U)(na:FY a=A1)
  {J7:V->T->Internal.A0->Prop}
  (h:wpAny X.M A (eval v env) (Post X β s A1 λt h1=>opt t.Av λx=>K1 h1 x=U/\R (.v x) h1) AP s)
  (hk:∀x A9 H1 s1,Go X β s A9 H1 s1->R (.v x) H1->wpAny X.M A (eval a env) (Post X A9 s1 A1 (J7 x)) AP s1)
  (hq:∀x t h3,J7 x t h3->∃kv y,t=.v kv/\EG X.G.AM h3 x kv=H y/\Q (.v (y.getD .AV)) h3):
  wpAny X.M A (eval (.Call (.Attribute v nm ap) [a] [] pos) env) (Post X β s fr Q) AP s:=by
 subst hn;have ht:backTo pos (starEach [a] env)=[(A1,eval a env)]:=by rw[MR na];rfl
 refine wpAny_Call_method1_late (SK hs) hl ht (Hv h λov s1 x H1 A9 q rr g=>?_);obtain⟨p,si,i,o,rfl,rfl,hT,nd,hp,ho⟩:=qd g.st q.1 rr;refine⟨_,_,qg,fm,F.type_dict_get,hT,nd,YN rfl (SM (On (BY (hk _ A9 H1 s1 g q.2) λkx s2 B7=>SL ?_)))⟩;obtain⟨t2,H2,Br,B7,r2,g2,-⟩:=B7;obtain⟨kv,y,rfl,el,F1⟩:=hq _ _ _ B7;obtain⟨d1,d2,d3⟩:=qe (P:=λz s'=>Post X β s fr Q _ s') BI g2.st (g2.B5.le.Dh hp) el r2 λt z hz=>E6 F1 (qf hz rfl) ((g.Aw g2).G2 _);exact Ϩ d1 d2 d3
theorem YW(g:Go X β s A9 H1 s1)(r:C5 X.G.AM A9 s1.heap l xs)(hl:I l<=BU)(q:Q (.v (.A3 l)) H1):
  Post X β s fr Q (.ref s1.heap.objs.size) {s1 with heap:=s1.heap.push {cls:=.type "tuple",data:=.seq xs.toArray},toks:=tk}:=by
 have g2:=(Go.BO g.st).Kd {cls:=.type "tuple",data:=.seq xs.toArray} tk;exact E6 q ⟨_,xs,rfl,J6 _ rfl,by rw[r.Cy];exact hl,r.B5 g.st g2.B5⟩ (g.Aw g2)
theorem Go.QV(g:Go X β s A9 H1 s1)(hn:s1.heap.get? a=AB):s.heap.get? a=AB:=by
 cases hq:s.heap.get? a with
 |none=>rfl|some o=>
  by_cases hm:β.mut a
  .obtain ⟨k,p,hp,he⟩:=hm
   obtain⟨j,hj⟩:=UX.mp hp;obtain⟨ob,e,_⟩:=g.st.LR ⟨k,p,HE (g.B5.le.Dh hj),he⟩;exact nn (hn.symm.trans e)
  .exact nn (hn.symm.trans (g.B5.AX _ _ hq hm))
theorem Uy(g:Go X β s A9 H1 s1)(k:∀b o,s1.heap.get? b=H o->h'.get? b=H o)(hn:s1.heap.get? a=AB)(pl:F0 h' a xs)
  (r:C5 X.G.AM A9 s1.heap l xs)(hl:I l<=BU)(q:Q (.Al l) H1):Post X β s fr Q (.ref a) {s1 with heap:=h',toks:=tk}:=by
 have g2:=(Go.BO g.st).AX k tk;refine⟨_,H1,A9,q,⟨a,xs,rfl,pl,r.B5 g.st g2.B5,hl,λm=>?_,LM g.st.G1 hn⟩,g.Aw g2,λx l' e=>⟨a,rfl,g.QV hn⟩⟩;obtain⟨ob,e,_⟩:=g.st.LR m;rw[hn] at e;cases e
theorem YX(g:Go X β s A9 H1 s1)(r:C5 X.G.AM A9 s1.heap l xs)(hl:I l<=BU)(q:Q (.Al l) H1):
  Post X β s fr Q (.ref s1.heap.objs.size) {s1 with heap:=s1.heap.push {cls:=.type "list",data:=.seq xs.toArray},toks:=tk}:=
 Uy g (λx x e=>GW _ e) (J0 _) ⟨0,J6 _ rfl⟩ r hl q
theorem aal(hl:I elts<1000)(h:wpAny X.M A (spliced (backTo pos (starEach elts env))) (JX X β s λvs h1=>I vs=I elts/\Q (.v (.A3 vs)) h1) AP s):
  wpAny X.M A (eval (.Tuple elts k pos) env) (Post X β s fr Q) AP s:=by
 refine Ao (JY (Ao (BY h λxs s1 q=>?_)));obtain⟨vs,H1,A9,⟨e,q⟩,r,g⟩:=q;have hb:I vs<=BU:=e▸MS (Hq hl ());refine wpAny_newTuple (YW g r hb q) ?_;rw[r.Cy];exact Cr hb J4
theorem aam(hl:I elts<1000)(h:wpAny X.M A (spliced (backTo pos (starEach elts env))) (JX X β s λvs h1=>I vs=I elts/\Q (.Al vs) h1) AP s):
  wpAny X.M A (eval (.List elts pos) env) (Post X β s fr Q) AP s:=by
 refine Ao (JY (Ao (BY h λxs s1 q=>?_)));obtain⟨vs,H1,A9,⟨e,q⟩,r,g⟩:=q;have hb:I vs<=BU:=e▸MS (Hq hl ());refine wpAny_newList (YX g r hb q) ?_;rw[r.Cy];exact Cr hb J4
end
section
variable{A0:A0}{fr:Bool}{Q:T->Internal.A0->Prop}
set_option tactic.hygienic true in
theorem Go.Uz(g:Go X β s A9 H1 s1)(hm:¬A9.mut a)(h0:X.h₀.get? a=AB)(hs:s.heap.get? a=AB)(ho:ER X (A9.Cu si (a,a)) s1.heap (a,a) o):
  Go X β s (A9.Cu si (a,a)) (Bm H1 si o) s1:=by
 have S:=g.st;have Ud:∀{s i:Nat} {p:BJ×BJ},(A9 s)[i]?=H p->A9.mut p.2:=λ{s i p} e=>⟨s,p,HE e,rfl⟩;refine⟨⟨λs' i o' e=>?_,λs'=>?_,λs₁ i₁ s₂ i₂ p₁ p₂ e₁ e₂ ep=>?_,S.G1,λb m=>?_⟩,⟨g.B5.le.Aw (Af.ML A9 si _),g.B5.AX,λb m=>?_⟩,g.Hu⟩
 .have Ue:=λ{i s' o'} e=>by obtain⟨q,hq,r⟩:=S.G0 s' i o' e;exact⟨q,(Af.ML A9 si (a,a)).Dh hq,r.Bo (EX.BO _) (Af.ML A9 si (a,a)) (λx e=>e) λx e=>e⟩
  unfold Bm DA at e;split at e
  .rename_i hs'
   subst hs';by_cases hi:i<I (H1 s')
   .rw [JQ hi] at e
    exact Ue e
   .rw [JT (NT.mp hi)] at e
    have h0':i-(I (H1 s'))=0:=by
     rcases oA _ with h|h
     .exact h
     .rw [SA (by assumption)] at e;cases e
    rw[h0'] at e;simp at e;subst e;have hi':i=I (A9 s'):=by rw[S.Aj];exact Fl (By 1 A2 (.a A7 Aa) 1 A7 AK A2 Aa A4 [i,i-(I (H1 s')),I (H1 s')] (LN i _) (BQ h0')) (BG 1 A2 A7 A2 A7 A4 [I (H1 s'),i] (J1 hi))
    clear h0' hi;subst hi';exact⟨_,Af.Og ..,ho⟩
  .exact Ue e
 .unfold Bm DA Af.Cu
  split
  .simp [S.Aj]
  .exact S.Aj s'
 .rcases Af.Xy e₁ with q₁|⟨rfl,rfl,rfl⟩<;>rcases Af.Xy e₂ with q₂|⟨rfl,rfl,rfl⟩
  .exact S.Od _ _ _ _ _ _ q₁ q₂ ep
  .have:=Ud q₁;rw[ep] at this;exact absurd this hm
  .have:=Ud q₂;rw[<-ep] at this;exact absurd this hm
  .exact ⟨rfl,rfl⟩
 .clear ho hs hm;rcases Af.Uc m with q|rfl
  .exact S.Oe b q
  .exact h0
 .clear ho h0 hm;rcases Af.Uc m with q|rfl
  .exact g.B5.IC b q
  .exact .inr hs
theorem aan(h:wpAny X.M A (eval x env) (Post X β s U λt h1=>match t with|.Al l=>I l<BU/\Q (.v (.O si (I (h1 si)))) (Bm h1 si (.A6 l))|_=>False) AP s):
  wpAny X.M A (eval x env) (Post X β s fr Q) AP s:=by
 refine BY h λy s1 q=>?_;obtain⟨t,H1,A9,q,r,g,f⟩:=q;cases t with
 |AQ=>exact q.elim|v v=>exact q.elim|DT v=>exact q.elim|Al l=>
  obtain⟨hl,q⟩:=q;obtain⟨a,xs,rfl,pl,rv,hb,hm,h0⟩:=r;obtain⟨a',ea,hs⟩:=f rfl l rfl;cases ea;have le:=Af.ML A9 si (a,a);have g2:=g.Uz (o:=.A6 l) hm h0 hs ⟨rfl,hb,xs,pl,rv.Bo (EX.BO _) le⟩;refine E6 q ⟨(a,a),?_,rfl⟩ g2;rw[<-g.st.Aj];exact Af.Og ..
theorem aao(hb:bi c "tuple" g=U)(ns:FY a=A1)(K:CL c env)(S:Bh X β A0 s.heap)
  (h:wpAny X.M A (eval a env) (Post X β s A1 λt h1=>opt (IB h1 t) λl=>Q (.v (.A3 l)) h1) AP s):wpAny X.M A (eval (.Call g [a] [] pos) env) (Post X β s fr Q) AP s:=by
 refine YO hb rfl ns K S h λx s1 q=>?_;obtain⟨t,H1,A9,⟨l,e,q⟩,r,g',-⟩:=q;cases SQ g'.st e r with
 |A6 a xs pl rv hb _=>
  refine call_tuple_list pl.Ep (λh' hk=>?_) (Cr (rv.Cy.symm▸hb:I xs<=BU) J4);have g2:=(Go.BO g'.st).AX hk s1.toks;exact YW (g'.Aw g2) (rv.B5 g'.st g2.B5) hb q
 |A3 a xs ho rv hb _=>
  exact call_tuple_same ⟨_,ho,rfl,0,rfl⟩ (E6 q ⟨a,xs,rfl,ho,by rw[rv.Cy];exact hb,rv⟩ g')
theorem aap(hb:bi c "list" g=U)(ns:FY a=A1)(K:CL c env)(S:Bh X β A0 s.heap)
  (h:wpAny X.M A (eval a env) (Post X β s A1 λt h1=>opt (IB h1 t) λl=>Q (.Al l) h1) AP s):wpAny X.M A (eval (.Call g [a] [] pos) env) (Post X β s fr Q) AP s:=by
 refine YO hb rfl ns K S h λx s1 q=>?_;obtain⟨t,H1,A9,⟨l,e,q⟩,r,g',-⟩:=q;cases SQ g'.st e r with
 |A6 a xs pl rv hb _=>
  obtain⟨n,ho⟩:=pl;refine call_list_seq a (.inl rfl) ho rfl rfl (λh' c' hk hD=>?_) (Cr (rv.Cy.symm▸hb:I xs<=BU) J4);exact Uy g' hk (J0 _) ⟨c',hD⟩ rv hb q
 |A3 a xs ho rv hb _=>
  refine call_list_seq a (.inr rfl) ho rfl rfl (λh' c' hk hD=>?_) (Cr (rv.Cy.symm▸hb:I xs<=BU) J4);exact Uy g' hk (J0 _) ⟨c',hD⟩ rv hb q
end
section
variable{X:Cfg}
abbrev QW(x:AG):Obj:={cls:=.type "slice",data:=.fields #[.none,x,.none]}
theorem aaq
  (h:wpAny X.M A (eval value env) (λo s₁=>wpAny X.M A (eval u env) (λi s₂=>∃T id,typeLookup (.type T) "__getitem__"=pure (H (.builtin id))/\s₂.TypeIs o T/\
   wpAny X.M A (getItem o (.ref s₂.heap.objs.size)) P AP {s₂ with heap:=s₂.heap.push (QW i)}) AP s₁) AP s):wpAny X.M A (eval (.Subscript value (.Slice AB (H u) AB p) pos) env) P AP s:=by
 refine Ao (BY h λo s₁ h₁=>Ao (GX (wpAny_Slice (Bg (BY h₁ λi s₂ h₂=>Bg (Ao (JY ?_)))))));obtain⟨T,id,hl,hT,hg⟩:=h₂;have aar:({s₂ with heap:=s₂.heap.push (QW i)}).TypeIs o T:=by
  cases o with
  |ref a=>obtain⟨ob,e,ec⟩:=hT;exact⟨ob,GW _ e,ec⟩
  |_=>exact hT
 refine Ao ?_;refine Ao (f6 aar hl (Bg (Ao ?_)));exact wpAny_operating (BY hg λr s₃ h₃=>Ao (q6 (Bg h₃)))
theorem aas(b n:Nat):qh AB (H (b:Int)) 1 (n:Int)=(0,((min b n:Nat):Int)):=by unfold qh;have h1:¬((1:Int)<0):=(Ie.mpr (Co AK AF A4 []));have h2:¬((b:Int)<0):=(Ie.mpr (Ax 1 AK A2 AK A2 A4 [b] (CU b)));simp only[h1,h2,if_false];congr 1;omega
theorem aat(k:Nat):qi 0 (k:Int) 1=k:=by
 unfold qi;have h1:(1:Int)>0:=(Co (.a AK AF) AF A4 []);simp only[h1,if_true,Int.ediv_one];split
 .rw [Int.sub_zero,Int.sub_add_cancel];rfl
 .rename_i q;cases k with
  |zero=>rfl|succ k=>exact absurd (Int.natCast_pos.mpr (V0 k)) q
theorem aau(xs:List AG)(b:Nat):((Ey (min b (I xs))).filterMap λ(k:Nat)=>xs.toArray[((0:Int)+(k:Int)*1).toNat]?).toArray=(xs.take b).toArray:=by
 have e:(λ(k:Nat)=>xs.toArray[(0+(k:Int)*1).toNat]?)=λk=>xs.toArray[0+k]?:=by
  funext k
  have:(0+(k:Int)*1).toNat=0+k:=by rw[Int.mul_one,ee,MT];rfl
  rw[this]
 rw[e]
 have:=pick_run xs.toArray 0 (min b (I xs));rw[List.filterMap_map] at this;rw[this,List.drop_zero];by_cases hb:b<=I xs
 .rw [Nat.min_eq_left hb]
 .rw [Nat.min_eq_right (BG 1 AI A7 A2 A7 A4 [I xs,b] (qj hb)),g7 (Ds _),g7 (BG 1 AI A7 A2 A7 A4 [I xs,b] (qj hb))]
theorem aav{b:Nat}{E:AG->BS->Prop}(ho:s.heap.get? t=H (Fg xs))(hs:s.heap.IsSliceOf sl .none (.int b u) .none)(hz:I xs<=BU)
  (h1:xs.take b=xs->P (.ref t) s)(h:P (.ref s.heap.objs.size) {s with heap:=s.heap.push {cls:=.type "tuple",data:=.seq (xs.take b).toArray}}):wpAny X.M A (getItem (.ref t) (.ref sl)) P E s:=by
 have ht:IsTup _ t _:=⟨_,ho,rfl,0,rfl⟩;have aaw:sizeOk (.seq (xs.take b).toArray):=by show(xs.take b).toArray.size<=sizeLine;rw[ez,qk];exact Cr (Nat.min_le_right ..) (Cr hz J4)
 obtain⟨os,hos,hcs,hds⟩:=id hs;have aax:s.TypeIs (.ref sl) _:=⟨os,hos,hcs⟩;refine GX ?_;refine Ao (fh ht.typeIs () ?_);refine Ao (fi ht.typeIs fy
  (Ot fy ht.typeIs F.entry_tuple_getitem ?_ (F.args_tuple_getitem_2 ..)))
 show wpAny _ _ (ų _>>=_) _ _ s;refine Ao (wpAny_tupleItemsOf ho rfl ?_);refine Ao (wpAny_typeOf aax ?_);refine Ao ?_;refine Ao (Ao (wpAny_field hos hds (x:=.none) rfl (Ao (wpAny_field hos hds (x:=.int b u) rfl (Ao (wpAny_field hos hds (x:=.none) rfl (Bg ?_)))))));show wpAny _ _ (match qh AB (H _) 1 _ with|(lo,hi)=>pure (lo,(1:Int),qi lo hi 1)) _ _ s;rw[aas];show wpAny _ _ (pure _) _ _ s;rw[aat];refine Bg ?_;show wpAny _ _ (if(0==0&&1==1&&(min b _)==xs.toArray.size)=U then _ else _) _ _ s;by_cases hw:(min b xs.toArray.size)=xs.toArray.size
 .rw [if_pos (by rw[hw];simp)]
  have e:xs.take b=xs:=g7 (Cr (BQ hw.symm) (Nat.min_le_left ..));refine Ao (Ao (wpAny_typeOf ht.typeIs (Bg ?_)));exact Ao (wpAny_rule (Ao (Bg (Bg ⟨_,rfl,Bg (h1 e)⟩))))
 .rw [if_neg (by simpa using hw)]
  have e:=aau xs b;rw[e];exact Ao (g8 (Ao (Bg (Bg ⟨_,rfl,Bg h⟩))) aaw)
inductive CutAt:T->V->T->Prop
 |lst (l:List V) (j:Nat):CutAt (.Al l) (.B j) (.Al (l.take j))|arg (l:List V) (j:Nat):CutAt (.DT l) (.B j) (.Al (l.take j))|tup (l:List V) (j:Nat):CutAt (.v (.A3 l)) (.B j) (.v (.A3 (l.take j)))
theorem g9{f:Nat->T}{y t:T}(e:(if 0<=k then H (f k.toNat) else AB)=H y)(q:∀j:Nat,CutAt t (.B j) (f j)):CutAt t (.B k) y:=by
 by_cases h:0<=k
 .obtain ⟨j,rfl⟩:=Ov h
  exact BR e▸q j
 .rw [if_neg h] at e;exact nn e
theorem aay(e:Xa t kv=H y):CutAt t kv y:=by
 cases t with
 |AQ=>exact nn e|Al l=>
  cases kv with
  |B k=>exact g9 (f:=λj=>.Al (l.take j)) e (.lst l)|_=>exact nn e
 |DT l=>
  cases kv with
  |B k=>exact g9 (f:=λj=>.Al (l.take j)) e (.arg l)|_=>exact nn e
 |v w=>
  cases w with
  |A3 l=>
   cases kv with
   |B k=>exact g9 (f:=λj=>.v (.A3 (l.take j))) e (.tup l)|_=>exact nn e
  |_=>exact nn e
theorem aaz
  (h:wpAny X.M A (eval v env) (Post X β s A1 R) AP s)
  (hk:∀t A9 H1 s1,Go X β s A9 H1 s1->R t H1->wpAny X.M A (eval u env) (Post X A9 s1 A1 λw h2=>opt w.Av λkv=>opt (Xa t kv) λy=>Q y h2) AP s1):
  wpAny X.M A (eval (.Subscript v (.Slice AB (H u) AB p) pos) env) (Post X β s fr Q) AP s:=by
 refine aaq (BY h λo s1 q=>?_);obtain⟨t,H1,A9,q,r,g,-⟩:=q;refine Hv (hk t A9 H1 s1 g q) λi s2 kv H2 Br B7 r2 g2=>?_;obtain⟨y,e2,B7⟩:=B7;have r:=r.B5 g.st g2.B5;have g3:=(g.Aw g2).Kd (QW i) s2.toks;have QX:=(Go.Kd (Go.BO g2.st) (QW i) s2.toks).B5;have gA:∀(a:BJ) (xs:List _) (l:List V) (j:Nat) (tk:Tok),i=.int j tk->F0 s2.heap a xs->C5 X.G.AM Br s2.heap l xs->I l<=BU->Q (.Al (l.take j)) H2->
   ∃T id,typeLookup (.type T) "__getitem__"=pure (H (.builtin id))/\s2.TypeIs (.ref a) T/\wpAny X.M A (getItem (.ref a) (.ref s2.heap.objs.size)) (Post X β s fr Q) AP {s2 with heap:=s2.heap.push (QW i)}:=λa xs l j tk ei pl rv hb B7=>by
  clear r2;subst ei;have SS:F0 (s2.heap.push (QW (.int j tk))) a xs:=pl.elim λn e=>⟨n,GW _ e⟩;refine⟨_,_,slot_list_getitem.lookup,pl.Ep.typeIs,wpAny_getItem_list_slice (s:={s2 with heap:=s2.heap.push _}) SS.Ep (aaA ..) .none (.int j tk) .none (by simp) ?_ (Cr (rv.Cy.symm▸hb:I xs<=BU) J4)⟩;rw[slicePick_upto' _ j];exact YX (tk:=s2.toks) g3 ((rv.B5 g2.st QX).nQ j) (Cr (List.length_take_le' ..) hb) B7
 cases aay e2 with
 |lst l j=>obtain⟨a,xs,rfl,pl,rv,hb,_⟩:=r;obtain⟨tk,ei⟩:=r2;exact gA a xs l j tk ei pl rv hb B7
 |arg l j=>obtain⟨a,xs,rfl,pl,rv,hb,_⟩:=r;obtain⟨tk,ei⟩:=r2;exact gA a xs l j tk ei pl rv hb B7
 |tup l j=>
  obtain⟨a,xs,rfl,ho,hb,rv⟩:=r;clear gA;obtain⟨tk,rfl⟩:=r2;have ho':(s2.heap.push (QW (.int j tk))).get? a=H _:=GW _ ho;have r3:=(rv.B5 g2.st QX).nQ j;exact⟨_,_,fy.lookup,(show IsTup _ a _ from⟨_,ho,rfl,0,rfl⟩).typeIs,aav ho' (aaA ..) hb (λe=>E6 B7 ⟨a,xs,rfl,ho',hb,e▸r3⟩ g3)
   (YW (tk:=s2.toks) g3 r3 (Cr (List.length_take_le' ..) (rv.Cy▸hb)) B7)⟩
end
theorem aaB:fillsNumberSlot (.type "tuple") "mul"=pure A1:=
 PySem.fillsNumberSlot_seq F.slot_tuple_mul.lookup rfl F.slot_tuple_rmul.lookup rfl
theorem aaC:seqRepeat? (.type "tuple")=pure (H (.builtin "tuple.__mul__")):=rfl
theorem aaD(a:Int)(t:Tok)(l:BJ)(items:Array AG)(n:Nat):
  Meets (Builtin.«int.__rmul__» ⟨[.int a t,.ref l],[]⟩) (λx R s=>s.heap.get? l=H {cls:=.type "tuple",dict:=AB,data:=.seq items n,slots:=#[]}/\R (.ok (.ret AG.notImplemented)) s):=
 .of_wp λprog w A R s h=>by obtain⟨hl,h⟩:=h;wp_walk;exact⟨_,rfl,h⟩
theorem aaE(l:BJ)(items:Array AG)(n:Nat)(u:Tok)(hne:items.isEmpty=A1):
  Meets (Builtin.«tuple.__mul__» ⟨[.ref l,.int 0 u],[]⟩) (λx R s=>s.heap.get? l=H {cls:=.type "tuple",dict:=AB,data:=.seq items n,slots:=#[]}/\R (.ok (.ret (MF s.heap.objs.size))) {s with heap:=s.heap.push {cls:=AG.type "tuple",data:=Data.seq #[]},toks:=s.toks}):=
 .of_wp λprog w A R s h=>by
  obtain⟨hl,h⟩:=h
  wp_walk
  exact⟨_,rfl,h⟩
theorem ql(x:AG):∀(n:Nat) (acc:Array AG),List.foldl (λx1 x2=>x1++x2) acc (E3 n #[x])=acc++(E3 n x).toArray
 |0,acc=>by simp|n+1,acc=>by rw[List.foldl_cons,ql x n];apply Array.ext';simp[List.replicate_succ]
section
variable{X:Cfg}{Q:T->Internal.A0->Prop}
theorem C5.rep(r:BN X.G.AM β h v x):∀n,C5 X.G.AM β h (E3 n v) (E3 n x)
 |0=>rfl|n+1=>⟨x,_,rfl,r,C5.rep r n⟩
theorem aaF{E:AG->BS->Prop}(hl:s.heap.get? l=H (FT [x] k))(h0:0<=n)(h1:n<1000)
  (h:P (.ref s.heap.objs.size) {s with heap:=s.heap.push {cls:=.type "list",data:=.seq (E3 n.toNat x).toArray}}):wpAny X.M A (binaryOp .Mult (.ref l) (.int n u)) P E s:=by
 have hl':=hl;refine wpAny_binaryOp_repeat_ref () ⟨_,hl,rfl⟩ (λs'=>typeIs_int s' n u) noFill_list_mul F.fills_int_mul gB repeat_list F.slot_int_index.lookup
  (call_meets gB (typeIs_int s n u) F.entry_int_rmul (F.args_int_rmul_2 ..) (int___rmul___int_list n u l _ k)
   ⟨hl',rfl,⟨_,hl,rfl⟩,call_meets F.slot_list_mul ⟨_,hl,rfl⟩ F.entry_list_mul (F.args_list_mul_2 ..)
    (AutoListH.list___mul___list_int_3 l _ k n u (by simp[Builtin.List.listFitsIndex];exact⟨Ax 1 AK A2 (.s AK (.k 9223372036854775808)) A2 A4 [n] h0,Ax 1 AI (.k 1000) AI (.k 9223372036854775808) A4 [n] h1⟩) (by simp;exact Ax 1 AI (.k 1000) A2 (.k 1152921504606846975) A4 [n] h1) (by simp[Builtin.List.listTooLong];exact Ax 1 AI (.k 1000) A2 (.k 16777216) A4 [n] h1))
    ⟨hl',?_⟩⟩)
 have e:=ql x n.toNat #[];simp only[Array.empty_append] at e;rw[e];exact h
theorem gC{a:Int}(h:-1000000000000<a/\a<1000000000000):a.natAbs<2^63:=by
 cases a with
 |ofNat n=>exact YY (Kf.mp h.2) ()|negSucc n=>exact YY (Kf.mp (Int.lt_of_neg_lt_neg (a:=(n+1:Nat)) (b:=1000000000000) h.1)) ()
set_option tactic.hygienic true in
theorem aaG(h:Dr a=U):aaH a<=64:=by
 have h:=of_decide_eq_true h;unfold aaH;split
 .exact Ei AK (.k 64) A4 []
 .have hn:a.natAbs≠0:=by rename_i q;simp at q;exact λz=>q (Int.natAbs_eq_zero.mp z)
  have:a.natAbs.log2<63:=(Nat.log2_lt hn).mpr (gC h);exact DC this rfl
theorem aaI(ha:0<=a)(hb:0<=b):qm a b=((a.toNat&&&b.toNat:Nat):Int):=by unfold qm;simp[ha,hb]
theorem gD(a:Int):-(-a-1)-1=a:=by rw[Int.neg_sub,Int.sub_neg,Int.add_comm];exact gE ..
theorem qn{a:Int}(h:0<=a):¬(0<=-a-1):=by omega
theorem aaJ(ha:0<=a)(hb:0<=b):Builtin.bitOr a b=((a.toNat|||b.toNat:Nat):Int):=by unfold Builtin.bitOr qm Builtin.bitNot;have h1:¬(0<=-a-1):=qn ha;have h2:¬(0<=-b-1):=qn hb;have e1:(-(-a-1)-1)=a:=gD a;have e2:(-(-b-1)-1)=b:=gD b;simp only[h1,h2,decide_false,e1,e2];exact gD _
theorem gF(e:KX X.G.AM v=H z)(r:BN X.G.AM β h v x):∃t,x=.str z t:=by
 cases v with
 |An n=>exact BR e▸r|Ed y=>exact BR (G3 e).2▸r|_=>exact nn e
inductive V1(tab:Nat->Str):T->T->T->Prop
 |int (a b:Int):V1 tab (.v (.B a)) (.v (.B b)) (.v (.B (a+b)))|lst (a b:List V) (h:I a+I b<BU):V1 tab (.Al a) (.Al b) (.Al (a++b))|txt (x y:V) (a b:Str) (hx:KX tab x=H a) (hy:KX tab y=H b) (h:a.length+b.length<BU):V1 tab (.v x) (.v y) (.v (.Ed (a++b)))
theorem qo(e:(match KX tab x,KX tab y with|some a,H b=>if a.length+b.length<BU then H (T.v (.Ed (a++b))) else AB|_,_=>AB)=H z):V1 tab (.v x) (.v y) z:=by
 cases hx:KX tab x with
 |none=>rw[hx] at e;exact nn e|some a=>
  cases hy:KX tab y with
  |none=>rw[hx,hy] at e;exact nn e|some b=>
   rw[hx,hy] at e;have e:=G3 e;exact BR e.2▸.txt x y a b hx hy e.1
theorem aaK(e:eW tab t u=H y):V1 tab t u y:=by
 cases t with
 |Al a=>
  cases u with
  |Al b=>have e:=G3 e;exact BR e.2▸.lst a b e.1|_=>exact nn e
 |v x=>
  cases u with
  |v z=>
   cases x with
   |B a=>
    cases z with
    |B b=>exact BR e▸.int a b|_=>exact qo e
   |_=>exact qo e
  |_=>cases x<;>exact nn e
 |_=>exact nn e
inductive Y_:T->T->T->Prop
 |int (a b:Int) (h:Dr a=U):Y_ (.v (.B a)) (.v (.B b)) (.v (.B (a*b)))|lst (x:V) (b:Int) (h:0<=b/\b<1000):Y_ (.Al [x]) (.v (.B b)) (.Al (E3 b.toNat x))|tup (x:V) (a:List V):Y_ (.v (.A3 (x::a))) (.v (.B 0)) (.v (.A3 []))
theorem aaL(e:eX t u=H y):Y_ t u y:=by
 cases t with
 |Al a=>
  cases a with
  |nil=>exact nn e|cons x a=>
   cases a with
   |cons _ _=>exact nn e|nil=>
    cases u with
    |v z=>
     cases z with
     |B b=>have e:=G3 e;exact BR e.2▸.lst x b e.1|_=>exact nn e
    |_=>exact nn e
 |v w=>
  cases w with
  |B a=>
   cases u with
   |v z=>
    cases z with
    |B b=>have e:=G3 e;exact BR e.2▸.int a b e.1|_=>exact nn e
   |_=>exact nn e
  |A3 l=>
   cases l with
   |nil=>exact nn e|cons x l=>
    cases u with
    |v z=>
     cases z with
     |B b=>have e:=G3 e;cases e.1;exact BR e.2▸.tup x l
     |_=>exact nn e
    |_=>exact nn e
  |_=>exact nn e
 |_=>exact nn e
section
variable(rk:DH X Br s2.heap t kx)(r2:DH X Br s2.heap u dx)(DQ:Go X β s Br H2 s2)(B7:Q y H2)
include rk r2
theorem V2(e:QA f t u=H y)(k:∀a b t1 t2,f a b=H y->wpAny X.M A (binaryOp o (.int a t1) (.int b t2)) P AP s2):wpAny X.M A (binaryOp o kx dx) P AP s2:=
 ť (P:=λt u=>DH X Br _ t kx->DH X Br _ u dx->wpAny X.M A _ P AP s2) e (λa b h r1 r2=>by clear rk;obtain⟨t1,rfl⟩:=r1;obtain⟨t2,rfl⟩:=r2;exact k a b t1 t2 h) rk r2
include DQ B7
theorem aaM(e:eW X.G.AM t u=H y):wpAny X.M A (binaryOp .Add kx dx) (Post X β s fr Q) AP s2:=by
 cases aaK e with
 |int a b=>obtain⟨t1,rfl⟩:=rk;obtain⟨t2,rfl⟩:=r2;exact add_int (E6 B7 ⟨_,rfl⟩ (DQ.G2 _))
 |lst a b hb=>
  obtain⟨p,xs,rfl,⟨n1,o1⟩,v1,_⟩:=rk;obtain⟨p',ys,rfl,⟨n2,o2⟩,v2,_⟩:=r2;refine PySem.P.add_list o1 o2 ?_ (Cr (MS (v1.Cy.symm▸v2.Cy.symm▸hb:I xs+I ys<BU)) J4);rw[List.append_toArray xs ys];exact YX DQ (v1.Xg v2) (El.symm▸MS hb) B7
 |txt x y z1 z2 hz1 hz2 hb=>
  obtain⟨t1,rfl⟩:=gF hz1 rk;obtain⟨t2,rfl⟩:=gF hz2 r2;exact PyProof.Rows.add_str (hsz:=Cr (MS hb) J4) λt' tk=>E6 B7 ⟨_,rfl⟩ (DQ.G2 _)
theorem aaN(e:eX t u=H y):wpAny X.M A (binaryOp .Mult kx dx) (Post X β s fr Q) AP s2:=by
 cases aaL e with
 |int a b hs=>obtain⟨t1,rfl⟩:=rk;obtain⟨t2,rfl⟩:=r2;exact mul_int (E6 B7 ⟨_,rfl⟩ (DQ.G2 _)) (IntMulOk.of_left (aaG hs))
 |lst x b hb=>
  obtain⟨p,xs,rfl,⟨n1,o1⟩,v1,_⟩:=rk;obtain⟨t2,rfl⟩:=r2;obtain⟨x,xs',rfl,rx,e0⟩:=v1;cases e0;exact aaF o1 hb.1 hb.2 (YX DQ (C5.rep rx _) (List.length_replicate.symm▸MS (Hq ((Int.toNat_lt hb.1).mpr hb.2) ())) B7)
 |tup x a=>
  obtain⟨p,xs,rfl,ho,_,v1⟩:=rk;obtain⟨t2,rfl⟩:=r2;clear b;obtain⟨x,xs',rfl,rx,e0⟩:=v1;have ho':=ho;exact wpAny_binaryOp_repeat_ref () ⟨_,ho,rfl⟩ (λs'=>typeIs_int s' ..) aaB F.fills_int_mul gB aaC F.slot_int_index.lookup
   (call_meets gB (typeIs_int s2 ..) F.entry_int_rmul (F.args_int_rmul_2 ..) (aaD 0 t2 p _ 0)
    ⟨ho',rfl,⟨_,ho,rfl⟩,call_meets F.slot_tuple_mul ⟨_,ho,rfl⟩ F.entry_tuple_mul (F.args_tuple_mul_2 ..) (aaE p _ 0 t2 rfl) ⟨ho',YW (l:=[]) DQ rfl (D3 _) B7⟩⟩)
theorem aaO(e:Jz X.G.AM op t u=H y):wpAny X.M A (binaryOp (fL op) kx dx) (Post X β s fr Q) AP s2:=by
 have io:∀{i:Int} {tk:Nat},H (T.v (.B i))=H y->Post X β s fr Q (.int i tk) {s2 with toks:=s2.toks+1}:=λ{i tk} ey=>by clear e;cases ey;exact E6 B7 ⟨_,rfl⟩ (DQ.G2 _)
 cases op with
 |Cu=>exact aaM rk r2 DQ B7 e|UJ=>exact aaN rk r2 DQ B7 e|AE=>exact V2 rk r2 e λa b t1 t2 h=>sub_int (io h)|XX=>exact V2 rk r2 e λa b t1 t2 h=>mod_int' (Int.ne_of_gt (G3 h).1) (by rw[Int.fmod_eq_emod_of_nonneg _ (Yb (G3 h).1)];exact io (G3 h).2)|eV=>exact V2 rk r2 e λa b t1 t2 h=>floordiv_int (Int.ne_of_gt (G3 h).1.1) (by rw[Int.fdiv_eq_ediv_of_nonneg _ (Yb (G3 h).1.1)];exact io (G3 h).2) (Or.inl (PyProof.noPylong_small (YY (Kf.mp (by rw[Int.natAbs_of_nonneg (Yb (G3 h).1.1)];exact(G3 h).1.2)) (by decide:1000<1073741824))))|UK=>exact V2 rk r2 e λa b t1 t2 h=>and_int (by rw[aaI (G3 h).1.1 (G3 h).1.2.1];exact io (G3 h).2)|Ru=>exact V2 rk r2 e λa b t1 t2 h=>or_int (by rw[aaJ (G3 h).1.1 (G3 h).1.2.1];exact io (G3 h).2)
end
theorem aaP(BI:Ek A n)
  (h:wpAny X.M A (eval l env) (Post X β s A1 R) AP s)
  (hk:∀t A9 H1 s1,Go X β s A9 H1 s1->R t H1->wpAny X.M A (eval r env) (Post X A9 s1 A1 λu h2=>opt (Jz X.G.AM op t u) λy=>Q y h2) AP s1):
  wpAny X.M A (eval (.BinOp l (fL op) r pos) env) (Post X β s fr Q) AP s:=by
 refine wpAny_BinOp (BY h λkx s1 q=>?_);obtain⟨t,H1,A9,q,rr,g,-⟩:=q;refine BY (hk t A9 H1 s1 g q) λdx s2 B7=>?_;obtain⟨u,H2,Br,⟨y,e2,B7⟩,r2,g2,-⟩:=B7;exact aaO (rr.B5 g.st g2.B5) r2 (g.Aw g2) B7 e2
end
def Ow(x:AY):Bool:=!(Ct x.ctorIdx 0||Ct x.ctorIdx 5||Ct x.ctorIdx 15||Y0 x λo y y=>Ct o.ctorIdx 1)
theorem aaQ(h:Ow x=U):isTrue x env w=(do let v <-w;standAt x.pos;holding [v] (truthy v)):=by
 cases x with
 |UnaryOp op _ _=>
  cases op with
  |Not=>exact Bp h|_=>rfl
 |BoolOp _ _ _=>exact Bp h|IfExp _ _ _ _=>exact Bp h|Compare _ _ _ _=>exact Bp h|_=>rfl
section
variable{X:Cfg}{A0:A0}
inductive SV(h:Internal.A0):T->Bool->Prop
 |A6 (s i:Nat) (l:List V) (o:(h s)[i]?=H (.A6 l)):SV h (.v (.O s i)) (!l.isEmpty)|Au (b:Bool):SV h (.v (.Au b)) b|int (i:Int):SV h (.v (.B i)) (decide (i≠0))|AV:SV h (.v .AV) A1|lst (l:List V):SV h (.Al l) (!l.isEmpty)
theorem aaR(e:Hj h t=H b):SV h t b:=by
 cases t with
 |Al l=>exact BR e▸.lst l|v w=>
  cases w with
  |O s i=>
   obtain⟨l,ho,rfl⟩:=SP.mp e;exact .A6 s i l (qP ho)
  |Au b=>exact BR e▸.Au b|B i=>exact BR e▸.int i|AV=>exact BR e▸.AV|_=>exact nn e
 |_=>exact nn e
theorem C5.aaS(r:C5 X.G.AM β h l xs):xs.isEmpty=l.isEmpty:=by
 have e:=r.Cy;cases xs with
 |nil=>
  cases l with
  |nil=>rfl|cons _ _=>exact nomatch e
 |cons _ _=>
  cases l with
  |nil=>exact nomatch e
  |cons _ _=>rfl
theorem qp(S:Bh X β A0 s.heap)(r:DH X β s.heap t v)(e:Hj A0 t=H b)(q:∀tk,P b {s with toks:=tk}):wpAny X.M A (truthy v) P AP s:=by
 have lst:∀(a:BJ) (xs:List _) (l:List V),b=!l.isEmpty->F0 _ a xs->C5 X.G.AM β s.heap l xs->I l<=BU->wpAny X.M A _ P AP s:=λa xs l eb pl rv hb=>
  wpAny_truthy_list pl.Ep (SR (rv.Cy.symm▸hb:I xs<=BU)) ((show(!xs.toArray.isEmpty)=b by rw[List.isEmpty_toArray,rv.aaS,eb])▸q _)
 cases aaR e with
 |A6 si i l ho=>
  obtain⟨p,hp,rfl⟩:=r;obtain⟨l1,l2,xs,pl,rv⟩:=S.at hp ho;exact l1▸lst _ xs l rfl pl rv l2
 |Au b=>cases(show v=.bool b from r);exact fk (q _)
 |int i=>
  obtain⟨tk,rfl⟩:=r;refine PyProof.Rows.truthy_int ?_;rw[show(i !=0)=decide (i≠0) by by_cases h:i=0<;>simp[h]];exact q _
 |AV=>cases(show v=.none from r);exact truthy_none (q _)
 |lst l=>obtain⟨a,xs,rfl,pl,rv,hb,_⟩:=r;exact lst a xs l rfl pl rv hb
theorem qq(q:Post X β s A1 (Cp U Q) v s1):wpAny X.M A (truthy v) (FW X β s Q) AP s1:=by obtain⟨t,H1,A9,⟨b,e,q⟩,r,g,-⟩:=q;exact qp g.st r e λtk=>⟨H1,A9,q,g.G2 tk⟩
theorem qt(hx:Ow x=U)(h:wpAny X.M A (eval x env) (Post X β s A1 (Cp U Q)) AP s):wpAny X.M A (isTrue x env (eval x env)) (FW X β s Q) AP s:=by rw[aaQ hx];exact Ao (BY h λv s1 q=>Ao (JY (GX (qq q))))
theorem aaT(nm:behindInMarks op r=A1)(h:wpAny X.M A (eval (.Compare l [op] [r] pos) env) (Post X β s A1 (Cp U Q)) AP s):
  wpAny X.M A (isTrue (.Compare l [op] [r] pos) env w) (FW X β s Q) AP s:=by
 have e:isTrue (.Compare l [op] [r] pos) env w=(eval (.Compare l [op] [r] pos) env>>=λc=>holding [c] (truthy c)):=by rw[isTrue_Compare1,eval_Compare1];simp only[bind_assoc]
 rw[e];exact Ao (BY h λv s1 q=>GX (qq q))
theorem aaU{pos:Pos}{w:Sem AG}(h:wpAny X.M A (isTrue x env (eval x env)) (FW X β s λt h1=>match t with|.v (.Au b)=>Q (.v (.Au (!b))) h1|_=>False) AP s):
  wpAny X.M A (isTrue (.UnaryOp .Not x pos) env w) (FW X β s Q) AP s:=by
 refine Ao (BY h λb s1 q=>?_);obtain⟨H1,A9,q,g⟩:=q;exact Bg ⟨H1,A9,q,g⟩
theorem aaV
  (h:wpAny X.M A (isTrue t env (eval t env)) (FW X β s R) AP s)
  (ha:∀A9 H1 s1,Go X β s A9 H1 s1->R (.v (.Au U)) H1->wpAny X.M A (eval a env) (Post X A9 s1 fr Q) AP s1)
  (hb:∀A9 H1 s1,Go X β s A9 H1 s1->R (.v (.Au A1)) H1->wpAny X.M A (eval b env) (Post X A9 s1 fr Q) AP s1):
  wpAny X.M A (eval (.IfExp t a b pos) env) (Post X β s fr Q) AP s:=by
 have fin:∀{A9 H1 s1},Go X β s A9 H1 s1->∀x s2,Post X A9 s1 fr Q x s2->Post X β s fr Q x s2:=λ{A9 H1 s1} g x s2 q=>by obtain⟨t,H2,Br,q,r,g2,f⟩:=q;refine⟨t,H2,Br,q,r,g.Aw g2,λe l el=>?_⟩;obtain⟨a,ea,en⟩:=f e l el;exact⟨a,ea,g.QV en⟩
 refine Ao (BY h λk s1 q=>?_);obtain⟨H1,A9,q,g⟩:=q;cases k with
 |true=>exact BY (ha A9 H1 s1 g q) (fin g)|false=>exact BY (hb A9 H1 s1 g q) (fin g)
theorem aaW
  (h:wpAny X.M A (isTrue t env (eval t env)) (FW X β s R) AP s)
  (ha:∀A9 H1 s1,Go X β s A9 H1 s1->R (.v (.Au U)) H1->wpAny X.M A (isTrue a env (eval a env)) (FW X A9 s1 Q) AP s1)
  (hb:∀A9 H1 s1,Go X β s A9 H1 s1->R (.v (.Au A1)) H1->wpAny X.M A (isTrue b env (eval b env)) (FW X A9 s1 Q) AP s1):
  wpAny X.M A (isTrue (.IfExp t a b pos) env w) (FW X β s Q) AP s:=by
 have fin:∀{A9 H1 s1},Go X β s A9 H1 s1->∀x s2,FW X A9 s1 Q x s2->FW X β s Q x s2:=λ{A9 H1 s1} g x s2 q=>by obtain⟨H2,Br,q,g2⟩:=q;exact⟨H2,Br,q,g.Aw g2⟩
 refine Ao (BY h λk s1 q=>?_);obtain⟨H1,A9,q,g⟩:=q;cases k with
 |true=>exact BY (ha A9 H1 s1 g q) (fin g)|false=>exact BY (hb A9 H1 s1 g q) (fin g)
def QY(al:Bool):BoolOp:=if al then .And else .Or
theorem aaX
  (h:wpAny X.M A x (Post X β s A1 R) AP s)
  (k:∀t H1 A9 s1,Go X β s A9 H1 s1->R t H1->∃b,Hj H1 t=H b/\(b=al->∀s2,Go X β s A9 H1 s2->wpAny X.M A (boolOp pos (QY al) (y::r)) (Post X A9 s2 A1 Q) AP s2)/\(b≠al->Q t H1)):
  wpAny X.M A (boolOp pos (QY al) (x::y::r)) (Post X β s A1 Q) AP s:=by
 refine Ao (BY h λv s1 q=>Ao (JY (Ao (GX ?_))));obtain⟨t,H1,A9,q,rr,g,-⟩:=q;obtain⟨b,e,k1,k2⟩:=k t H1 A9 s1 g q;refine qp g.st rr e λtk=>?_;have g':=g.G2 tk;have fin:b≠al->wpAny X.M A _ (Post X β s _ Q) AP {s1 with toks:=tk}:=λhb=>Bg ⟨t,H1,A9,k2 hb,rr,g',λe=>by cases e⟩;have go:b=al->wpAny X.M A _ (Post X β s _ Q) AP _:=λhb=>BY (k1 hb _ g') λz s3 q=>by obtain⟨t,H2,Br,q,r,g2,f⟩:=q;exact⟨t,H2,Br,q,r,g'.Aw g2,λe=>by cases e⟩
 cases al<;>cases b<;>first|exact go rfl|exact fin ()
theorem qu(h:wpAny X.M A (isTrue x env (eval x env)) (FW X β s R) AP s)
  (k:∀b H1 A9 s1,Go X β s A9 H1 s1->R (.v (.Au b)) H1->(b=al->wpAny X.M A (allTrue (QY al) r env) (FW X A9 s1 Q) AP s1)/\(b≠al->Q (.v (.Au b)) H1)):
  wpAny X.M A (allTrue (QY al) (x::r) env) (FW X β s Q) AP s:=by
 refine Ao (BY h λb s1 q=>?_);obtain⟨H1,A9,q,g⟩:=q;obtain⟨k1,k2⟩:=k b H1 A9 s1 g q;have fin:b≠al->wpAny X.M A _ (FW X β s Q) AP s1:=λhb=>Bg ⟨H1,A9,k2 hb,g⟩;have go:b=al->wpAny X.M A _ (FW X β s Q) AP s1:=λhb=>BY (k1 hb) λz s3 q=>by obtain⟨H2,Br,q,g2⟩:=q;exact⟨H2,Br,q,g.Aw g2⟩
 cases al<;>cases b<;>first|exact go rfl|exact fin ()
theorem aaY(S:Bh X β A0 s.heap)(q:Q (.v (.Au al)) A0):wpAny X.M A (allTrue (QY al) [] env) (FW X β s Q) AP s:=by cases al<;>exact Bg ⟨A0,β,q,.BO S⟩
end
theorem qv(h:Dr a=U):a.natAbs.log2<1920:=by
 have h:=of_decide_eq_true h;by_cases h0:a.natAbs=0
 .rw [h0];decide
 .have:a.natAbs.log2<63:=(Nat.log2_lt h0).mpr (gC h)
  exact DC this rfl
section
variable{A0:A0}{fr:Bool}{R:T->Internal.A0->Prop}
theorem aa0{pos:Pos}(hb:bi c "str" g=U)(ns:FY a=A1)(K:CL c env)(S:Bh X β A0 s.heap)
  (h:wpAny X.M A (eval a env) (Post X β s A1 λt h1=>match t with|.v (.B i)=>Dr i=U/\Q (.v (.Ed (NL i))) h1|_=>False) AP s):wpAny X.M A (eval (.Call g [a] [] pos) env) (Post X β s fr Q) AP s:=by
 refine YO hb rfl ns K S h λx s1 q=>?_;obtain⟨t,H1,A9,q,r,g',-⟩:=q;cases t with
 |AQ=>exact q.elim|Al l=>exact q.elim|DT l=>exact q.elim|v w=>
  cases w<;>simp only at q;obtain⟨tk,rfl⟩:=r;exact PySem.P.str_of_int (qv q.1) (E6 q.2 ⟨_,rfl⟩ (g'.G2 _))
theorem aa1(h:Dr i=U):(NL i).length<=70:=by
 have h:=of_decide_eq_true h;rw[PySem.ofString_length]
 have:i.natAbs.log2<64:=by
  by_cases h0:i.natAbs=0
  .rw [h0];decide
  .exact (Nat.log2_lt h0).mpr (YY (gC h) ())
 have:=int_text_length_le () this;exact BG 1 A2 (.a (.k 64) AF) A2 (.k 70) A4 [(toString i).length] this
theorem aa2{ka kb:Nat}{y z:Str}{p1 p2 p3 p4 pos:Pos}{n:Nat}(hy:y.length<1000)(hz:z.length<1000)
  (h:wpAny X.M A (eval a env) (Post X β s A1 λt h1=>opt t.Av λu=>opt (KX X.G.AM u) λut=>ut.length<1000/\R (.v (.Ed ut)) h1) AP s)
  (hk:∀ut H1 A9 s1,Go X β s A9 H1 s1->R (.v (.Ed ut)) H1->wpAny X.M A (eval b env) (Post X A9 s1 A1 λt2 h2=>match t2 with
   |.v (.B i)=>Dr i=U/\Q (.v (.Ed (ut++y++NL i++z))) h2|_=>False) AP s1):
  wpAny X.M A (eval (.JoinedStr [.FormattedValue a (-1) AB p1,.Constant (.str y) ka p2,.FormattedValue b (-1) AB p3,.Constant (.str z) kb p4] pos) env) (Post X β s fr Q) AP s:=by
 have line:(4000:Nat)<=sizeLine:=by decide
 have e0:∀w:Str,Str.empty++w=w:=λw=>by show(⟨#[]++w.cps⟩:Str)=w;simp
 refine JoinedStr_many (gG (FormattedValue_plain (BY h λkx s1 q=>?_)));obtain⟨t,H1,A9,⟨u,e1,ut,e2,hl,q⟩,r,g,-⟩:=q;obtain rfl:=T.Ic e1;obtain⟨tk,rfl⟩:=gF e2 r;refine formatField_str (hsz:=(By 1 AI (.k 1000) 1 (.k 4000) A7 A2 A7 A4 [ut.length,sizeLine] hl line)) λt' tk'=>⟨by rw[e0];exact By 1 AI (.k 1000) 1 (.k 4000) A7 A2 A7 A4 [ut.length,sizeLine] hl line,?_⟩;rw[e0];refine gG (Constant_str ⟨by rw[Ox];exact QJ 1 AI (.k 1000) 1 BB (.k 1000) 1 (.k 4000) Aa (.a A2 A7) Aa A4 [ut.length,y.length,sizeLine] hl hy line,?_⟩);refine gG (FormattedValue_plain (BY (hk ut H1 A9 _ (g.G2 _) q) λkx s2 B7=>?_));obtain⟨t2,H2,Br,B7,r2,g2,-⟩:=B7;cases t2 with
 |AQ=>exact B7.elim|Al l=>exact B7.elim|DT l=>exact B7.elim|v w=>
  cases w<;>simp only at B7;obtain⟨tk,rfl⟩:=r2;have hi:=aa1 B7.1;unfold NL at hi;have hj:=Cr (nX 1 AI (.k 1000) 1 BB (.k 1000) 1 Aa (.k 70) 1 Ob (.k 1000) (.a (.a (.a A2 A7) Aa) Er) (.k 4000) A4 [ut.length,y.length,(O_ _).length,z.length] hl hy hi hz) line;refine formatField_int_small (qv B7.1) ⟨by rw[Ox,Ox];exact nX 1 AI (.k 1000) 1 BB (.k 1000) 1 Aa (.k 70) 1 (.k 4000) Er (.a (.a A2 A7) Aa) Er A4 [ut.length,y.length,(O_ _).length,sizeLine] hl hy hi line,?_⟩;refine gG (Constant_str ⟨by rw[Ox,Ox,Ox];exact hj,?_⟩);refine joinParts_nil ?_ (by rw[Ox,Ox,Ox];exact hj);exact E6 B7.2 ⟨_,rfl⟩ (((g.G2 _).Aw g2).G2 _)
end
section
variable{X:Cfg}
theorem qw [DecidableEq κ]{knd:KeyKind X.Gn X.w κ}{kvs:List (κ×AG)}(hd:h.DictOf knd d kvs)(hs:Hr d h h'):EX h h':=by obtain⟨_,_,_,ho,_,hdt,_⟩:=hd;exact Xl ho hdt hs
theorem qx{h:Ca} [DecidableEq κ]{knd:KeyKind X.Gn X.w κ}{kvs:List (κ×AG)}(hd:h.DictOf knd d kvs):(kvs.map (·.1)).Nodup:=by obtain⟨_,_,_,_,_,_,_,_,hn⟩:=hd;exact hn
theorem gH{E:AG->BS->Prop}(BI:A.units+200<cLine)(e:Ef X.G.AM o k x=H o')(r:ER X β s.heap (d,d) o)(rk:BN X.G.AM β s.heap k kx)(rx:BN X.G.AM β s.heap x Q_)
  (q:∀h' tk,Hr d s.heap h'->ER X β h' (d,d) o'->P Qa {s with heap:=h',toks:=tk}):s.TypeIs (.ref d) "dict"/\wpAny X.M A (dictSet d kx Q_) P E s:=by
 have fits:∀{n:Nat},n<BU->n<=sizeLine:=λh=>Cr (MS h) J4;cases qF e with
 |i l i hl=>
  obtain⟨_,l2,kvs,hd,pr⟩:=r;obtain⟨t,rfl⟩:=rk;have hn:=qx hd;exact⟨hd.typeIs,wpAny_dictSet_pairs (YI ..) hd (λh' hd' hs=>q h' _ hs ⟨rfl,Cr (ff (λy y=>rfl) (λy y y y y=>rfl) i x l) hl,_,hd',(qA (λy y=>rfl) (λy y y y y=>rfl) (rfl) qC rx pr hn).Bo (qw hd hs) (Af.le.BO _)⟩) (pr.Cy▸fits hl)⟩
 |s l i hl=>
  obtain⟨_,l2,kvs,hd,pr⟩:=r;obtain⟨t,rfl⟩:=rk;have hn:=qx hd;exact⟨hd.typeIs,wpAny_dictSet_pairs (strKind_is ..) hd (λh' hd' hs=>q h' _ hs ⟨rfl,Cr (ff (λy y=>rfl) (λy y y y y=>rfl) i x l) hl,_,hd',(qA (g:=CX) (λy y=>rfl) (λy y y y y=>rfl) (rfl:f9 X i _) qB rx pr hn).Bo (qw hd hs) (Af.le.BO _)⟩) (pr.Cy▸fits hl)⟩
 |t l i ks DX hl=>
  obtain⟨_,l2,xs,hd,pr⟩:=r;obtain⟨a,rfl,ik⟩:=qE rk DX;have hlen:=(Ce _).symm.trans pr.Cy;refine⟨hd.typeIs,wpAny_dictSet_heap (GH (Oq () _) BI) ik hd (λh' hd' hs=>q h' _ hs ⟨rfl,Cr (ff (λy y=>rfl) (λy y y y y=>rfl) ks x l) hl,_,hd',?_⟩) (hlen▸fits hl)⟩;obtain⟨ob,es,ep,ho,hc,hdt,he,hi,hn⟩:=hd;exact(ϟ rx pr hn).o9 (Xl ho hdt hs) (Af.le.BO _) λy y e=>e
end
def gI:List (AG×AG)->List AG
 |[]=>[]|(k,v)::r=>k::v::gI r
def Kg(env:GS)(pos:Pos):List (Option AY)->List AY->List (Sem AG×Sem AG)
 |some x::r,y::t=>(eval x env,do let v <-eval y env;standAt pos;pure v)::Kg env pos r t|_,_=>[]
section
variable{A0:A0}
inductive V3(X:Cfg)(β:Af)(s:BS)(Q:List V->Internal.A0->Prop)(ps:List (AG×AG))(s':BS):Prop
 |mk (v:List V) (H':Internal.A0) (β':Af) (q:Q v H') (r:C5 X.G.AM β' s'.heap v (gI ps)) (g:Go X β s β' H' s')
theorem aa3{Q:List V->Internal.A0->Prop}(S:Bh X β A0 s.heap)(q:Q [] A0):wpAny X.M A (evalPairs []) (V3 X β s Q) AP s:=evalPairs_nil ⟨[],A0,β,q,rfl,.BO S⟩
theorem aa4{Q:List V->Internal.A0->Prop}{J7:V->Internal.A0->Prop}{EH:V->V->Internal.A0->Prop}
  (h:wpAny X.M A (eval x env) (Post X β s A1 λt h1=>opt t.Av λv=>J7 v h1) AP s)
  (h2:∀k H1 A9 s1,Go X β s A9 H1 s1->J7 k H1->wpAny X.M A (eval y env) (Post X A9 s1 A1 λt h2=>opt t.Av λv=>EH k v h2) AP s1)
  (hr:∀k v H2 Br s2,Go X β s Br H2 s2->EH k v H2->wpAny X.M A (evalPairs rest) (V3 X Br s2 λvs h3=>Q (k::v::vs) h3) AP s2):
  wpAny X.M A (evalPairs ((eval x env,do let v <-eval y env;standAt pos;pure v)::rest)) (V3 X β s Q) AP s:=by
 refine evalPairs_cons (Hv h λkx s1 k H1 A9 q r g=>Ao (Hv (h2 k H1 A9 s1 g q) λvx s2 v H2 Br B7 r2 g2=>Ao (JY (Bg (BY (hr k v H2 Br s2 (g.Aw g2) B7) λps s3 F1=>?_)))));obtain⟨vs,H3,Ke,F1,r3,g3⟩:=F1;exact⟨_,H3,Ke,F1,⟨kx,_,rfl,BN.B5 g2.st g3.B5 (BN.B5 g.st g2.B5 r),vx,_,rfl,BN.B5 g2.st g3.B5 r2,r3⟩,(g.Aw g2).Aw g3⟩
theorem Go.qy(g:Go X β s A9 H1 s1)(hd:s1.heap.get? d=H ob)(he:ob.data=.dict es ep)(hm:¬A9.mut d)(h0:s.heap.get? d=AB)(hh:X.h₀.get? d=AB)(hs:Hr d s1.heap h')(tk:Nat):
  Go X β s A9 H1 {s1 with heap:=h',toks:=tk}:=by
 refine⟨g.st.Δ hd hm (λxs e=>by clear hd;subst e;cases he) hs hh (λC dd e=>by clear hd;subst e;cases he),⟨g.B5.le,λb o e n=>?_,g.B5.IC⟩,by have a:=g.Hu;rw[a]⟩;refine(hs.2 b λq=>?_).trans (g.B5.AX b o e n);clear hs hh hm hd;subst q;rw[h0] at e;cases e
theorem ER.gJ(e:h.get? d=H emptyDict):ER X β h (d,d) (Gk k):=by
 cases k with
 |id=>exact⟨rfl,D3 _,[],⟨_,#[],0,e,⟨rfl,rfl,rfl⟩,rfl,λx he=>by simp at he,Pairs.nil,V4⟩,rfl⟩|OR=>exact⟨rfl,D3 _,[],⟨_,#[],0,e,⟨rfl,rfl,rfl⟩,rfl,λx he=>by simp at he,Pairs.nil,V4⟩,rfl⟩|td=>exact⟨rfl,D3 _,[],⟨_,#[],0,e,⟨rfl,rfl,rfl⟩,rfl,rfl,λx hx=>by simp at hx,V4⟩,rfl⟩
inductive Yc(h:Ca)(d:BJ):Prop
 |mk (ob:Obj) (es:Array Fz) (ep:Nat) (g:h.get? d=H ob) (e:ob.data=.dict es ep)
theorem ER.qz(e:UP o=U)(r:ER X β h (d,d) o):Yc h d:=by
 cases o with
 |Ad l=>obtain⟨_,_,kvs,⟨ob,es,ep,h1,_,h2,_⟩,_⟩:=r;exact⟨ob,es,ep,h1,h2⟩
 |BC l=>obtain⟨_,_,kvs,⟨ob,es,ep,h1,_,h2,_⟩,_⟩:=r;exact⟨ob,es,ep,h1,h2⟩
 |Ff l=>obtain⟨_,_,kvs,⟨ob,es,ep,h1,_,h2,_⟩,_⟩:=r;exact⟨ob,es,ep,h1,h2⟩
 |_=>exact Bp e
theorem r4(e:Ef tab o k x=H o'):UP o=U/\UP o'=U:=by cases qF e<;>exact⟨rfl,rfl⟩
theorem aa5(e:Oa tab o (k::x::vs)=H o'):∃o1,Ef tab o k x=H o1/\Oa tab o1 vs=H o':=by
 have e:(match Ef tab o k x with|some o1=>Oa tab o1 vs|none=>AB)=H o':=e;cases q:Ef tab o k x with
 |none=>rw[q] at e;exact nn e|some o1=>rw[q] at e;exact⟨o1,rfl,e⟩
abbrev aa6(d:BJ)(ps:List (AG×AG)):Sem PUnit:=forIn ps LP λ(x:AG×AG) (y:PUnit)=>(do dictSet d x.1 x.2;pure (S7 LP):Sem (ForInStep PUnit))
theorem aa7{E:AG->BS->Prop}(BI:A.units+200<cLine)(ps:List (AG×AG))(vs:List V)(o o':A_)(s:BS)(P:PUnit->BS->Prop)(e:Oa X.G.AM o vs=H o')(r:C5 X.G.AM β s.heap vs (gI ps))(ro:ER X β s.heap (d,d) o)
  (q:∀h' tk,Hr d s.heap h'->ER X β h' (d,d) o'->P LP {s with heap:=h',toks:=tk}):wpAny X.M A (aa6 d ps) P E s:=by
 induction ps generalizing vs o s with
 |nil=>
  cases vs with
  |nil=>cases BR e;exact Bg (q _ _ (Hr.refl ..) ro)
  |cons v vs=>obtain⟨_,_,h,_⟩:=r;exact nomatch h
 |cons p ps ih=>
  cases vs with
  |nil=>exact nomatch(show _=_ from r)
  |cons kv vs=>
   obtain⟨_,_,h,rk,r⟩:=r;cases h;cases vs with
   |nil=>exact nomatch(show _=_ from r)
   |cons xv vs=>
    obtain⟨_,_,h2,rx,r⟩:=r;cases h2;obtain⟨o1,V5,e⟩:=aa5 e;obtain⟨ob,es,ep,hg,V6⟩:=ro.qz (r4 V5).1;obtain⟨_,w⟩:=gH (E:=E) (P:=λx s'=>wpAny X.M A _ P E s') BI V5 ro rk rx λh' tk hs V7=>ih vs o1 _ e (r.Bo (Xl hg V6 hs) (Af.le.BO _)) V7 λh'' tk' hs' aa8=>q h'' tk' (hs.trans hs') aa8;show wpAny _ _ (forIn _ ..) ..;rw[S8];exact Ao (Ao (HH w (λx s' z=>Bg z) λx x e=>e))
def Yd(d:BJ)(x:Sem AG×Sem AG)(_:PUnit):Sem (ForInStep PUnit):=do
 let kv <-x.1
 let gK <-holding [kv] x.2
 holding [kv,gK] (dictSet d kv gK)
 pure (S7 LP)
theorem aa9{J7:V->Internal.A0->Prop}{EH:A_->Internal.A0->Prop}(BI:A.units+200<cLine)
  (g0:Go X J8 s0 β A0 s)(hd0:s0.heap.get? d=AB)(hh:X.h₀.get? d=AB)(hm:¬β.mut d)(ro:ER X β s.heap (d,d) o)(hdict:Yc s.heap d)
  (h:wpAny X.M A (eval x env) (Post X β s A1 λt h1=>opt t.Av λv=>J7 v h1) AP s)
  (h2:∀k H1 A9 s1,Go X β s A9 H1 s1->J7 k H1->wpAny X.M A (eval y env) (Post X A9 s1 A1 λt h2=>opt t.Av λv=>opt (Ef X.G.AM o k v) λo'=>EH o' h2) AP s1)
  (hr:∀o' H2 Br s2,Go X J8 s0 Br H2 s2->¬Br.mut d->ER X Br s2.heap (d,d) o'->Yc s2.heap d->EH o' H2->wpAny X.M A (forIn rest LP (Yd d)) P AP s2):
  wpAny X.M A (forIn ((eval x env,do let v <-eval y env;standAt pos;pure v)::rest) LP (Yd d)) P AP s:=by
 obtain⟨ob,es,ep,hg,V6⟩:=hdict;rw[S8];refine Ao (Ao (Hv h λkx s1 k H1 A9 q r g=>Ao (GX (Ao (Hv (h2 k H1 A9 s1 g q) λvx s2 v H2 Br B7 r2 g2=>Ao (JY (Bg ?_)))))));obtain⟨o',e3,B7⟩:=B7;have DQ:=g.Aw g2;have aba:=DQ.B5.AX _ _ hg hm;have hm2:=DQ.B5.Of hg hm;have kp:∀o,s.heap.get? d=H o->s2.heap.get? d=H o:=λo e=>DQ.B5.AX _ _ e hm;obtain⟨_,w⟩:=gH (E:=AP) (P:=λu s'=>Go X J8 s0 Br H2 s'/\ER X Br s'.heap _ o') BI e3 (ro.Bo (g0.st.fC DQ.B5) DQ.B5.le kp kp) (BN.B5 g.st g2.B5 r) r2 λh' tk hs V7=>⟨(g0.Aw DQ).qy aba V6 hm2 hd0 hh hs tk,V7⟩;exact Ao (GX (BY w λu s3 z=>Bg (hr o' H2 Br s3 z.1 hm2 z.2 (z.2.qz (r4 e3).2) B7)))
end
theorem abb{q:Sem AG×Sem AG}{f:(Option (Sem AG)×Sem AG)->(Option BJ×List (Sem AG×Sem AG))->Sem (ForInStep (Option BJ×List (Sem AG×Sem AG)))}
  (hf:∀p run,(I (run++[p])==17)=A1->f (H p.1,p.2) (AB,run)=pure (.yield (AB,run++[p]))):
  ∀(l run:List (Sem AG×Sem AG)),I run+I l=16->f (H q.1,q.2) (AB,run++l)=G->forIn ((l++[q]).map λp=>(H p.1,p.2)) ((AB:Option BJ),run) f=G>>=λr=>match r with|.done b=>pure b|.yield b=>pure b:=by
 intro BE;induction BE with
 |nil=>
  rintro run h hq;rw[Oc] at hq;rw[S8,hq];refine bind_congr λr=>?_;cases r<;>rfl
 |cons p l ih=>
  rintro run h hq;rw[S8,hf p run (by rw[El];exact beq_eq_false_iff_ne.mpr (λz=>by simp only[List.length_singleton] at z;exact K4 (By 1 (.k 17) AI 1 (.a A2 BB) (.k 16) AF AK A4 [I run,I l] (BQ z.symm) (BQ h))))];exact ih _ (by rw[El,f5,Xp _ (I l)];exact h) (by rw[<-List.append_cons];exact hq)
theorem abc(h:I pairs=17):dictDisplay (pairs.map λp=>(H p.1,p.2))=(do let d <-subDict pairs;pure (.ref d)):=by
 have h0:pairs≠[]:=λe=>by rw[e] at h;cases h
 have e:=List.dropLast_concat_getLast h0;have h1:(I (pairs.dropLast++[pairs.getLast h0])==17)=U:=by rw[e,h];rfl
 have h2:(pairs.dropLast++[pairs.getLast h0]).isEmpty=A1:=by rw[e];exact List.isEmpty_eq_false_iff.mpr h0
 unfold dictDisplay;dsimp only;rw[<-e,abb (λp run hne=>by dsimp only;rw[hne];rfl) _ [] (by rw[List.length_dropLast,h];rfl) rfl];rw[e] at h1 h2;simp only[r5,e,h1,h2,if_true,Bool.false_eq_true,if_false,bind_assoc,pure_bind,List.isEmpty_nil]
section
variable{A0:A0}
theorem r6{ks:List (Option AY)}{vs:List AY}(h:NV X c .AH ks vs=U){P:List (Option AY)->List AY->Prop}(k:P [] []):P ks vs:=ID (P:=λks=>P ks vs) (AJ h).1 (ID (AJ h).2 k)
theorem r7(h:NV X c (.AR k .AH) ks vs=U):False:=K5 (P:=λx=>False) h λx x h=>Ui (P:=λx=>False) h λx h=>nomatch(AJ h).2
theorem r8{k v:E}{es:Dg}{ks:List (Option AY)}{vs:List AY}(h:NV X c (.AR k (.AR v es)) ks vs=U){P:List (Option AY)->List AY->Prop}(kk:∀x r y t,D7 X c k x=U->D7 X c v y=U->NV X c es r t=U->P (H x::r) (y::t)):P ks vs:=
 K5 (P:=λks=>P ks vs) h λo r h=>Ui (P:=λo=>P (o::r) vs) h λx h=>K5 (AJ h).2 λy t h2=>kk x r y t (AJ h).1 (AJ h2).1 (AJ h2).2
theorem gM:∀{es:Dg} {ks:List (Option AY)} {vs:List AY},NV X c es ks vs=U->
  (evalEachOpt ks env).zip ((evalEach vs env).map λv=>do let x <-v;standAt pos;pure x)=(Kg env pos ks vs).map (λp=>(H p.1,p.2))/\I (Kg env pos ks vs)=I ks
 |.AH,ks,vs,h=>r6 (P:=λks vs=>(evalEachOpt ks env).zip _=(Kg env pos ks vs).map (λp=>(H p.1,p.2))/\I (Kg env pos ks vs)=I ks) h ⟨rfl,rfl⟩|.AR k .AH,ks,vs,h=>(r7 h).elim|.AR k (.AR v es),ks,vs,h=>r8 (P:=λks vs=>(evalEachOpt ks env).zip ((evalEach vs env).map λv=>do let x <-v;standAt pos;pure x)=(Kg env pos ks vs).map (λp=>(H p.1,p.2))/\I (Kg env pos ks vs)=I ks) h λx r y t z z h3=>by
  obtain⟨i1,i2⟩:=gM (pos:=pos) h3;constructor
  .rw [List.zip_cons_cons,i1]
   rfl
  .exact congrArg _ i2
theorem abd(BI:Ek A n)(ag:NV X c es ks vs=U)(hl:I ks<=15)(S:Bh X β A0 s.heap)
  (h:∀s0,Go X β s β A0 s0->wpAny X.M A (evalPairs (Kg env pos ks vs)) (V3 X β s0 λxs h1=>∃o,Oa X.G.AM (Gk k) xs=H o/\Q (.v (.O si (I (h1 si)))) (Bm h1 si o)) AP s0):
  wpAny X.M A (eval (.Dict ks vs pos) env) (Post X β s fr Q) AP s:=by
 obtain⟨sh,len⟩:=gM (env:=env) (pos:=pos) ag;have abe:A.units+200<cLine:=by have:=BI.2.1;exact BG 1 (.a (.a A2 (.m 12 A7)) (.k 400)) Aa (.a (.a A2 (.k 200)) AF) Aa A4 [A.units,n,cLine] this
 rw[arm_eval_Dict,sh];refine Ao (JY ?_);have g0:=(Go.BO S).Kd emptyDict s.toks;have hd0:(s.heap.push emptyDict).get? s.heap.objs.size=H emptyDict:=J6 _ rfl;have hn:=J0 s.heap;have hm:¬β.mut s.heap.objs.size:=λm=>by obtain⟨ob,e,_⟩:=S.LR m;rw[hn] at e;cases e
 have fin:∀s1 H1 A9 o h' tk,Go X β {s with heap:=s.heap.push emptyDict} A9 H1 s1->Hr s.heap.objs.size s1.heap h'->ER X A9 h' _ o->Q (.v (.O si (I (H1 si)))) (Bm H1 si o)->
   Post X β s fr Q (.ref s.heap.objs.size) _:=λs1 H1 A9 o h' tk g hs ro q=>by
  have e1:=g.B5.AX _ _ hd0 hm;have m1:=g.B5.Of hd0 hm;have g2:=(g0.Aw g).qy e1 rfl m1 hn (LM S.G1 hn) hs tk;have le:=Af.ML A9 si (s.heap.objs.size,s.heap.objs.size);have g3:=g2.Uz (si:=si) m1 (LM S.G1 hn) hn (ro.Bo (EX.BO _) le (λx e=>e) λx e=>e);refine E6 q ⟨(s.heap.objs.size,s.heap.objs.size),?_,rfl⟩ g3;rw[<-g.st.Aj];exact Af.Og ..
 by_cases h0:Kg env pos ks vs=[]
 .rw [h0]
  have h:=h s (Go.BO S);rw[h0] at h;show wpAny _ _ (evalPairs []>>=λx=>newObj (.type "dict") (.dict #[])) _ _ _;refine Ao (BY (wpAny_evalPairs_len h) λps s1 q=>?_);obtain⟨hl,xs,H1,A9,⟨o,e,q⟩,r,g⟩:=q;obtain rfl:ps=[]:=abf hl;have hx:xs=[]:=by
   cases xs with
   |nil=>rfl|cons v vs=>obtain⟨_,_,h,_⟩:=r;cases h
  clear r;subst hx;cases e;refine g8 ?_;have hn1:=J0 s1.heap;have g2:=g.Kd emptyDict s1.toks;have e1:(s1.heap.push emptyDict).get? s1.heap.objs.size=H emptyDict:=J6 _ rfl;have m1:¬A9.mut s1.heap.objs.size:=λm=>by obtain⟨ob,e,_⟩:=g.st.LR m;rw[hn1] at e;cases e
  have g3:=g2.Uz (si:=si) m1 (LM g.st.G1 hn1) (g.QV hn1) (ER.gJ (k:=k) e1);refine E6 q ⟨(s1.heap.objs.size,s1.heap.objs.size),?_,rfl⟩ g3;rw[<-g.st.Aj];exact Af.Og ..
 .rw [dictDisplay_pairs _ h0 (by rw[len];exact BG 1 A2 (.k 15) AI (.k 17) A4 [I ks] hl)]
  refine Ao ?_;refine Ao (wpAny_alloc (Ao (GX ?_)));rw[if_pos (by rw[len];exact hl)];refine Ao (BY (h _ g0) λps s1 q=>GX ?_);obtain⟨xs,H1,A9,⟨o,e,q⟩,r,g⟩:=q;have e1:=g.B5.AX _ _ hd0 hm;refine Ao (aa7 abe ps xs (Gk k) o s1 _ e r (ER.gJ e1) λh' tk hs ro=>Bg (Bg (Bg ?_)));exact fin s1 H1 A9 o h' tk g hs ro q
theorem abg{k:UM}{si:Nat}{es:Dg}{ks:List (Option AY)}{vs:List AY}(ag:NV X c es ks vs=U)(hl:I ks=17)(S:Bh X β A0 s.heap)
  (h:∀d s0,s.heap.get? d=AB->X.h₀.get? d=AB->Go X β s β A0 s0->s0.heap.get? d=H emptyDict->wpAny X.M A (forIn (Kg env pos ks vs) LP (Yd d)) (λx s1=>∃o H1 A9,Go X β s A9 H1 s1/\¬A9.mut d/\ER X A9 s1.heap (d,d) o/\Q (.v (.O si (I (H1 si)))) (Bm H1 si o)) AP s0):
  wpAny X.M A (eval (.Dict ks vs pos) env) (Post X β s fr Q) AP s:=by
 obtain⟨sh,len⟩:=gM (env:=env) (pos:=pos) ag;rw[arm_eval_Dict,sh,abc (by rw[len];exact hl)];refine Ao (JY (Ao ?_));have hn:=J0 s.heap;have g0:=(Go.BO S).Kd emptyDict s.toks;have w:=h _ _ hn (LM S.G1 hn) g0 (J6 _ rfl);refine Ao (wpAny_alloc (Ao (GX ?_)));rw[if_neg (by rw[len,hl];decide)];refine Ao (wpAny_rule (Ao (BY w λx s1 q=>Bg (Bg (Bg ?_)))));obtain⟨o,H1,A9,g,m1,ro,q⟩:=q;have le:=Af.ML A9 si (s.heap.objs.size,s.heap.objs.size);have g3:=g.Uz m1 (LM S.G1 hn) hn (ro.Bo (EX.BO _) le (λx e=>e) λx e=>e);refine E6 q ⟨(s.heap.objs.size,s.heap.objs.size),?_,rfl⟩ g3;rw[<-g.st.Aj];exact Af.Og ..
end
section
variable{X:Cfg}{A0:A0}
inductive abh(h:Ca)(it:BJ):Prop
 |mk (ob:Obj) (n:String) (vs:Array AG) (o:h.get? it=H ob) (c:ob.cls=.type n) (d:ob.data=.fields vs) (k:(["enumerate","zip","dict_itemiterator","dict_reverseitemiterator","odict_iterator","itertools.zip_longest","itertools.pairwise"]:List String).contains n=A1)
inductive GI(h:Ca)(ik:FG)(t:T)(x:AG)(l:List V)(i:Nat)(it:BJ):Prop
 |DU (a n:Int) (n0:0<=n) (e:l=Ho a (a+n)) (z:IsRangeIter h it (a+i) (n-i) 1)|A3 (ax:BJ) (k:ik=.Ci) (e:x=.ref ax) (y:YQ t=U) (z:h.IsTupleIter it ax i)|Al (ax:BJ) (k:ik=.Ci) (e:x=.ref ax) (y:YQ t=A1) (z:h.IsListIter it ax i)
theorem GI.Ye(r:GI h ik t x l i it):abh h it:=by
 cases r with
 |DU a n n0 e z=>exact⟨_,_,_,z,rfl,rfl,by decide⟩|A3 ax k e y z=>obtain⟨o,ho,hc,hd⟩:=z;exact⟨o,_,_,ho,hc,hd,by decide⟩
 |Al ax k e y z=>obtain⟨o,ho,hc,hd⟩:=z;exact⟨o,_,_,ho,hc,hd,by decide⟩
theorem gO(e:ob.data=.fields vs):¬QK ob:=λq=>q.elim (λq=>q.elim λx q=>q.elim λy q=>q.elim λz q=>nomatch e.symm.trans q) λq=>q.elim λx q=>q.elim λy q=>nomatch e.symm.trans q
theorem GI.AX(r:GI h ik t x l i it)(k:∀o,h.get? it=H o->h'.get? it=H o):GI h' ik t x l i it:=by
 cases r with
 |DU a n n0 e z=>exact .DU a n n0 e (k _ z)|A3 ax k' e y z=>obtain⟨o,ho,q⟩:=z;exact .A3 ax k' e y ⟨o,k _ ho,q⟩
 |Al ax k' e y z=>obtain⟨o,ho,q⟩:=z;exact .Al ax k' e y ⟨o,k _ ho,q⟩
theorem abi(a n:Int):I (Ho a (a+n))=n.toNat:=by rw[Ce,List.length_range,(gP.mpr rfl)]
theorem abj(h:i<n.toNat):(Ho a (a+n))[i]?=H (.B (a+i)):=by rw[GY,(gP.mpr rfl),Yg h];rfl
theorem C5.r9(rv:C5 X.G.AM β h l xs)(i:Nat):(l[i]?=AB/\xs[i]?=AB)\/∃v y,l[i]?=H v/\xs[i]?=H y/\BN X.G.AM β h v y:=by
 cases e:l[i]? with
 |none=>exact .inl ⟨rfl,Yh.mpr (rv.Cy▸Yh.mp e)⟩|some v=>obtain⟨y,ey,Dz⟩:=rv.Dh e;exact .inr ⟨v,y,rfl,ey,Dz⟩
theorem rA(hA:A.handled=AB)(S:Bh X β A0 s.heap)(r:GI s.heap ik t x l i it)(tr:DH X β s.heap t x)(st:Gl A0 ik t bv l)
  (Yi:∀v y h' tk,l[i]?=H v->BN X.G.AM β h' v y->GI h' ik t x l (i+1) it->Ig it s.heap h'->P (H y) {s with heap:=h',toks:=tk})
  (Yj:l[i]?=AB->∀h' tk,Ig it s.heap h'->P AB {s with heap:=h',toks:=tk}):wpAny X.M A (pyNext (.ref it)) P AP s:=by
 obtain⟨ob,_,vs,hob,_,hd,_⟩:=r.Ye;have tk:∀{h'},Ig it s.heap h'->EX s.heap h':=λhs b xs e=>hs _ _ (λq=>by clear c hs Yj Yi r;subst q;cases hob.symm.trans e;cases hd) e;cases r with
 |DU a n n0 e z=>
  clear st;subst e;by_cases hi:i<n.toNat
  .refine wpAny_pyNext_range_item z (Int.sub_pos.mpr (Int.lt_toNat.mp hi)) λh' z' hs=>Yi _ _ h' _ (abj hi) ⟨_,rfl⟩ (.DU a n n0 rfl ?_) hs.extBut
   rw[(Int.add_assoc a i 1).symm,(Int.sub_sub n i 1).symm];exact z'
  .exact wpAny_pyNext_range_end hA z (Int.sub_nonpos_of_le (Ie.mp λq=>hi (Int.lt_toNat.mpr q))) λh' hs=>Yj (SA (abi a n▸NT.mp hi)) h' s.toks hs
 |A3 ax k e y z=>
  subst k e;cases SQ S st tr with
  |A6 a xs pl rv hb y'=>exact nomatch y.symm.trans y'
  |A3 a xs ho rv hb _=>
   have ht':s.heap.IsTuple ax xs.toArray:=⟨_,ho,rfl,0,rfl⟩;rcases rv.r9 i with⟨e1,e2⟩|⟨v,w,e1,e2,Dz⟩
   .exact wpAny_pyNext_tuple_end hA z ht' (Uu.trans e2) λh' hs=>Yj e1 h' s.toks hs
   .exact wpAny_pyNext_tuple_item z ht' (Uu.trans e2) λh' z' hs=>Yi v w h' s.toks e1 (Dz.Bo (tk hs.extBut) (Af.le.BO _)) (.A3 ax rfl rfl y z') hs.extBut
 |Al ax k e y z=>
  subst k e;cases SQ S st tr with
  |A3 a xs pl rv hb y'=>exact nomatch y.symm.trans y'
  |A6 a xs pl rv hb _=>
   rcases rv.r9 i with⟨e1,e2⟩|⟨v,w,e1,e2,Dz⟩
   .exact wpAny_pyNext_list_end hA z pl.Ep (Uu.trans e2) λh' hs=>Yj e1 h' s.toks hs
   .exact wpAny_pyNext_list_item z pl.Ep (Uu.trans e2) λh' z' hs=>Yi v w h' s.toks e1 (Dz.Bo (tk hs.extBut) (Af.le.BO _)) (.Al ax rfl rfl y z') hs.extBut
end
section
variable{X:Cfg}{A0:A0}
inductive gQ(X:Cfg)(β:Af)(s:BS)(ik:FG)(Q:T->V->List V->Internal.A0->Prop)(itv:AG)(s':BS):Prop
 |mk (it:BJ) (t:T) (bv:V) (l:List V) (H':Internal.A0) (β':Af) (x:AG) (e:itv=.ref it) (q:Q t bv l H') (i:GI s'.heap ik t x l 0 it) (r:DH X β' s'.heap t x) (g:Go X β s β' H' s') (n:s.heap.get? it=AB)
inductive abk(X:Cfg)(A9:Af)(H1:Internal.A0)(s sa:BS)(fr:Bool)(ik:FG)(Q:T->V->List V->Internal.A0->Prop)(itv:AG)(s':BS):Prop
 |mk (it:BJ) (t:T) (bv:V) (l:List V) (x':AG) (e:itv=.ref it) (q:Q t bv l H1) (i:GI s'.heap ik t x' l 0 it) (r:DH X A9 s'.heap t x') (g:Go X A9 sa A9 H1 s') (n:sa.heap.get? it=AB) (f:∀l',t=.Al l'->fr=U->∃a o,x'=.ref a/\s.heap.get? a=AB/\sa.heap.get? a=H o) (na:∀z,t≠.DT z)
inductive SW(X:Cfg)(A:I_)(β:Af)(s:BS)(fr:Bool)(ik:FG)(Q:T->V->List V->Internal.A0->Prop)(x:AG)(sa:BS):Prop
 |mk (A9:Af) (H1:Internal.A0) (g:Go X β s A9 H1 sa) (w:wpAny X.M A (pyIter x) (abk X A9 H1 s sa fr ik Q) AP sa)
theorem rB{Q:T->V->List V->Internal.A0->Prop}(h:wpAny X.M A w (SW X A β s fr ik Q) AP s):wpAny X.M A w (λx s1=>wpAny X.M A (pyIter x) (gQ X β s ik Q) AP s1) AP s:=
 BY h λx s1 p=>by obtain⟨A9,H1,g,w⟩:=p;refine BY w λitv s2 p=>?_;obtain⟨it,t,bv,l,x',e,q,i,r,g1,n,y,z⟩:=p;exact⟨it,t,bv,l,H1,A9,x',e,q,i,r,g.Aw g1,g.QV n⟩
theorem rC(hr:IsRange s.heap r a b 1 ta tb v)(ha:Dr a=U)(hb:Dr b=U)
  (q:∀o,(∀t x ik,GI (s.heap.push o) ik t x (Ho a b) 0 s.heap.objs.size)->P (.ref s.heap.objs.size) {s with heap:=s.heap.push o}):wpAny X.M A (pyIter (.ref r)) P AP s:=by
 have f:∀{a:Int},Dr a=U->-(2^62)<=a/\a<2^62:=λh=>⟨Yb (fu () (of_decide_eq_true h).1),fu (of_decide_eq_true h).2 ()⟩;refine wpAny_pyIter_range hr (small_one (f ha).1 (f ha).2 (f hb).1 (f hb).2) ?_;rw[rangeSize_one];have k:=λn n0 e o z=>q o λt x ik=>.DU a n n0 e (by
  rw[Int.add_zero a,Int.sub_zero n];exact z)
 by_cases h:a<b
 .rw [if_pos h]
  exact k _ (nV (Yb h)) (congrArg _ (gP.mp rfl)) _ (J6 _ rfl)
 .rw [if_neg h]
  refine k _ (ef 0) ?_ _ (J6 _ rfl);unfold Ho;rw[Int.toNat_of_nonpos (Int.sub_nonpos_of_le (Ie.mp h)),Int.add_zero,Int.sub_self];rfl
theorem abl(e:HA h .DU t bv=H l):∃b,t=.v (.B b)/\Dr b=U/\l=Ho 0 b:=by
 cases t with
 |v w=>
  cases w with
  |B b=>
   have e:(if Dr b&&decide _ then H _ else AB)=H l:=e;by_cases q:(Dr b&&decide (b<BU))=U
   .rw [if_pos q] at e;exact⟨b,rfl,C4 q,(BR e).symm⟩
   .rw [if_neg q] at e;exact nn e
  |_=>exact nn e
 |_=>exact nn e
theorem abm(e:HA h .H7 t bv=H l):∃a b,t=.v (.B a)/\bv=.B b/\Dr a=U/\Dr b=U/\l=Ho a b:=by
 cases t with
 |v w=>
  cases w with
  |B a=>
   cases bv with
   |B b=>
    have e:(if Dr a&&(Dr b&&decide _) then H _ else AB)=H l:=e;by_cases q:(Dr a&&(Dr b&&decide (b<BU)))=U
    .rw [if_pos q] at e;exact⟨a,b,rfl,rfl,C4 q,C4 (AD q),(BR e).symm⟩
    .rw [if_neg q] at e;exact nn e
   |_=>exact nn e
  |_=>exact nn e
 |_=>exact nn e
theorem abn(hb:bi c "range" g=U)(ns:FY y=A1)(K:CL c env)(S:Bh X β A0 s.heap){Q:T->V->List V->Internal.A0->Prop}
  (h:wpAny X.M A (eval y env) (Post X β s A1 λt h1=>opt (HA h1 .DU t bv) λl=>Q t bv l h1) AP s):wpAny X.M A (eval (.Call g [y] [] pos) env) (SW X A β s fr .DU Q) AP s:=by
 refine YO hb rfl ns K S h λx s1 q=>?_;obtain⟨t,H1,A9,⟨l,e,q⟩,r,g',-⟩:=q;obtain⟨b,rfl,sb,rfl⟩:=abl e;obtain⟨tk,rfl⟩:=r;have g2:=g'.Kd {cls:=.type "range",data:=.fields #[.int 0 s1.toks,.int b tk,.int 1 (s1.toks+1)]} (s1.toks+1+1);exact call_range_1 ⟨A9,H1,g2,rC (IsRange.new ..) () sb λo z=>⟨_,_,bv,_,_,rfl,q,z ..,⟨tk,rfl⟩,(Go.BO g2.st).Kd o _,J0 _,nofun,nofun⟩⟩
theorem abo{id:String}{Y:AG->AG->BS->Prop}(hb:bi c n g=U)(hv:S9 n=H (.type id))(ns:FY a=A1)(gR:FY b=A1)(K:CL c env)(S:Bh X β A0 s.heap)
  (h:wpAny X.M A (eval a env) Z AP s)(hc2:∀x s1,Z x s1->wpAny X.M A (eval b env) (Y x) AP s1)(hc:∀x y s2,Y x y s2->wpAny X.M A (call (.type id) [x,y]) P AP s2):wpAny X.M A (eval (.Call g [a,b] [] pos) env) P AP s:=by
 obtain⟨p,rfl,hg⟩:=fz hb;refine Ao (fR hg K S hv ?_);have e:starEach [a,b] env=(A1,eval a env)::(A1,eval b env)::starEach [] env:=by rw[MR ns,MR gR]
 rw[e];exact Ϯ rfl (SM (On (BY h λx s1 q=>On (BY (hc2 x s1 q) λy s2 B7=>SL (hc x y s2 B7)))))
inductive abp(X:Cfg)(β:Af)(s:BS)(Q:T->V->List V->Internal.A0->Prop)(x y:AG)(s2:BS):Prop
 |mk (a b:Int) (ta tb:Tok) (H2:Internal.A0) (Br:Af) (ex:x=.int a ta) (ey:y=.int b tb) (sa:Dr a=U) (sb:Dr b=U) (q:Q (.v (.B a)) (.B b) (Ho a b) H2) (g:Go X β s Br H2 s2)
theorem abq(hb:bi c "range" g=U)(ns:FY y=A1)(gR:FY z=A1)(K:CL c env)(S:Bh X β A0 s.heap){Q:T->V->List V->Internal.A0->Prop}
  (h:wpAny X.M A (eval y env) (Post X β s A1 R) AP s)
  (h2:∀t A9 H1 s1,Go X β s A9 H1 s1->R t H1->wpAny X.M A (eval z env) (Post X A9 s1 A1 λu h2=>opt u.Av λbv=>opt (HA h2 .H7 t bv) λl=>Q t bv l h2) AP s1):
  wpAny X.M A (eval (.Call g [y,z] [] pos) env) (SW X A β s fr .H7 Q) AP s:=by
 refine abo hb (Y:=abp X β s Q) rfl ns gR K S h (λx s1 q=>?_) λx y s1 q=>?_
 .obtain ⟨t,H1,A9,q,r,g',-⟩:=q
  refine Hv (h2 t A9 H1 s1 g' q) λy s2 bv H2 Br B7 r2 g2=>?_;obtain⟨l,e,B7⟩:=B7;clear q;obtain⟨a,b,rfl,rfl,sa,sb,rfl⟩:=abm e;obtain⟨ta,ea⟩:=r;obtain⟨tb,eb⟩:=r2;exact⟨a,b,ta,tb,H2,Br,ea,eb,sa,sb,B7,g'.Aw g2⟩
 .obtain ⟨a,b,ta,tb,H1,A9,rfl,rfl,sa,sb,q,g'⟩:=q
  have g2:=g'.Kd {cls:=.type "range",data:=.fields #[.int a ta,.int b tb,.int 1 s1.toks]} (s1.toks+1);exact call_range_2 ⟨A9,H1,g2,rC (IsRange.new ..) sa sb λo z=>⟨_,_,_,_,_,rfl,q,z ..,⟨ta,rfl⟩,(Go.BO g2.st).Kd o _,J0 _,nofun,nofun⟩⟩
theorem abr{h:Ca}(e:h.get? a=H (Fg xs))(f:h.get? a=H (FT ys n)):False:=
 absurd (AG.type.inj (congrArg Obj.cls (BR (e.symm.trans f)))) ()
theorem abt{Q:T->V->List V->Internal.A0->Prop}
  (h:wpAny X.M A (eval y env) (Post X β s fr λt h1=>opt (HA h1 .Ci t bv) λl=>Q t bv l h1) AP s):wpAny X.M A (eval y env) (SW X A β s fr .Ci Q) AP s:=by
 refine BY h λx s1 q=>?_;obtain⟨t,H1,A9,⟨l,e,q⟩,r,g',f⟩:=q;have na:∀z,t≠.DT z:=λz q=>by clear f r;subst q;exact nn e
 refine⟨A9,H1,g',?_⟩;have anon:∀l',t=.Al l'->fr=U->∃a o,x=.ref a/\s.heap.get? a=AB/\s1.heap.get? a=H o:=λl' et Qc=>by obtain⟨a,ea,hn⟩:=f Qc l' et;clear na q e f;subst et;obtain⟨a',xs,gS,⟨n,ho⟩,_⟩:=r;cases ea.symm.trans gS;exact⟨a,_,ea,hn,ho⟩
 have QX:=λo=>(Go.BO g'.st).Kd o s1.toks;cases SQ g'.st e r with
 |A6 a xs pl rv hb y=>exact wpAny_pyIter_list pl.Ep ⟨_,t,bv,l,_,rfl,q,.Al a rfl rfl y ⟨_,J6 _ rfl,rfl,rfl⟩,DH.B5 g'.st (QX _).B5 r,QX _,J0 _,anon,na⟩|A3 a xs ho rv hb y=>exact wpAny_pyIter_tuple ⟨_,ho,rfl,0,rfl⟩ ⟨_,t,bv,l,_,rfl,q,.A3 a rfl rfl y ⟨_,J6 _ rfl,rfl,rfl⟩,DH.B5 g'.st (QX _).B5 r,QX _,J0 _,anon,na⟩
theorem abu{E:AG->BS->Prop}(r:GI s.heap ik t x l i it)(q:P (.ref it) s):wpAny X.M A (pyIter (.ref it)) P E s:=by
 cases r with
 |DU a n n0 e z=>exact wpAny_pyIter_rangeiter z q|A3 ax k e y z=>exact wpAny_pyIter_tupleiter z q|Al ax k e y z=>exact wpAny_pyIter_listiter z q
end
def J9(ob:Obj):Prop:=(∀C e,ob≠instObj C e)/\∀xs,ob≠Fg xs
theorem LX(h:ob.data=.dict es ep):J9 ob:=⟨λC e q=>(by subst q;cases h),λxs q=>(by subst q;cases h)⟩
theorem V8(h:ob.data=.cell v):J9 ob:=⟨λC e q=>(by subst q;cases h),λxs q=>(by subst q;cases h)⟩
theorem gT(h:ob.data=.fields v):J9 ob:=⟨λC e q=>(by subst q;cases h),λxs q=>(by subst q;cases h)⟩
theorem V9:J9 (FT xs n):=⟨λC e q=>(by cases q),λys q=>(by have:=congrArg Obj.cls q;simp[Fg,FT] at this)⟩
theorem Qd:I (Cq r i t)=I r:=by
 induction r generalizing i with
 |nil=>rfl|cons a r ih=>cases i with|zero=>rfl|succ i=>exact congrArg Nat.succ ih
theorem NY:∀{r:List T} {i:Nat},i<I r->BD (Cq r i t) i=t
 |[],i,h=>by simp at h|a::r,0,h=>rfl|a::r,i+1,h=>NY (r:=r) (by simpa using h)
theorem MU:∀{r:List T} {i j:Nat},j≠i->BD (Cq r i t) j=BD r j
 |[],i,j,h=>rfl|a::r,0,0,h=>absurd rfl h|a::r,0,j+1,h=>rfl|a::r,i+1,0,h=>rfl|a::r,i+1,j+1,h=>MU (r:=r) (λe=>h (by rw[e]))
theorem LY:∀{l:List (Nat×Str)},Ht (l.map (·.2))=U->(i,x)∈l->(j,x)∈l->i=j:=by
 intro BE;induction BE with
 |nil=>
  rintro _ h _;cases h
 |cons hd0 r ih=>
  rcases hd0 with⟨k,y⟩;rintro n h g;have n:(!(r.map (·.2)).contains y)=U/\Ht (r.map (·.2))=U:=EF.mp n;have no:∀{k:Nat},(k,y)∈r->False:=λ{k} m=>by
   have:(r.map (·.2)).contains y=U:=by rw[VA];exact Eh.mpr ⟨_,m,rfl⟩
   rw[this] at n;cases n.1
  rcases D4.mp h with e|e<;>rcases D4.mp g with f|f
  .clear no n;cases e;clear g h ih;cases f;rfl
  .clear n;cases e;exact(no f).elim
  .clear n;cases f;exact(no e).elim
  .exact ih n.2 e f
theorem gU:∀{l:List (Nat×Str)},QN (l.map (·.1))=U->(i,x)∈l->(i,y)∈l->x=y:=by
 intro BE;induction BE with
 |nil=>
  rintro _ h _;cases h
 |cons hd0 r ih=>
  rcases hd0 with⟨k,z⟩;rintro n h g;have n:(!(r.map (·.1)).contains k)=U/\QN (r.map (·.1))=U:=EF.mp n;have no:∀{y:Str},(k,y)∈r->False:=λ{y} m=>by
   have:(r.map (·.1)).contains k=U:=by rw[VA];exact Eh.mpr ⟨_,m,rfl⟩
   rw[this] at n;cases n.1
  rcases D4.mp h with e|e<;>rcases D4.mp g with f|f
  .clear no n;cases e;clear g h ih;cases f;rfl
  .clear n;cases e;exact(no f).elim
  .clear n;cases f;exact(no e).elim
  .exact ih n.2 e f
section
variable{A0:A0}{s:BS}
theorem Bh.G5(S:Bh X β A0 h)(hd:h.get? d=H ob)(hm:¬β.mut d)(hl:J9 ob)(hh:X.h₀.get? d=AB)(hs:Ig d h h'):Bh X β A0 h':=by
 have abv:EX h h':=λb xs e=>hs _ _ (λq=>by clear hs hh hm;subst q;rw[hd] at e;exact hl.2 _ (BR e)) e;refine⟨λsi i o e=>?_,S.Aj,S.Od,λb o e=>hs _ _ (λq=>?_) (S.G1 b o e),S.Oe⟩
 .obtain ⟨q,hq,r⟩:=S.G0 si i o e
  have n2:q.2≠d:=λz=>hm (z▸⟨si,q,HE hq,rfl⟩);refine⟨q,hq,r.Bo abv (Af.le.BO _) (λo' e'=>hs _ _ (λz=>?_) e') λo' e'=>hs _ _ n2 e'⟩;cases o with
  |CK c l=>
   have:=r.1;rw[z,hd] at this;exact hl.1 _ _ (BR this)
  |A6 l=>exact n2 (r.1▸z)|Ad l=>exact n2 (r.1▸z)|BC l=>exact n2 (r.1▸z)|Ff l=>exact n2 (r.1▸z)
 .clear hs hm hd;subst q;rw[hh] at e;cases e
theorem K7(hd:h.get? d=H ob)(hl:J9 ob)(hs:Ig d h h'):EX h h':=
 λb xs e=>hs _ _ (λq=>by clear hs;subst q;rw[hd] at e;exact hl.2 _ (BR e)) e
theorem DH.G5(hd:h.get? d=H ob)(hl:J9 ob)(hs:Ig d h h')(n:Fo t=U->x≠.ref d)(r:DH X β h t x):DH X β h' t x:=by
 cases t with
 |AQ=>exact r|v v=>exact BN.Bo (K7 hd hl hs) (Af.le.BO _) r|Al l=>rcases r with⟨a,xs,e,⟨k,ho⟩,hv,hl',hm,h0⟩;exact⟨a,xs,e,⟨k,hs _ _ (λq=>n rfl (e.trans (congrArg _ q))) ho⟩,hv.Bo (K7 hd hl hs) (Af.le.BO _),hl',hm,h0⟩
 |DT l=>rcases r with⟨a,xs,e,⟨k,ho⟩,hv,hl',hm⟩;exact⟨a,xs,e,⟨k,hs _ _ (λq=>n rfl (e.trans (congrArg _ q))) ho⟩,hv.Bo (K7 hd hl hs) (Af.le.BO _),hl',hm⟩
theorem JS.G5(hd:h.get? d=H ob)(hl:J9 ob)(hs:Ig d h h')(n:Fo t=U->o≠H (.ref d))(r:JS X β h t o):JS X β h' t o:=by
 cases t with
 |AQ=>exact r|v v=>rcases r with⟨x,e,r⟩;exact⟨x,e,DH.G5 hd hl hs (λq=>Bp q) r⟩
 |Al l=>rcases r with⟨x,e,r⟩;exact⟨x,e,DH.G5 hd hl hs (λq z=>n q (e.trans (congrArg H z))) r⟩
 |DT l=>rcases r with⟨x,e,r⟩;exact⟨x,e,DH.G5 hd hl hs (λq z=>n q (e.trans (congrArg H z))) r⟩
theorem JS.gV(r:JS X β h t o)(q:Fo t=U):∃a xs n,o=H (.ref a)/\h.get? a=H (FT xs n):=by
 cases t with
 |AQ=>exact Bp q|v w=>exact Bp q|Al l=>obtain⟨x,e,a,xs,rfl,⟨n,ho⟩,_⟩:=r;exact⟨a,xs,n,e,ho⟩
 |DT l=>obtain⟨x,e,a,xs,rfl,⟨n,ho⟩,_⟩:=r;exact⟨a,xs,n,e,ho⟩
theorem JS.MV(r:JS X β h t o)(hd:h.get? d=H ob)(nl:∀xs n,ob≠FT xs n):Fo t=U->o≠H (.ref d):=λq e=>by obtain⟨a,xs,n,e',ho⟩:=r.gV q;rw[e] at e';cases e';rw[hd] at ho;exact nl _ _ (BR ho)
theorem L_(h:ob.data=.dict es ep):∀xs n,ob≠FT xs n:=λxs n q=>by subst q;cases h
theorem VB(h:ob.data=.cell v):∀xs n,ob≠FT xs n:=λxs n q=>by subst q;cases h
theorem Qe(h:ob.data=.fields v):∀xs n,ob≠FT xs n:=λxs n q=>by subst q;cases h
def MW(c:CY)(ρ:List T)(m:Str->Option AG)(b:BJ):Prop:=∃i x,(i,x)∈c.Bt/\MP (BD ρ i)=U/\m x=H (.ref b)
def Own(c:CY)(env:GS)(b:BJ):Prop:=b=env.locals\/∃i x,(i,x)∈c.Bt/\c.Bc.lookup x=H .cell/\env.cells.lookup x=H b
structure Dn(X:Cfg)(c:CY)(env:GS)(β:Af)(ρ:List T)(m:Str->Option AG)(s:BS)(β':Af)(ρ':List T)(m':Str->Option AG)(H':Internal.A0)(s':BS):Prop where
 st:Bh X β' H' s'.heap
 fr:DW X c env ρ' β' s'.heap m'
 le:Af.le β β'
 AX:∀b o,s.heap.get? b=H o->¬β.mut b->¬Own c env b->¬MW c ρ m b->s'.heap.get? b=H o
 IC:∀a,β'.mut a->β.mut a\/s.heap.get? a=AB
 SX:∀b,MW c ρ' m' b->MW c ρ m b\/s.heap.get? b=AB
 SY:∀b,s'.heap.get? b=AB->s.heap.get? b=AB
 Hu:s'={s with heap:=s'.heap,toks:=s'.toks}
theorem Dn.BO(S:Bh X β A0 s.heap)(F:DW X c env ρ β s.heap m):Dn X c env β ρ m s β ρ m A0 s:=⟨S,F,Af.le.BO _,λx x e x x x=>e,λx e=>.inl e,λx e=>.inl e,λx e=>e,rfl⟩
theorem Dn.Aw(x:Dn X c env β ρ m s A9 Dt m1 H1 s1)(y:Dn X c env A9 Dt m1 s1 Br abw m2 H2 s2):
  Dn X c env β ρ m s Br abw m2 H2 s2:=by
 refine⟨y.st,y.fr,x.le.Aw y.le,λb o e n1 n2 n3=>?_,λa q=>?_,λb q=>?_,λb q=>x.SY b (y.SY b q),by have a:=x.Hu;have b:=y.Hu;rw[b,a]⟩
 .have e1:=x.AX b o e n1 n2 n3
  refine y.AX b o e1 (λq=>?_) n2 λq=>?_
  .rcases x.IC b q with z|z
   .exact n1 z
   .rw [e] at z;cases z
  .rcases x.SX b q with z|z
   .exact n3 z
   .rw [e] at z;cases z
 .rcases y.IC a q with z|z
  .exact x.IC a z
  .exact .inr (x.SY a z)
 .rcases y.SX b q with z|z
  .exact x.SX b z
  .exact .inr (x.SY b z)
theorem DW.B5(F:DW X c env ρ β s.heap m)(S:Bh X β A0 s.heap)(P:Step β s.heap β' h'):DW X c env ρ β' h' m:=by obtain⟨o,es,ep,ho,r⟩:=F.ns;refine⟨⟨o,es,ep,P.AX _ _ ho F.QR,r⟩,P.Of ho F.QR,F.SI,λi x hi hl=>(F.Am i x hi hl).B5 S P,λi x hi hl=>?_,F.QS,F.SJ,F.Aj⟩;obtain⟨a,v,h1,⟨oc,h2,h3⟩,h4,h5,h6⟩:=F.Gp i x hi hl;exact⟨a,v,h1,⟨oc,P.AX _ _ h2 (S.NS h2 (pn h3)),h3⟩,h4,h5.B5 S P,h6⟩
theorem Dn.gW(S:Bh X β A0 s.heap)(F:DW X c env ρ β s.heap m)(g:Go X β s β' H' s'):Dn X c env β ρ m s β' ρ m H' s':=
 ⟨g.st,F.B5 S g.B5,g.B5.le,λb o e n x x=>g.B5.AX b o e n,g.B5.IC,λx e=>.inl e,λb e=>g.QV e,g.Hu⟩
theorem Own.G0(F:DW X c env ρ β h m)(o:Own c env b):∃ob,h.get? b=H ob/\J9 ob/\(∀xs n,ob≠FT xs n)/\((∃es ep,ob.data=.dict es ep)\/∃v,ob.data=.cell v):=by
 rcases o with rfl|⟨i,x',hx,hk,hc⟩
 .obtain ⟨o,es,ep,e',d,_⟩:=F.ns
  exact⟨o,e',LX d,L_ d,.inl ⟨es,ep,d⟩⟩
 .obtain ⟨a',v,e1,⟨o',e2,d⟩,_⟩:=F.Gp i x' hx hk
  rw[hc] at e1;clear z;cases e1;exact⟨o',e2,V8 d,VB d,.inr ⟨v,d⟩⟩
theorem MW.G0(K:CL c env)(F:DW X c env ρ β h m)(o:MW c ρ m b)(hk:∀i x,(i,x)∈c.Bt->c.Bc.lookup x=H .local\/c.Bc.lookup x=H .cell):∃xs n,h.get? b=H (FT xs n):=by
 obtain⟨i,x,hx,hl,hm⟩:=o;rcases hk i x hx with k|k
 .obtain ⟨a,xs,n,e,ho⟩:=(F.Am i x hx k).gV (Om hl)
  rw[hm] at e;cases e;exact⟨xs,n,ho⟩
 .obtain ⟨a,v,_,_,_,_,e⟩:=F.Gp i x hx k
  exact Bp (e.symm.trans (Om hl))
theorem DW.abx(K:CL c env)(F:DW X c env ρ β h m)(hx:(i,x)∈c.Bt)(hk:c.Bc.lookup x=H .local)(hn:h'.Ns env.locals λy=>if y=x then H v else m y)
  (hs:Hr env.locals h h')(r:DH X β h' t v)(na:∀l,t≠.DT l)(hf:MP t=U->∀j y,(j,y)∈c.Bt->Fo (BD ρ j)=U->m y≠H v):
  DW X c env (Cq ρ i t) β h' λy=>if y=x then H v else m y:=by
 obtain⟨o,es,ep,e',d,_⟩:=F.ns;have get:∀{j y},(j,y)∈c.Bt->y≠x->BD (Cq ρ i t) j=BD ρ j:=λ{j y} hy n=>MU λe=>n (by subst e;exact K.LU _ _ _ hy hx);have self:BD _ i=t:=NY (F.Aj▸K.lt i x hx);refine⟨hn,F.QR,F.SI,λj y hy hl=>?_,λj y hy hl=>?_,F.QS,λj y k z a hj hz lj lk G_ mk=>?_,by rw[Qd];exact F.Aj⟩
 .by_cases hyx:y=x
  .clear hn hk;subst hyx
   obtain rfl:=LY K.Ib hy hx;rw[self];rw[if_pos rfl];cases t with
   |AQ=>exact r.elim|DT l=>exact absurd rfl (na l)|v w=>exact⟨v,rfl,r⟩|Al l=>exact⟨v,rfl,r⟩
  .rw [get hy hyx]
   rw[if_neg hyx]
   have:=F.Am j y hy hl;exact this.G5 e' (LX d) hs.extBut (this.MV e' (L_ d))
 .have hyx:y≠x:=λe=>by clear hn hx;subst e;rw[hk] at hl;cases hl
  obtain⟨a,w,h1,⟨oc,h2,h3⟩,h4,h5,h6⟩:=F.Gp j y hy hl;rw[get hy hyx];have ne:a≠env.locals:=λq=>by clear h1;subst q;rw[e'] at h2;cases h2;rw[d] at h3;cases h3
  exact⟨a,w,h1,⟨oc,(hs.2 _ ne).trans h2,h3⟩,h4,h5.G5 e' (LX d) hs.extBut (h5.MV e' (L_ d)),h6⟩
 .by_cases hyx:y=x
  .by_cases Qf:z=x
   .rw [hyx,Qf]
   .clear hk;subst hyx
    obtain rfl:=LY K.Ib hj hx;rw[if_neg Qf] at mk;rw[if_pos rfl] at G_;rw[get hz Qf] at lk;rw[self] at lj;exact absurd (mk.trans G_.symm) (hf lj k z hz lk)
  .by_cases Qf:z=x
   .clear r hn hk;subst Qf
    obtain rfl:=LY K.Ib hz hx;rw[if_pos rfl] at mk;rw[if_neg hyx] at G_;rw[get hj hyx] at lj;rw[self] at lk;have gX:=Om lj;refine absurd (G_.trans mk.symm) (hf ?_ j y hj gX);cases t with
    |AQ=>exact Bp lk|DT l=>exact absurd rfl (na l)|v w=>exact Bp lk|Al l=>rfl
   .rw [if_neg hyx] at G_
    rw[if_neg Qf] at mk;rw[get hj hyx] at lj;rw[get hz Qf] at lk;exact F.SJ j y k z a hj hz lj lk G_ mk
theorem DW.aby(K:CL c env)(F:DW X c env ρ β h m)(hx:(i,x)∈c.Bt)(hk:c.Bc.lookup x=H .cell)(ha:env.cells.lookup x=H a)(hc:h'.IsCell a (H v))
  (hs:Hr a h h')(r:DH X β h' t v)(nl:Fo t=A1):DW X c env (Cq ρ i t) β h' m:=by
 obtain⟨o,es,ep,e',d,rr⟩:=F.ns;obtain⟨a0,w0,b1,⟨oc,b2,N_⟩,Yk,gY,g_⟩:=F.Gp i x hx hk;rw[ha] at b1;cases b1;have get:∀{j y},(j,y)∈c.Bt->y≠x->BD (Cq ρ i t) j=BD ρ j:=λ{j y} hy n=>MU λe=>n (by clear g_ gY;subst e;exact K.LU _ _ _ hy hx);have self:BD _ i=t:=NY (F.Aj▸K.lt i x hx);have ne:env.locals≠a:=λq=>by clear Yk hs hc ha;subst q;rw[e'] at b2;cases b2;rw[d] at N_;cases N_
 have ls:∀{j y},(j,y)∈c.Bt->Fo (BD (Cq ρ i t) j)=U->BD (Cq ρ i t) j=BD ρ j:=λ{j y} hy q=>by
  by_cases hyx:y=x
  .clear g_ gY ha hk;subst hyx
   obtain rfl:=LY K.Ib hy hx;rw[self,nl] at q;cases q
  .exact get hy hyx
 refine⟨⟨o,es,ep,(hs.2 _ ne).trans e',d,rr⟩,F.QR,F.SI,λj y hy hl=>?_,λj y hy hl=>?_,F.QS,λj y k z b hj hz lj lk G_ mk=>?_,by rw[Qd];exact F.Aj⟩
 .have hyx:y≠x:=λe=>by clear get ha hx;subst e;rw[hk] at hl;cases hl
  rw[get hy hyx]
  have:=F.Am j y hy hl;exact this.G5 b2 (V8 N_) hs.extBut (this.MV b2 (VB N_))
 .by_cases hyx:y=x
  .clear g_ gY hk;subst hyx
   obtain rfl:=LY K.Ib hy hx;refine⟨a,_,ha,hc,Yk,?_,by rw[self];exact nl⟩;rw[self];cases t with
   |AQ=>exact r.elim|DT l=>exact Bp nl.symm|v w=>exact⟨v,rfl,r⟩|Al l=>exact Bp nl.symm
  .obtain ⟨a',w,h1,⟨abz,h2,h3⟩,h4,h5,h6⟩:=F.Gp j y hy hl
   rw[get hy hyx];have ne':a'≠a:=λq=>hyx (F.QS y x a hl hk (q▸h1) ha);exact⟨a',w,h1,⟨abz,(hs.2 _ ne').trans h2,h3⟩,h4,h5.G5 b2 (V8 N_) hs.extBut (h5.MV b2 (VB N_)),h6⟩
 .have gX:=Om lj
  rw[ls hj gX] at lj;rw[ls hz lk] at lk;exact F.SJ j y k z b hj hz lj lk G_ mk
def rD(c:CY)(ρ:List T)(m:Str->Option AG)(t:T)(v:AG):Prop:=match t with
 |.v _=>True|.Al _=>∀j y,(j,y)∈c.Bt->Fo (BD ρ j)=U->m y≠H v|_=>False
theorem S_{v:AG}{E:AG->BS->Prop}(K:CL c env)(g:Dn X c env J8 Sa m0 s0 β ρ m A0 s)(hx:(i,x)∈c.Bt)(hk:c.Bc.lookup x=H .local\/(c.Bc.lookup x=H .cell/\Fo t=A1))(r:DH X β s.heap t v)
  (hf:rD c ρ m t v)(rE:MP t=U->∀a,v=.ref a->s0.heap.get? a=AB)
  (q:∀m' h' tk,Dn X c env J8 Sa m0 s0 β (Cq ρ i t) m' A0 {s with heap:=h',toks:=tk}->(∀d,¬Own c env d->∀o,s.heap.get? d=H o->h'.get? d=H o)->(∀y,y≠x->m' y=m y)->(c.Bc.lookup x=H .local->Hr env.locals s.heap h')->P Qa {s with heap:=h',toks:=tk}):wpAny X.M A (storeName env x v) P E s:=by
 have Qg:∀{ob:Obj} {d:BJ},s.heap.get? d=H ob->(∀xs n,ob≠FT xs n)->Fo t=U->v≠.ref d:=λ{ob d} e n q z=>by
  clear hk;subst z;cases t with
  |AQ=>exact Bp q|v w=>exact Bp q|Al l=>obtain⟨a,xs,ea,⟨k,ho⟩,_⟩:=r;cases ea;rw[e] at ho;exact n _ _ (BR ho)
  |DT l=>exact hf.elim
 have na:∀l,t≠.DT l:=λl e=>by clear Qg q rE r hk;subst e;exact hf
 have key:∀{d:BJ} {ob:Obj} {h':Ca} {m':Str->Option _},Own c env d->s.heap.get? d=H ob->J9 ob->(∀xs n,ob≠FT xs n)->Hr d _ h'->¬β.mut d->X.h₀.get? d=AB->(∃Yl,h'.get? d=H Yl)->
   DW X c env _ β h' m'->(∀b,MW c _ m' b->MW c ρ m b\/(MP t=U/\v=.ref b))->∀tk,Dn X c env J8 Sa m0 s0 β (Cq ρ i t) m' A0 {s with heap:=h',toks:=tk}:=λ{d ob h' m'} AA e lo nl hs nm h0 ex F hh tk=>by
  refine⟨g.st.G5 e nm lo h0 hs.extBut,F,g.le,λb o e1 n1 n2 n3=>?_,g.IC,λb hb=>?_,λb hb=>?_,by have a:=g.Hu;rw[a]⟩
  .have e2:=g.AX b o e1 n1 n2 n3
   exact(hs.2 b λz=>n2 (z▸AA)).trans e2
  .rcases hh b hb with z|⟨z1,z2⟩
   .exact g.SX b z
   .exact .inr (rE z1 b z2)
  .refine g.SY b ?_
   by_cases z:b=d
   .clear h0 nm hs e AA;subst z
    obtain⟨Yl,DN⟩:=ex;rw[DN] at hb;cases hb
   .exact (hs.2 b z).symm.trans hb
 obtain⟨o,es,ep,e',d,rr⟩:=g.fr.ns;rcases hk with hk|⟨hk,nl⟩
 .refine rF (by rw[K.HG];exact hk) g.fr.ns (λh' hn hs=>?_) (by rw[K.GV];rfl)
  have ht:=DH.G5 e' (LX d) hs.extBut (Qg e' (L_ d)) r;have F:=g.fr.abx K hx hk hn hs ht na (λq=>by cases t<;>first|exact Bp q|exact hf);refine q _ h' _ (key (.inl rfl) e' (LX d) (L_ d) hs g.fr.QR g.fr.SI (hn.elim λo2 y=>y.elim λu y=>y.elim λv y=>⟨o2,y.1⟩) F (λb hb=>?_) _) (λd hd o ho=>(hs.2 d λz=>hd (.inl z)).trans ho) (λy hy=>if_neg hy) λu=>hs;obtain⟨j,y,hy,lj,G_⟩:=hb;dsimp only at G_;by_cases hyx:y=x
  .clear key hn hk;subst hyx
   obtain rfl:=LY K.Ib hy hx;rw[NY (g.fr.Aj▸K.lt _ _ hx)] at lj;rw[if_pos rfl] at G_;exact .inr ⟨lj,BR G_⟩
  .rw [if_neg hyx] at G_
   rw[MU λe=>hyx (by clear lj F key q;subst e;exact K.LU _ _ _ hy hx)] at lj;exact .inl ⟨j,y,hy,lj,G_⟩
 .obtain ⟨a,w,h1,⟨oc,h2,h3⟩,h4,h5,h6⟩:=g.fr.Gp i x hx hk
  refine wpAny_storeName_cell K.GV (by rw[K.HG];exact hk) h1 ⟨oc,h2,h3⟩ λh' hc hs=>?_;have ht:=DH.G5 h2 (V8 h3) hs.extBut (Qg h2 (VB h3)) r;have F:=g.fr.aby K hx hk h1 hc hs ht nl;refine q m h' _ (key (.inr ⟨i,x,hx,hk,h1⟩) h2 (V8 h3) (VB h3) hs (g.st.NS h2 (pn h3)) h4 (hc.elim λo2 y=>⟨o2,y.1⟩) F (λb hb=>?_) _) (λd hd o ho=>(hs.2 d λz=>hd (z▸.inr ⟨i,x,hx,hk,h1⟩)).trans ho) (λy hy=>rfl) λe=>by rw[hk] at e;cases e
  obtain⟨j,y,hy,lj,G_⟩:=hb;refine .inl ⟨j,y,hy,?_,G_⟩;by_cases hyx:y=x
  .clear F h6 h5 key h1 hk;subst hyx
   obtain rfl:=LY K.Ib hy hx;rw[NY (g.fr.Aj▸K.lt _ _ hx)] at lj;exact Bp (nl.symm.trans (Om lj))
  .rwa [MU λe=>hyx (by clear lj F h6 h5 key q;subst e;exact K.LU _ _ _ hy hx)] at lj
end
section
variable{X:Cfg}{A0:A0}
theorem rG{E:AG->BS->Prop}(r:GI s.heap ik t x l i it)(q:P Qa s):wpAny X.M A (letOwnedTupleGo target (.ref it) v) P E s:=by
 obtain⟨o,n,vs,ho,hc,hd,hn⟩:=r.Ye;have go:∀T,wpAny X.M A (do
   let o <-load it
   match o.cls,o.data with
   |.type n,.fields vs=> if["enumerate","zip","dict_itemiterator","dict_reverseitemiterator","odict_iterator","itertools.zip_longest","itertools.pairwise"].contains n&&vs[0]?==H (rawInt T) then
     rule "for.unpacks-the-owned-tuple"
     updateField it 0 .none
   |_,_=>pure Qa) P E s:=λT=>by
  refine Ao (wpAny_load ho ?_);rw[hc,hd];dsimp only;rw[hn];exact Bg q
 have no:wpAny X.M A _ P E s:=Bg q;cases target with
 |Tuple l k p=>
  cases v with
  |ref T=>exact go T|_=>exact no
 |List l p=>
  cases v with
  |ref T=>exact go T|_=>exact no
 |_=>exact no
theorem rH(h:NO [i,j] x ρ=H ρ'):∃a b,x=.A3 [a,b]/\ρ'=Cq (Cq ρ i (.v a)) j (.v b):=by
 cases x with
 |A3 l=>cases l with
  |nil=>exact nn h|cons a l=>cases l with
   |nil=>exact nn h|cons b l=>cases l with
    |nil=>exact⟨a,b,rfl,(BR h).symm⟩|cons c l=>exact nn h
 |_=>exact nn h
set_option tactic.hygienic true in
theorem abA{v:AG}{E:AG->BS->Prop}(K:CL c env)(hA:A.handled=AB)(g:Dn X c env J8 Sa m0 s0 β ρ m A0 s)(ht:SE c Ac target=U)
  (hk:∀n∈JW target,c.Bc.lookup n=H .local\/c.Bc.lookup n=H .cell)(hb:NO Ac x ρ=H ρ')(r:BN X.G.AM β s.heap x v)
  (q:∀m' h' tk,Dn X c env J8 Sa m0 s0 β ρ' m' A0 {s with heap:=h',toks:=tk}->(∀d,¬Own c env d->∀o,s.heap.get? d=H o->h'.get? d=H o)->((∀n∈JW target,c.Bc.lookup n=H .local)->Ig env.locals s.heap h')->P Qa {s with heap:=h',toks:=tk}):wpAny X.M A (assign target env v) P E s:=by
 cases oj ht with
 |GG ht1=>
  rename_i i n p;cases hb;have hx:=IE ht1;refine Sb (S_ K g hx ((hk n D0).imp id λe=>⟨e,rfl⟩) (t:=.v x) r trivial nofun λm' h' tk g' k1 y k2=>q m' h' tk g' k1 λe=>(k2 (e n D0)).extBut)
 |YA h1 h2 h3=>
  rename_i i j k3 n n2 p p2 p3;obtain⟨a,b,rfl,rfl⟩:=rH hb
  .obtain ⟨ad,xs,rfl,ho,hl,rv⟩:=r
   obtain⟨y1,t1,rfl,r1,rv⟩:=rv;obtain⟨y2,t2,rfl,r2,rv⟩:=rv;clear hl;cases rv;refine wpAny_assign_Tuple hA ⟨_,ho,rfl,0,rfl⟩ rfl rfl λh₁ gb=>?_;have up:=λb o e=>gb b o (Na (NQ e)) e;have Oz:=(Go.BO g.st).AX up s.toks;have g1:=g.Aw (Dn.gW g.st g.fr Oz);refine rI (Sb (S_ K g1 (IE h1) ((hk n D0).imp id λe=>⟨e,rfl⟩) (t:=.v a) (BN.B5 g.st Oz.B5 r1) trivial nofun λm' h' tk g' k1 y k2=>?_));refine rI (Sb (S_ K g' (IE h2) ((hk n2 (DV _ D0)).imp id λe=>⟨e,rfl⟩) (t:=.v b) ?_ trivial nofun λm2 h2' Sc g2 l1 y l2=>?_))
   .refine (r2.Bo (λb xs e=>up _ _ e) (Af.le.BO _)).Bo (λb xs e=>k1 b (λAA=>?_) _ e) (Af.le.BO _)
    obtain⟨ob,e',lo,_⟩:=AA.G0 g1.fr;rw[show h₁.get? b=H _ from e] at e';exact lo.2 _ (BR e').symm
   .refine assignInOrder_nil (q m2 h2' Sc g2 (λd nd o e=>l1 d nd o (k1 d nd o (up d o e))) λe b o hb DN=>?_)
    exact(l2 (e n2 (DV _ D0))).extBut b o hb ((k2 (e n D0)).extBut b o hb (up b o DN))
def Hx(env:GS):List (Str×JV)->List (Str×BJ)->List (Str×BJ)
 |[],acc=>acc|(n,k)::r,acc=>if k==.free then Hx env r ((n,(env.cells.lookup n).getD 0)::acc) else Hx env r acc
theorem Ym:Hx env ((n,k)::r) acc=if k==.free then Hx env r ((n,(env.cells.lookup n).getD 0)::acc) else Hx env r acc:=rfl
theorem rJ(hc:∀(n:Str),(n,MX)∈sc.names->∃a,env.cells.lookup n=H a):closureFor sc env=pure (Hx env sc.names []):=by
 have key:∀(l:List _) (acc:List _),(∀n,(n,MX)∈l->∃a,env.cells.lookup n=H a)->
   (forIn l acc λx r=>(if(x.2==MX)=U then do let a <-cellOf env x.1;pure (S7 ((x.1,a)::r)) else pure (S7 r)))=(pure (Hx env l acc):Sem _):=by
  intro l;induction l with
  |nil=>intro acc _;rfl|cons p r ih=>
   intro acc hc;obtain⟨n,k⟩:=p;rw[S8];by_cases hk:(k==MX)=U
   .have hk':=beq_iff_eq.mp hk
    clear hk;subst hk';obtain⟨a,ha⟩:=hc n D0;have e:cellOf env n=(pure a):=by unfold cellOf;rw[ha]
    simp only[beq_self_eq_true,if_true,e,pure_bind];rw[ih _ λn h=>hc n (DV _ h)];simp[Ym,ha]
   .rw [if_neg hk,pure_bind]
    dsimp only;rw[ih _ λn h=>hc n (DV _ h)];simp[Ym,hk]
 exact(congrArg (λt:Sem _=>t>>=λcs=>pure cs) (key _ [] hc)).trans (pure_bind ..)
set_option tactic.hygienic true in
theorem abB:∀{acc:List (Str×BJ)},(∀x a,acc.lookup x=H a->env.cells.lookup x=H a)->(∀k,(k,MX)∈l->∃a,env.cells.lookup k=H a)->(∀x a,(Hx env l acc).lookup x=H a->env.cells.lookup x=H a):=by
 induction l with
 |nil=>intro acc h _;exact h|cons p r ih=>
  intro acc h hc;obtain⟨k,d⟩:=p;rw[Ym];split
  .rename_i hk
   have hk':=beq_iff_eq.mp hk;clear hk;subst hk';obtain⟨b,hb⟩:=hc k D0;refine ih (λx a e=>?_) λk h=>hc k (DV _ h);rw[Qh] at e;cases hx:x==k with
   |true=>rw[hx] at e;cases e;rw[beq_iff_eq.mp hx,hb];rfl
   |false=>rw[hx] at e;exact h x a e
  .exact ih h λk h=>hc k (DV _ h)
set_option tactic.hygienic true in
theorem abC:∀{l:List (Str×JV)} {acc:List (Str×BJ)},((n,MX)∈l\/(acc.lookup n).isSome=U)->((Hx env l acc).lookup n).isSome=U:=by
 intro BE;induction BE with
 |nil=>
  rintro acc h;rcases h with h|h
  .cases h
  .exact h
 |cons hd0 r ih=>
  rcases hd0 with⟨k,d⟩;rintro acc h;rw[Ym];split
  .refine ih ?_
   rcases h with h|h
   .rcases D4.mp h with e|e
    .cases e;right;simp
    .exact .inl e
   .right
    rw[Qh];cases hx:n==k with
    |true=>rfl|false=>exact h
  .rename_i hk
   refine ih ?_;rcases h with h|h
   .rcases D4.mp h with e|e
    .cases e;exact absurd rfl hk
    .exact .inl e
   .exact .inr h
end
theorem rK:∀{l:List (Str×JV)},(Es c l).lookup n=H k->∃k0,(n,k0)∈l/\k=(if k0==.free&&c.Bc.lookup n==H .cell then .cell else k0)
 |(a,d)::r,e=>by
  have e0:Es c ((a,d)::r)=(a,if d==.free&&c.Bc.lookup a==H .cell then JV.cell else d)::Es c r:=by unfold Es;rw[Hw];dsimp only;split<;>rfl
  rw[e0,Qh] at e;cases hx:n==a with
  |true=>
   rw[hx] at e;have e1:=BR e;obtain rfl:=beq_iff_eq.mp hx;exact⟨d,D0,e1.symm⟩
  |false=>
   rw[hx] at e;obtain⟨k0,h1,h2⟩:=rK e;exact⟨k0,DV _ h1,h2⟩
structure Sd(c:CY)(l:List (Str×JV)):Prop where
 gc:∀x∈l,x.2≠.cell
 loc:∀x∈l,x.2=.local->l.lookup x.1=H .local
 gf:∀n,(n,MX)∈l->c.Bc.lookup n=H .cell/\∃i,(i,n)∈c.Bt
theorem rL(h:Ul c l=U):Sd c l:=by
 unfold Ul at h;rw[Gm] at h;refine⟨λx hx=>?_,λx hx e=>?_,λn hn=>?_⟩
 .have:=h x hx
  simp only[Gq,bne_iff_ne] at this;exact this.1.1
 .have:=h x hx
  simp only[Gq,Bool.or_eq_true,bne_iff_ne,beq_iff_eq] at this;rcases this.1.2 with z|z
  .exact absurd e z
  .exact z
 .have:=h _ hn
  simp only[Gq,Bool.or_eq_true,bne_iff_ne,beq_iff_eq,List.any_eq_true] at this;rcases this.2 with z|z
  .exact absurd rfl z
  .obtain ⟨q,hq,e⟩:=z.2
   exact⟨z.1,q.1,by rw[<-e];exact hq⟩
set_option tactic.hygienic true in
theorem Yn(S:Sd c l)(h:(Es c l).lookup n=H .cell):(n,MX)∈l/\c.Bc.lookup n=H .cell:=by
 obtain⟨k0,h1,h2⟩:=rK h;split at h2
 .rename_i hb
  simp only[Gq,beq_iff_eq] at hb;rw[<-hb.1];exact⟨h1,hb.2⟩
 .subst h2
  exact absurd rfl (S.gc _ h1)
theorem rM(K:CL c env):(relabel sc env).names=Es c sc.names:=by refine Yo λx hx=>?_;simp only[K.GV,K.HG];rw[Bool.and_true]
structure P0(c:CY)(l:List (Str×JV))(Ac:List Nat)(t:AY):Prop where
 tgt:Kc (Et c l Ac t) Ac t
 Am:∀n∈JW t,(Es c l).lookup n=H .local
 Ib:Ht ((Et c l Ac t).Bt.map (·.2))=U
 LU:QN ((Et c l Ac t).Bt.map (·.1))=U
 sc:Sd c l
 lt:∀i∈Ac,i<c.ns
theorem Yp{n:Str}{Ac:List Nat}(h:(i,n)∈Ac.zip l):i∈Ac/\n∈l:=⟨(gg h).1,(gg h).2⟩
def E_(sc:Scope)(C:BJ)(env:GS):GS:=compEnvC sc (Hx env sc.names []) C env
theorem VC(K:CL c env)(Ai:P0 c sc.names Ac t)(hk:sc.kind=.function):CL (Et c sc.names Ac t) (E_ sc C env):=by
 refine⟨rM K,hk,K.fP,K.ph,Ai.Ib,λi x y=>gU Ai.LU,λi x hx=>?_,λi x hx=>?_⟩
 .rcases EY.mp hx with z|z
  .exact Ai.lt i (Yp z).1
  .exact K.lt i x (Se.mp z).1
 .rcases EY.mp hx with z|z
  .exact .inl (Ai.Am x (Yp z).2)
  .have:=(Se.mp z).2
   simp only[Gq,beq_iff_eq] at this;exact .inr this.2
theorem rN(hx:(i,x)∈(Et c l Ac t).Bt)(hk:(Es c l).lookup x=H .local):(i,x)∈Ac.zip (JW t):=by
 rcases EY.mp hx with z|z
 .exact z
 .have:=(Se.mp z).2
  simp only[Gq] at this;rw[hk] at this;cases this.2
theorem rO(Ai:P0 c l Ac t)(hx:(i,x)∈(Et c l Ac t).Bt)(hk:(Es c l).lookup x=H .cell):(i,x)∈c.Bt/\c.Bc.lookup x=H .cell/\i∉Ac:=by
 rcases EY.mp hx with z|z
 .have:=Ai.Am x (Yp z).2
  rw[hk] at this;cases this
 .have hz:=Se.mp z
  have h2:=hz.2;simp only[Gq,beq_iff_eq] at h2;refine⟨hz.1,h2.1,λhi=>?_⟩;have ht:=Ai.tgt;have other:∀n,(Et c l Ac t).Bt.lookup i=H n->(Es c l).lookup n=H .local->False:=λn e en=>by have:=gU Ai.LU (IE e) hx;clear h2 hz z hx;subst this;rw[hk] at en;cases en
  have key:∀{rP:List Nat} {t2:AY},Kc (Et c l Ac t) rP t2->i∈rP->∃n∈JW t2,(Et c l Ac t).Bt.lookup i=H n:=λht hi=>by
   cases ht with
   |GG h1=>exact⟨_,D0,EK.mp hi▸h1⟩|YA h1 h2 h3=>
    rcases D4.mp hi with e|hi
    .exact ⟨_,D0,e▸h1⟩
    .exact ⟨_,DV _ D0,EK.mp hi▸h2⟩
  obtain⟨n,m,e⟩:=key ht hi;exact other n e (Ai.Am n m)
theorem Yq(S:Sd c l)(F:DW X c env ρ β h m)(hk:(Es c l).lookup x=H .cell):∃a,(Hx env l []).lookup x=H a/\env.cells.lookup x=H a:=by
 obtain⟨h1,h2⟩:=Yn S hk;have all:∀k,(k,MX)∈l->∃a,env.cells.lookup k=H a:=λk hk=>by obtain⟨e1,i,hi⟩:=S.gf k hk;obtain⟨a,v,e,_⟩:=F.Gp i k hi e1;exact⟨a,e⟩
 have:=abC (env:=env) (acc:=[]) (.inl h1);obtain⟨a,ha⟩:=Yr.mp this;exact⟨a,ha,abB (λy y e=>by simp at e) all x a ha⟩
theorem abD(K:CL c env)(Ai:P0 c sc.names Ac t)(F:DW X c env ρ β h m)(hn:h.Ns C m2)(hm:¬β.mut C)(h0:X.h₀.get? C=AB)
  (hv:∀i n,(i,n)∈Ac.zip (JW t)->∃w z,BD r' i=.v w/\m2 n=H z/\BN X.G.AM β h w z)(ho:∀j,j∉Ac->BD r' j=BD ρ j)(hl:I r'=I ρ):
  DW X (Et c sc.names Ac t) (E_ sc C env) r' β h m2:=by
 have abE:∀{i x},(i,x)∈(Et c sc.names Ac t).Bt->(Es c sc.names).lookup x=H .local->Fo (BD r' i)=A1:=λ{i x} hx hk=>by obtain⟨w,z,e,_⟩:=hv i x (rN hx hk);rw[e];rfl
 refine⟨hn,hm,h0,λi x hx hk=>?_,λi x hx hk=>?_,λx y a hx hy ex ey=>?_,λi x j y a hi hj li lj mi G_=>?_,by rw[hl];exact F.Aj⟩
 .obtain ⟨w,z,e1,e2,r⟩:=hv i x (rN hx hk)
  rw[e1];exact⟨z,e2,r⟩
 .obtain ⟨h1,h2,h3⟩:=rO Ai hx hk
  obtain⟨a,ea,gS⟩:=Yq Ai.sc F hk;obtain⟨a2,v,e1,e2,e3,e4,e5⟩:=F.Gp i x h1 h2;rw[gS] at e1;cases e1;rw[ho i h3];exact⟨a,v,ea,e2,e3,e4,e5⟩
 .obtain ⟨_,x2⟩:=Yn Ai.sc hx
  obtain⟨_,y2⟩:=Yn Ai.sc hy;obtain⟨a1,b1,c1⟩:=Yq Ai.sc F hx;obtain⟨a2,b2,c2⟩:=Yq Ai.sc F hy;have ex:(Hx env sc.names []).lookup x=H a:=ex;have ey:(Hx env sc.names []).lookup y=H a:=ey;rw[b1] at ex;cases ex;rw[b2] at ey;clear ex b1;cases ey;exact F.QS x y _ x2 y2 c1 c2
 .exfalso
  have:∃k,(Es c sc.names).lookup x=H k/\(k=.local\/k=.cell):=by
   rcases EY.mp hi with z|z
   .exact ⟨_,Ai.Am x (Yp z).2,.inl rfl⟩
   .have:=(Se.mp z).2
    simp only[Gq,beq_iff_eq] at this;exact⟨_,this.2,.inr rfl⟩
  obtain⟨k,DX,rfl|rfl⟩:=this
  .have:=abE hi DX
   exact Bp (this.symm.trans (Om li))
  .obtain ⟨h1,h2,h3⟩:=rO Ai hi DX
   obtain⟨_,_,_,_,_,_,e5⟩:=F.Gp i x h1 h2;rw[ho i h3] at li;exact Bp (e5.symm.trans (Om li))
section
variable{X:Cfg}{β:Af}{s:BS}
set_option tactic.hygienic true in
theorem abF{E:AG->BS->Prop}(K:CL ci e2)(hA:A.handled=AB)(ht:Kc ci Ac target)
  (hk:∀n∈JW target,ci.Bc.lookup n=H .local)(hlt:∀i∈Ac,i<I ρ)(hb:NO Ac x ρ=H r')(r:BN X.G.AM β s.heap x y)(hn:s.heap.Ns e2.locals m)
  (q:∀m2 h2 tk,h2.Ns e2.locals m2->Ig e2.locals s.heap h2->(∀i n,(i,n)∈Ac.zip (JW target)->∃w z,BD r' i=.v w/\m2 n=H z/\BN X.G.AM β h2 w z)->(∀j,j∉Ac->BD r' j=BD ρ j)->I r'=I ρ->P Qa {s with heap:=h2,toks:=tk}):
  wpAny X.M A (assign target e2 y) P E s:=by
 obtain⟨ob,es,ep,e',d,_⟩:=id hn;have tk:∀{h2},Ig e2.locals s.heap h2->EX s.heap h2:=λ{h2} hs=>K7 e' (LX d) hs;cases ht with
 |GG h1=>
  rename_i i n p;cases hb;refine Sb (rF (by rw[K.HG];exact hk n D0) hn (λh2 hn2 hs=>?_) (by rw[K.GV];rfl));refine q _ h2 _ hn2 hs.extBut (λj n2 hj=>?_) (λj hj=>MU (by simpa using hj)) Qd;clear hn2 hk;obtain⟨rfl,rfl⟩:=Prod.mk.inj (EK.mp hj);exact⟨x,y,NY (hlt _ (by simp)),by simp,r.Bo (tk hs.extBut) (Af.le.BO _)⟩
 |YA h1 h2 h3=>
  rename_i i j k3 n n2 p p2 p3;have nn:n≠n2:=λe=>h3 (LY K.Ib (IE h1) (e▸IE h2));obtain⟨a,b,rfl,rfl⟩:=rH hb
  .obtain ⟨ad,xs,rfl,ho,hl,rv⟩:=r
   obtain⟨y1,t1,rfl,r1,rv⟩:=rv;obtain⟨y2,t2,rfl,r2,rv⟩:=rv;clear hl;cases rv;refine kcp_assign hA ⟨_,ho,rfl,0,rfl⟩ (by rw[K.HG];exact hk n D0) (by rw[K.HG];exact hk n2 (DV _ D0)) (by rw[K.GV];rfl) hn λh2' Sc hn2 kp=>?_;have ex:Ig e2.locals s.heap h2':=λb o hb e=>kp b o hb e;refine q _ h2' _ hn2 ex (λk n3 hj=>?_) (λk hk=>?_) (by rw[Qd,Qd])
   .have hj:(k,n3)∈[(i,n),(j,n2)]:=hj
    simp at hj;clear hn2 hk hb;rcases hj with⟨rfl,rfl⟩|⟨rfl,rfl⟩
    .refine ⟨a,y1,?_,by simp[nn],r1.Bo (tk ex) (Af.le.BO _)⟩
     rw[MU h3,NY (hlt _ (by simp))]
    .exact ⟨b,y2,NY (by rw[Qd];exact hlt _ (by simp)),by simp,r2.Bo (tk ex) (Af.le.BO _)⟩
   .simp at hk
    rw[MU hk.2,MU hk.1]
theorem DH.MV(r:DH X β h t x)(hd:h.get? d=H ob)(nl:∀xs n,ob≠FT xs n):Fo t=U->x≠.ref d:=λq e=>by
 subst e;cases t with
 |AQ=>exact Bp q|v w=>exact Bp q|Al l=>obtain⟨a,xs,ea,⟨n,ho⟩,_⟩:=r;cases ea;rw[hd] at ho;exact nl _ _ (BR ho)
 |DT l=>obtain⟨a,xs,ea,⟨n,ho⟩,_⟩:=r;cases ea;rw[hd] at ho;exact nl _ _ (BR ho)
theorem Go.VD(g:Go X β s A9 H1 s1)(hd:s1.heap.get? d=H ob)(hm:¬A9.mut d)(hl:J9 ob)(h0:s.heap.get? d=AB)(hh:X.h₀.get? d=AB)
  (hs:Ig d s1.heap h')(tk:Nat):Go X β s A9 H1 {s1 with heap:=h',toks:=tk}:=
 ⟨g.st.G5 hd hm hl hh hs,⟨g.B5.le,λb o e n=>hs _ _ (λq=>by clear hs hh hm hd;subst q;rw[h0] at e;cases e) (g.B5.AX b o e n),g.B5.IC⟩,by have a:=g.Hu;rw[a]⟩
section
variable(X)(s)(β)(ik:FG)(t:T)(x:AG)(l:List V)(it D C:BJ)
structure Qi:Prop where
 P1:s.heap.get? it=AB
 MY:s.heap.get? D=AB
 C1:s.heap.get? C=AB
 Sf:X.h₀.get? it=AB
 M_:X.h₀.get? D=AB
 Ch:X.h₀.get? C=AB
 abG:Fo t=U->x≠.ref D
structure GJ(i:Nat)(acc:List V)(ys:List AG)(A9:Af)(H1:Internal.A0)(m1:Str->Option AG)(s':BS):Prop where
 go:Go X β s A9 H1 s'
 Ma:GI s'.heap ik t x l i it
 tr:DH X A9 s'.heap t x
 pl:F0 s'.heap D ys
 rv:C5 X.G.AM A9 s'.heap acc ys
 Dp:¬A9.mut D
 ns:s'.heap.Ns C m1
 cm:¬A9.mut C
 le:I acc<=BU
end
theorem GJ.VE(g:GJ X β s ik t x l it D C i acc ys A9 H1 m1 s'):¬A9.mut it:=by obtain⟨o,_,vs,ho,_,hd,_⟩:=g.Ma.Ye;exact g.go.st.NS ho (gO hd)
theorem GJ.B5(g:GJ X β s ik t x l it D C i acc ys A9 H1 m1 s')(P:Go X A9 s' Br H2 s2):GJ X β s ik t x l it D C i acc ys Br H2 m1 s2:=by obtain⟨n,pl⟩:=g.pl;obtain⟨o,es,ep,e',d⟩:=g.ns;exact⟨g.go.Aw P,g.Ma.AX λo e=>P.B5.AX _ _ e g.VE,g.tr.B5 g.go.st P.B5,⟨n,P.B5.AX _ _ pl g.Dp⟩,g.rv.B5 g.go.st P.B5,P.B5.Of pl g.Dp,⟨o,es,ep,P.B5.AX _ _ e' g.cm,d⟩,P.B5.Of e' g.cm,g.le⟩
theorem GI.Qj(r:GI h ik t x l i it):∃ob vs,h.get? it=H ob/\ob.data=.fields vs:=by obtain⟨ob,n,vs,h1,_,h3,_⟩:=r.Ye;exact⟨ob,vs,h1,h3⟩
theorem GJ.abH(k:Qi X s t x it D C)(g:GJ X β s ik t x l it D C i acc ys A9 H1 m1 s')(hs:Ig it s'.heap h')(r:GI h' ik t x l j it)(tk:Nat):GJ X β s ik t x l it D C j acc ys A9 H1 m1 {s' with heap:=h',toks:=tk}:=by
 obtain⟨ob,vs,ho,hd⟩:=g.Ma.Qj;obtain⟨n,pl⟩:=g.pl;obtain⟨o,es,ep,e',d⟩:=g.ns;have lo:=gT hd;have P3:D≠it:=λq=>by rw[q,ho] at pl;exact Qe hd _ _ (BR pl)
 have Mb:C≠it:=λq=>by clear P3 r hs g k;subst q;rw[ho] at e';cases e';rw[hd] at d;cases d.1
 exact⟨g.go.VD ho g.VE lo k.P1 k.Sf hs tk,r,g.tr.G5 ho lo hs (g.tr.MV ho (Qe hd)),⟨n,hs _ _ P3 pl⟩,g.rv.Bo (K7 ho lo hs) (Af.le.BO _),g.Dp,⟨o,es,ep,hs _ _ Mb e',d⟩,g.cm,g.le⟩
theorem GJ.abI(k:Qi X s t x it D C)(g:GJ X β s ik t x l it D C i acc ys A9 H1 m1 s')(hs:Ig C s'.heap h')(hn:h'.Ns C m2)(tk:Nat):GJ X β s ik t x l it D C i acc ys A9 H1 m2 {s' with heap:=h',toks:=tk}:=by
 obtain⟨ob,vs,ho,hd⟩:=g.Ma.Qj;obtain⟨n,pl⟩:=g.pl;obtain⟨o,es,ep,e',d,rr⟩:=g.ns;have lo:=LX d;have P3:D≠C:=λq=>by rw[q,e'] at pl;exact L_ d _ _ (BR pl)
 have Mb:it≠C:=λq=>by clear P3 hn hs g k;subst q;rw[ho] at e';clear lo;cases e';rw[hd] at d;cases d
 exact⟨g.go.VD e' g.cm lo k.C1 k.Ch hs tk,g.Ma.AX λo e=>hs _ _ Mb e,g.tr.G5 e' lo hs (g.tr.MV e' (L_ d)),⟨n,hs _ _ P3 pl⟩,g.rv.Bo (K7 e' lo hs) (Af.le.BO _),g.Dp,hn,g.cm,g.le⟩
theorem GJ.app(k:Qi X s t x it D C)(g:GJ X β s ik t x l it D C i acc ys A9 H1 m1 s')(hs:Hr D s'.heap h')(hp:F0 h' D (ys++[y]))(r:BN X.G.AM A9 s'.heap w y)(hb:I acc<BU):GJ X β s ik t x l it D C i (acc++[w]) (ys++[y]) A9 H1 m1 {s' with heap:=h'}:=by
 obtain⟨ob,vs,ho,hd⟩:=g.Ma.Qj;obtain⟨n,pl⟩:=g.pl;obtain⟨o,es,ep,e',d,rr⟩:=g.ns;have lo:J9 (FT ys n):=V9;have Mb:C≠D:=λq=>by rw[<-q,e'] at pl;exact L_ d _ _ (BR pl)
 have abJ:it≠D:=λq=>by clear Mb hp hs g k;subst q;rw[ho] at pl;exact Qe hd _ _ (BR pl)
 have tk:=K7 pl lo hs.extBut;exact⟨g.go.VD pl g.Dp lo k.MY k.M_ hs.extBut _,g.Ma.AX λo e=>hs.extBut _ _ abJ e,g.tr.G5 pl lo hs.extBut k.abG,hp,(g.rv.Bo tk (Af.le.BO _)).Xg ⟨y,[],rfl,r.Bo tk (Af.le.BO _),rfl⟩,g.Dp,⟨o,es,ep,hs.extBut _ _ Mb e',d,rr⟩,g.cm,by rw[El];exact hb⟩
end
section
variable{A0:A0}
inductive Ys(X:Cfg)(β:Af)(s:BS)(Q:List V->Internal.A0->Prop)(acc:AG)(C:BJ)(s':BS):Prop
 |mk (l:List V) (H':Internal.A0) (β':Af) (D:BJ) (ys:List AG) (e:acc=.ref D) (q:Q l H') (g:Go X β s β' H' s') (p:F0 s'.heap D ys) (r:C5 X.G.AM β' s'.heap l ys) (Sg:¬β'.mut D) (b:I l<=BU) (n:∃m,s'.heap.Ns C m) (Yt:¬β'.mut C) (c1:s.heap.get? C=AB) (c2:X.h₀.get? C=AB) (d1:s.heap.get? D=AB) (d2:X.h₀.get? D=AB)
section
variable{ik:FG}{bv:V}{l:List V}{i:Nat}{acc:List V}{ys:List AG}{A9:Af}{H1:Internal.A0}{m1:Str->Option AG}{s':BS}{Ja:List V->Internal.A0->Prop}
 {HK:List T->Internal.A0->(T->Internal.A0->Prop)->Prop}{GK:List T->Internal.A0->(Bool->Internal.A0->Prop)->Prop}{E:AG->BS->Prop}
abbrev K8(HK:List T->Internal.A0->(T->Internal.A0->Prop)->Prop)(GK:List T->Internal.A0->(Bool->Internal.A0->Prop)->Prop)(Ac:List Nat)(ik:FG)(t:T)(bv:V)(l:List V)(ρ:List T)(Ja:List V->Internal.A0->Prop)(i:Nat)(H1:Internal.A0)(acc:List V):Prop:=
 QC HK GK Ac (λh'=>Gl h' ik t bv l) (l.drop i) ρ H1 acc Ja
theorem rQ(hA:A.handled=AB)(K:CL c env)(Ai:P0 c sc.names Ac target)(hk:sc.kind=.function)(S:Bh X β A0 s.heap)(F:DW X c env ρ β s.heap m)(k:Qi X s t x it D C)
  (g:GJ X β s ik t x l it D C i acc ys A9 H1 m1 s')(w:K8 HK GK Ac ik t bv l ρ Ja i H1 acc):
  wpAny X.M A (pyNext (.ref it)) (λr s1=>match r with
   |none=>Ys X β s Ja (.ref D) C s1|some v=>wpAny X.M A (letOwnedTupleGo target (.ref it) v) (λu s0=>wpAny X.M A (assign target (E_ sc C env) v) (λu s2=>∃r' m2,GJ X β s ik t x l it D C (i+1) acc ys A9 H1 m2 s2/\DW X (Et c sc.names Ac target) (E_ sc C env) r' A9 s2.heap m2/\i<I l/\I acc<BU/\ GK r' H1 λb h1=>if b then HK r' h1 λt' h2=>opt t'.Av λy=>K8 HK GK Ac ik t bv l ρ Ja (i+1) h2 (acc++[y]) else K8 HK GK Ac ik t bv l ρ Ja (i+1) h1 acc) E s0) E s1) AP s':=by
 have st:Gl H1 ik t bv l:=by unfold K8 at w;cases hd:l.drop i<;>rw[hd] at w<;>exact w.1
 refine rA hA g.go.st g.Ma g.tr st (λv y h' tk e r z hs=>?_) λe h' tk hs=>?_
 .have hi:=(Dd.mp e).1
  have hd:l.drop i=v::l.drop (i+1):=by rw[rR hi];rw[DP hi] at e;rw[BR e]
  unfold K8 at w;rw[hd] at w;obtain⟨_,hb,r',Bx,w⟩:=w;have g1:=g.abH k hs z tk;refine rG z ?_;refine abF (VC K Ai hk) hA Ai.tgt Ai.Am (λj hj=>F.Aj▸Ai.lt j hj) Bx (BN.Bo (EX.BO _) (Af.le.BO _) r) g1.ns λm2 h2 Sc hn2 hs2 hv ho hl=>?_;have g2:=g1.abI k hs2 hn2 Sc;refine⟨r',m2,g2,?_,hi,hb,w⟩;exact abD K Ai (F.B5 S g2.go.B5) hn2 g2.cm k.Ch hv ho hl
 .have hd:=rS (Yh.mp e)
  unfold K8 at w;rw[hd] at w;obtain⟨_,w⟩:=w;obtain⟨ob,vs,ho,hdt⟩:=g.Ma.Qj;obtain⟨n,pl⟩:=g.pl;obtain⟨o,es,ep,e',d⟩:=g.ns;have lo:=gT hdt;have P3:D≠it:=λq=>by rw[q,ho] at pl;exact Qe hdt _ _ (BR pl)
  have Mb:C≠it:=λq=>by clear P3 hs g k;subst q;rw[ho] at e';cases e';rw[hdt] at d;cases d.1
  exact⟨acc,H1,A9,D,ys,rfl,w,g.go.VD ho g.VE lo k.P1 k.Sf hs tk,⟨n,hs _ _ P3 pl⟩,g.rv.Bo (K7 ho lo hs) (Af.le.BO _),g.Dp,g.le,⟨m1,o,es,ep,hs _ _ Mb e',d⟩,g.cm,k.C1,k.Ch,k.MY,k.M_⟩
theorem abK(k:Qi X s t x it D C)(g:GJ X β s ik t x l it D C (i+1) acc ys A9 H1 m1 s')(hb:I acc<BU)
  (hE:∀Q',HK r' H1 Q'->wpAny X.M A (eval Y (E_ sc C env)) (Post X A9 s' A1 Q') AP s')(w:HK r' H1 λt' h2=>opt t'.Av λy=>K8 HK GK Ac ik t bv l ρ Ja (i+1) h2 (acc++[y])):
  wpAny X.M A (eval Y (E_ sc C env)) (λy s4=>wpAny X.M A (call (.builtin "list.append") [.ref D,y]) (λz s5=>∃acc' ys' β' H' m',GJ X β s ik t x l it D C (i+1) acc' ys' β' H' m' s5/\K8 HK GK Ac ik t bv l ρ Ja (i+1) H' acc') E s4) E s':=by
 refine LV (hE _ w) λy s4 q=>?_;obtain⟨t',H2,Br,⟨v,ev,w⟩,r,P,-⟩:=q;obtain rfl:=T.Ic ev;have g2:=g.B5 P;obtain⟨n,pl⟩:=g2.pl;have hsz:ys.toArray.size<=sizeLine:=by
  have:=g2.rv.Cy
  have:=J4;exact QJ 1 A2 A7 1 BB Aa 1 Aa Er A2 Er A4 [I ys,I acc,BU,sizeLine] (BQ (by assumption)) hb this
 refine rT (hsz:=hsz) ⟨n,pl⟩ λh' hp hs=>?_;have Nb:F0 h' D (ys++[y]):=by obtain⟨n',e⟩:=hp;refine⟨n',?_⟩;rw[e];simp[FT]
 exact⟨_,_,Br,H2,m1,g2.app k hs Nb r hb,w⟩
theorem abL{iter:AY}{pos:Pos}{R:Result->BS->Prop}(hA:A.handled=AB)(K:CL c env)(Ai:P0 c sc.names Ac target)(hk:sc.kind=.function)(S:Bh X β A0 s.heap)(F:DW X c env ρ β s.heap m)(k:Qi X s t x it D C)
  (hE:∀m2 r' A9 H1 s1 Q',Bh X A9 H1 s1.heap->DW X (Et c sc.names Ac target) (E_ sc C env) r' A9 s1.heap m2->HK r' H1 Q'->wpAny X.M A (eval Y (E_ sc C env)) (Post X A9 s1 A1 Q') AP s1)
  (hC:(ifs=[]/\∀r' H1 Q',GK r' H1 Q'->Q' U H1)\/(∃z,ifs=[z]/\∀m2 r' A9 H1 s1 Q',Bh X A9 H1 s1.heap->DW X (Et c sc.names Ac target) (E_ sc C env) r' A9 s1.heap m2->GK r' H1 Q'->
   wpAny X.M A (isTrue z (E_ sc C env) (eval z (E_ sc C env))) (FW X A9 s1 λt h=>match t with|.v (.Au b)=>Q' b h|_=>False) AP s1))
  (hR:∀s1,Ys X β s Ja (.ref D) C s1->R (.ok .next) s1)
  (g:GJ X β s ik t x l it D C i acc ys A9 H1 m1 s')(hi:i<=I l)(w:K8 HK GK Ac ik t bv l ρ Ja i H1 acc):
  codeAny X.M A (.compLoop (.ListComp Y [⟨target,iter,ifs,0⟩] sc pos) 0 (.ref it) (.ref D) (E_ sc C env)) R s':=by
 let Inv:Nat->BS->Prop:=λn s'=>∃i acc ys A9 H1 m1,n+i=I l/\GJ X β s ik t x l it D C i acc ys A9 H1 m1 s'/\K8 HK GK Ac ik t bv l ρ Ja i H1 acc
 have tail:∀{i acc ys A9 H1 m1 s' r'} {E':AG->BS->Prop} (n:Nat),n+i=I l->i<I l->GJ X β s ik t x l it D C _ acc ys A9 H1 m1 s'->DW X _ _ r' A9 _ m1->I acc<BU->(HK r' H1 λt' h2=>opt _ λy=>K8 HK GK Ac ik t bv l ρ Ja (i+1) h2 _)->
   wpAny X.M A _ (λy s4=>wpAny X.M A _ (λu s5=>∃m,m<n/\Inv m s5) E' s4) E' s':=λ{i acc ys A9 H1 m1 s' r' E'} n hn hi g2 P4 hb w=>by
  refine HH (abK k g2 hb (λQ' q=>hE m1 r' A9 H1 s' Q' g2.go.st P4 q) w) (λy s4 q=>?_) λu u e=>e;refine HH q (λu s5 q=>?_) λu u e=>e;obtain⟨acc',ys',β',H',m',g3,w3⟩:=q;exact⟨n-1,(BG 1 AI A7 AI A7 A4 [n-1,n] (K3 (By 1 AI A7 1 A7 (.a Aa A2) AF Aa A4 [i,I l,n] hi (BQ hn.symm)))),i+1,acc',ys',β',H',m',(Fl (By 1 AI A7 1 (.a A7 Aa) Er (.a A2 Cz) Er A4 [n-1,n,i,I l] (K3 (By 1 AI A7 1 A7 (.a Aa A2) AF Aa A4 [i,I l,n] hi (BQ hn.symm))) (BQ hn)) (By 1 A2 (.a A7 Aa) 1 A7 Ob A2 (.a Er Cz) A4 [I l,n,i,n-1] (BQ hn.symm) (LN n 1))),g3,w3⟩
 rcases hC with⟨rfl,hC⟩|⟨z,rfl,hC⟩
 .refine kcp_loop Inv (λn s' hI=>?_) (I l-i) ⟨i,acc,ys,A9,H1,m1,(Fl (BG 1 (.a A2 A7) Aa (.a A2 A7) Aa A4 [I l-i,i,I l] (K3 (BG 1 A2 A7 A2 A7 A4 [i,I l] hi))) (BG 1 A2 (.a A7 Aa) A2 (.a A7 Aa) A4 [I l,I l-i,i] (LN (I l) i))),g,w⟩
  obtain⟨i,acc,ys,A9,H1,m1,hn,g,w⟩:=hI;refine LV (rQ (E:=notedBy (model X.Gn X.w) A (E_ sc C env) λe s'=>R (.error e) s') hA K Ai hk S F k g w) λr s1 q=>?_;cases r with
  |none=>exact hR _ q|some v=>
   refine HH q (λu s0 q=>HH q (λu s2 q=>?_) λu u e=>e) λu u e=>e;obtain⟨r',m2,g2,P4,hi,hb,w⟩:=q;exact tail n hn hi g2 P4 hb ((if_pos rfl).mp (hC _ _ _ w))
 .refine kct_loop Inv (λn s' hI=>?_) (I l-i) ⟨i,acc,ys,A9,H1,m1,(Fl (BG 1 (.a A2 A7) Aa (.a A2 A7) Aa A4 [I l-i,i,I l] (K3 (BG 1 A2 A7 A2 A7 A4 [i,I l] hi))) (BG 1 A2 (.a A7 Aa) A2 (.a A7 Aa) A4 [I l,I l-i,i] (LN (I l) i))),g,w⟩
  obtain⟨i,acc,ys,A9,H1,m1,hn,g,w⟩:=hI;refine LV (rQ (E:=notedBy (model X.Gn X.w) A (E_ sc C env) λe s'=>R (.error e) s') hA K Ai hk S F k g w) λr s1 q=>?_;cases r with
  |none=>exact hR _ q|some v=>
   refine HH q (λu s0 q=>HH q (λu s2 q=>?_) λu u e=>e) λu u e=>e;obtain⟨r',m2,g2,P4,hi,hb,w⟩:=q;refine LV (hC m2 r' A9 H1 s2 _ g2.go.st P4 w) λb s3 q=>?_;obtain⟨H2,Br,q,P⟩:=q;have g3:=g2.B5 P;have Yu:=P4.B5 g2.go.st P.B5;cases b with
   |true=>
    exact tail n hn hi g3 Yu hb ((if_pos rfl).mp q)
   |false=>
    exact⟨n-1,(BG 1 AI A7 AI A7 A4 [n-1,n] (K3 (By 1 AI A7 1 A7 (.a Aa A2) AF Aa A4 [i,I l,n] hi (BQ hn.symm)))),i+1,acc,ys,Br,H2,m2,(Fl (By 1 AI A7 1 (.a A7 Aa) Er (.a A2 Cz) Er A4 [n-1,n,i,I l] (K3 (By 1 AI A7 1 A7 (.a Aa A2) AF Aa A4 [i,I l,n] hi (BQ hn.symm))) (BQ hn)) (By 1 A2 (.a A7 Aa) 1 A7 Ob A2 (.a Er Cz) A4 [I l,n,i,n-1] (BQ hn.symm) (LN n 1))),g3,(if_neg rU).mp q⟩
end
theorem rV{Ac:List Nat}{target:AY}{ifs:List AY}{GK:List T->Internal.A0->(Bool->Internal.A0->Prop)->Prop}(hs:∀x,foldedSetIterable it env x=pure x)
  (hA:A.handled=AB)(K:CL c env)(Ai:P0 c sc.names Ac target)(hk:sc.kind=.function)(S:Bh X β A0 s.heap)(F:DW X c env ρ β s.heap m)
  (hE:∀C m2 r' A9 H1 s1 Q',Bh X A9 H1 s1.heap->DW X (Et c sc.names Ac target) (E_ sc C env) r' A9 s1.heap m2->HK r' H1 Q'->wpAny X.M A (eval Y (E_ sc C env)) (Post X A9 s1 A1 Q') AP s1)
  (hC:(ifs=[]/\∀r' H1 Q',GK r' H1 Q'->Q' U H1)\/(∃z,ifs=[z]/\∀C m2 r' A9 H1 s1 Q',Bh X A9 H1 s1.heap->DW X (Et c sc.names Ac target) (E_ sc C env) r' A9 s1.heap m2->GK r' H1 Q'->
   wpAny X.M A (isTrue z (E_ sc C env) (eval z (E_ sc C env))) (FW X A9 s1 λt h=>match t with|.v (.Au b)=>Q' b h|_=>False) AP s1))
  (hI:wpAny X.M A (eval it env) (λx s1=>wpAny X.M A (pyIter x) (gQ X β s ik λt bv l H2=>K8 HK GK Ac ik t bv l ρ Ja 0 H2 []) AP s1) AP s)
  (hP:∀acc C s1,Ys X β s Ja acc C s1->compPost X.M A AP use P acc C (.ok .next) s1):
  wpAny X.M A (comprehension (.ListComp Y [⟨target,it,ifs,0⟩] sc pos) sc env p2 (newList []) A1 (eval it env) use) P AP s:=by
 have free:∀n,(n,MX)∈sc.names->∃a,env.cells.lookup n=H a:=λn hn=>by obtain⟨e1,i,hi⟩:=Ai.sc.gf n hn;obtain⟨a,v,e,_⟩:=F.Gp i n hi e1;exact⟨a,e⟩
 refine wpAny_comprehension_free rfl hs (rJ free) hk (λx hx e=>Ai.sc.loc x hx e) ?_;refine BY hI λx s1 q=>BY q λitv s2 q=>?_;obtain⟨ita,t,bv,l,H2,Br,x,rfl,w,its,tr,g,P1⟩:=q;obtain⟨hh,DQ,dd,tt,os⟩:=s2;refine g8 (wpAny_newFunctionEnv Ai.sc.gc (by intro y hy;simp at hy) (λh₁ Qk Ql=>?_) hk);generalize P5:hh.push _=h2 at Qk Ql⊢;have VF:h2.objs.size=hh.objs.size+1:=by rw[<-P5,Ur]
 have up:=λb o e=>Ql.extBut b o (by rw[VF];exact Na (gh (NQ e))) (GW _ (P5▸GW _ e));have hD:=Ql.extBut _ _ (by rw[VF];exact Na (Nat.lt_succ_self _)) (GW _ (P5▸J6 _ rfl));have Sg:=J0 hh;have Yt:hh.get? h2.objs.size=AB:=by
  cases e:hh.get? _ with
  |none=>rfl|some o=>exact absurd (NQ e) (by rw[VF];exact NT.mpr (SO _))
 have Oz:=(Go.BO g.st).AX up tt;have old:∀{a},hh.get? a=AB->s.heap.get? a=AB/\X.h₀.get? a=AB:=λ{a} e=>⟨g.QV e,LM g.st.G1 e⟩;have Sf:X.h₀.get? ita=AB:=by
  cases e:X.h₀.get? ita with
  |none=>rfl|some o=>exact absurd (S.G1 _ _ e) (by rw[P1];nofun)
 have k:Qi X s t x ita ..:=⟨P1,(old Sg).1,(old Yt).1,Sf,(old Sg).2,(old Yt).2,λq z=>by
  have r:=tr;clear w;subst z;cases t with
  |AQ=>exact Bp q|v w=>exact Bp q|Al l=>obtain⟨a,xs,ea,⟨n,ho⟩,_⟩:=r;cases ea;rw[Sg] at ho;cases ho
  |DT l=>obtain⟨a,xs,ea,⟨n,ho⟩,_⟩:=r;cases ea;rw[Sg] at ho;cases ho⟩
 have nm:∀{a},hh.get? a=AB->¬Br.mut a:=λ{a} e q=>by obtain⟨ob,e',_⟩:=g.st.LR q;rw[e] at e';cases e'
 have g0:GJ X β s ik t x l ita _ h2.objs.size 0 [] [] Br H2 (λx=>([]).reverse.lookup x) ⟨h₁,DQ,dd,_,os⟩:=
  ⟨(g.Aw Oz).G2 _,its.AX λo e=>up _ o e,tr.B5 g.st Oz.B5,⟨0,hD⟩,rfl,nm Sg,Qk,nm Yt,D3 _⟩
 have lp:=abL (iter:=it) (pos:=pos) hA K Ai hk S F k (hE _) (hC.imp id λx=>x.elim λz y=>⟨z,y.1,y.2 _⟩) (λs1 q=>hP _ _ s1 q) g0 (D3 _) w;exact codeAny_compStart_list lp (abu g0.Ma lp)
theorem abM(hs:∀x,foldedSetIterable it env x=pure x)
  (hA:A.handled=AB)(K:CL c env)(Ai:P0 c sc.names Ac target)(hk:sc.kind=.function)(S:Bh X β A0 s.heap)(F:DW X c env ρ β s.heap m)
  (hE:∀C m2 r' A9 H1 s1 Q',Bh X A9 H1 s1.heap->DW X (Et c sc.names Ac target) (E_ sc C env) r' A9 s1.heap m2->HK r' H1 Q'->wpAny X.M A (eval Y (E_ sc C env)) (Post X A9 s1 A1 Q') AP s1)
  (hC:(ifs=[]/\∀r' H1 Q',GK r' H1 Q'->Q' U H1)\/(∃z,ifs=[z]/\∀C m2 r' A9 H1 s1 Q',Bh X A9 H1 s1.heap->DW X (Et c sc.names Ac target) (E_ sc C env) r' A9 s1.heap m2->GK r' H1 Q'->
   wpAny X.M A (isTrue z (E_ sc C env) (eval z (E_ sc C env))) (FW X A9 s1 λt h=>match t with|.v (.Au b)=>Q' b h|_=>False) AP s1))
  (hI:wpAny X.M A (eval it env) (λx s1=>wpAny X.M A (pyIter x) (gQ X β s ik λt bv l H2=>K8 HK GK Ac ik t bv l ρ (λvs h3=>Q (.Al vs) h3) 0 H2 []) AP s1) AP s):
  wpAny X.M A (eval (.ListComp Y [⟨target,it,ifs,0⟩] sc pos) env) (Post X β s fr Q) AP s:=by
 refine rV hs hA K Ai hk S F hE hC hI λacc C s1 q=>?_;obtain⟨l,H',β',D,ys,rfl,w,g,⟨n,pl⟩,rv,Dp,le,⟨m1,hn⟩,cm,C1,Ch,MY,M_⟩:=q;refine⟨m1,hn,λh' hs=>?_⟩;obtain⟨o,es,ep,e',d,_⟩:=hn;have ne:D≠C:=λq=>by rw[q,e'] at pl;exact L_ d _ _ (BR pl)
 exact⟨_,H',β',w,⟨D,ys,rfl,⟨n,hs.extBut _ _ ne pl⟩,rv.Bo (K7 e' (LX d) hs.extBut) (Af.le.BO _),le,Dp,M_⟩,g.VD e' cm (LX d) C1 Ch hs.extBut _,λy l' e=>⟨D,rfl,MY⟩⟩
end
def G6{α:Type}(n:Nat)(P:α->Prop):KasT α->Prop
 |.ret a=>P a|.ask i j k=>i<n/\j<n/\∀b,G6 n P (k b)
theorem G6.C2{n:Nat}{P:α->Prop}{R:γ->Prop}{f:α->KasT γ}(hf:∀a,P a->G6 n R (f a)):∀{t:KasT α},G6 n P t->G6 n R (t.bind f)
 |.ret a,h=>hf a h|.ask i j k,h=>⟨h.1,h.2.1,λb=>G6.C2 hf (h.2.2 b)⟩
def PP(n:Nat)(p:Array Nat):Prop:=p.Perm (Ey n).toArray
theorem PP.Dh(h:PP n p)(hn:0<n)(i:Nat):p.getD i 0<n:=by
 by_cases hi:i<p.size
 .have e:p.getD i 0=p[i]:=by simp[Array.getD,hi]
  rw[e]
  have:=h.mem_iff.mp (Array.getElem_mem hi);simpa using this
 .have e:p.getD i 0=0:=by simp[Array.getD,hi]
  rw[e];exact hn
section
variable(hn:0<n)
include hn
theorem gi(h:PP n p):∀f k,G6 n (λx=>True) (kas_asc p f k)
 |0,k=>trivial|f+1,k=>⟨h.Dh hn _,h.Dh hn _,λb=>by
  dsimp only;split
  .trivial
  .exact gi h f _⟩
theorem VG(h:PP n p)(i j:Nat):PP n (kas_rev p i j):=(mirror_perm ..).trans h
theorem Yv:∀(f:Nat) {p:Array Nat} (h:PP n p) (k q:Nat),G6 n (λr=>PP n r.1) (kas_desc f p k q)
 |0,p,h,k,q=>h|f+1,p,h,k,q=>⟨h.Dh hn _,h.Dh hn _,λb=>by
  dsimp only;split
  .split
   .exact Yv f (VG hn h ..) ..
   .exact Yv f h ..
  .refine ⟨h.Dh hn _,h.Dh hn _,λd=>?_⟩
   dsimp only;split
   .exact h
   .exact Yv f h ..⟩
theorem rW(h:PP n p)(k r:Nat):G6 n (λr=>PP n r.2) (kas_tail3 k r p):=
by refine G6.C2 (λa x=>?_) (gi hn (VG hn h ..) ..);exact VG hn h ..
theorem rX(h:PP n p)(k r:Nat):G6 n (λr=>PP n r.2) (kas_descPart k r p):=by
 refine G6.C2 (λa ha=>?_) (Yv hn _ h ..);split
 .exact rW hn (VG hn ha ..) ..
 .exact rW hn ha ..
theorem abN(h:PP n p)(r:Nat):G6 n (λr=>PP n r.2) (kas_count r p):=by
 refine G6.C2 (λa x=>?_) (gi hn h ..);split
 .exact h
 .split
  .refine ⟨h.Dh hn _,h.Dh hn _,λb=>?_⟩
   dsimp only;split
   .exact h
   .exact rX hn (VG hn h ..) ..
  .exact rX hn h ..
theorem gj(h:PP n p)(k:Nat):∀f l r,G6 n (λx=>True) (kas_place p k f l r)
 |0,l,r=>trivial|f+1,l,r=>by
  unfold kas_place;split
  .trivial
  .refine ⟨h.Dh hn _,h.Dh hn _,λb=>?_⟩
   dsimp only;split
   .exact gj h k f ..
   .exact gj h k f ..
theorem rY:∀(f:Nat) {p:Array Nat} (h:PP n p) (k:Nat),G6 n (PP n) (kas_bin f p k)
 |0,p,h,k=>h|f+1,p,h,k=>G6.C2 (λl x=>rY f ((bubble_perm ..).trans h) _) (gj hn h ..)
theorem abO:G6 n (PP n) (kas_sort n):=by
 refine G6.C2 (λa ha=>?_) (abN hn (Array.Perm.refl _) _);split
 .exact rY hn _ ha _
 .exact ha
end
theorem G6.wp{P:α->Prop}{Q:α->BS->Prop}(hc:∀i j C,i<n->j<n->(∀b,C b s)->cmp i j C s)(hq:∀a,P a->Q a s):
  ∀{t:KasT α},G6 n P t->t.kasWp cmp Q s
 |.ret a,h=>hq a h|.ask i j k,h=>hc i j _ h.1 h.2.1 λb=>G6.wp hc hq (h.2.2 b)
theorem gk{α:Type}(d:α)(vs:List α)(h:PP (I vs) p):(p.toList.map λi=>vs.getD i d).Perm vs:=by
 have h1:p.toList.Perm (Ey (I vs)):=by have:=Array.perm_iff_toList_perm.mp h;simpa using this
 have h2:=h1.map λi=>vs.getD i d;refine h2.trans (List.Perm.of_eq ?_);refine List.ext_getElem (by simp) λi h1 h2=>?_;simp at h1;simp[h1]
section
variable{E:AG->BS->Prop}
def Yw(prog:Program)(w:CO)(A:I_)(vs:List AG)(h:Ca):Prop:=
 ∀s:BS,(∀b o,h.get? b=H o->s.heap.get? b=H o)->∃κ,(∀Q,Q κ s->wpAny (model prog w) A (keyKind' vs.toArray) Q (λx x=>False) s)/\∀i j (C:Bool->BS->Prop),i<I vs->j<I vs->(∀b,C b s)->kas_ask prog w A κ vs i j C s
theorem abP(hC:2<=I vs->Yw prog w A vs h₀)(hk:∀b o,h₀.get? b=H o->s.heap.get? b=H o)(ha0:h₀.get? a=AB)(ho:s.heap.get? a=H (seqObj "list" vs.toArray n))(h64:I vs<64)
  (h:∀(vs':List AG) (p:Array Nat) h' k,vs'=(p.toList.map λi=>vs.getD i NX)->PP (I vs) p->(∀b o,b≠a->s.heap.get? b=H o->h'.get? b=H o)->h'.get? a=H (seqObj "list" vs'.toArray k)->P (.done (.ret .none)) {s with heap:=h'}):
  wpAny (model prog w) A (Builtin.«list.sort» ⟨[.ref a],[]⟩) P E s:=by
 rw[list_sort_plain];refine Ao (listItems_at ho rfl ?_);refine Ao (listUpdate_at ho rfl ?_);obtain⟨e1,V5⟩:∃e1,(s.heap.update a _).get? a=H (seqObj _ #[] e1):=⟨_,get?_update_seq ho (λx=>#[])⟩;refine Ao (seqEpoch_at V5 rfl ?_);refine Ao (wpAny_newTuple ?_);refine Ao (wpAny_newList ?_);refine GX ?_;have up:∀b o,b≠a->s.heap.get? b=H o->(((s.heap.update a (gm λx=>#[])).push (seqObj "tuple" vs.toArray 0)).push (seqObj "list" #[] 0)).get? b=H o:=λb o hb e=>
  GW _ (GW _ ((Ca.get?_update_other _ _ (FU hb)).trans e))
 have ho6:(((s.heap.update a _).push (seqObj "tuple" vs.toArray 0)).push (seqObj "list" #[] 0)).get? a=H _:=
  GW _ (GW _ V5)
 have hsz:vs.toArray.size=I vs:=by simp
 have fin:∀(st':SortSt) (p:Array Nat),PP (I vs) p->(arrOf st').map (·.2)=List.toArray (p.toList.map λi=>vs.getD i NX)->
   P (.done (.ret .none)) {s with heap:=(((s.heap.update a (gm λx=>#[])).push (seqObj "tuple" vs.toArray 0)).push (seqObj "list" #[] 0)).update a (gm λx=>(arrOf st').map (·.2))}:=by
  intro st' p hp hs;generalize (arrOf st').map _=out at hs⊢;subst hs;exact h _ p _ _ rfl hp (λb o hb e=>(Ca.get?_update_other _ _ (FU hb)).trans (up b o hb e)) (get?_update_seq ho6 (λx=>(p.toList.map λi=>vs.getD i _).toArray))
 by_cases h2:vs.toArray.size<2
 .rw [if_pos h2,if_pos h2]
  refine Ao (Bg ?_);refine Ao (Bg ?_);dsimp only;refine Ao (seqEpoch_at ho6 rfl ?_);refine Ao (listUpdate_at ho6 rfl ?_ (hsz2:=by rw[Array.size_map];rw[PyProof.Rows.pairsOf_size];exact BG 1 AI (.k 64) A2 (.a (.k 16777216) AF) A4 [I vs] h64));simp only[bne_self_eq_false];refine Bg (fin _ _ (Array.Perm.refl _) ?_);apply Array.toList_inj.mp;rw[Array.toList_map,PyProof.Rows.pairsOf_toList];refine List.ext_getElem (by simp) λi h1 h2=>?_;simp at h1;simp[h1]
 .rw [if_neg h2,if_neg h2]
  have h2':2<=I vs:=(By 1 (.k 2) A2 1 A2 A7 (.k 2) A7 A4 [vs.toArray.size,I vs] (J1 h2) (BQ hsz));obtain⟨κ,kk,Sh⟩:=hC h2' {s with heap:=((s.heap.update a _).push _).push _} λb o e=>up b o (λq=>by subst q;rw[ha0] at e;cases e) (hk b o e);refine Ao (HH (kk (λκ' s'=>κ'=κ/\s'={s with heap:=((s.heap.update a _).push _).push _}) ⟨rfl,rfl⟩) ?_ λx x e=>e.elim);rintro κ' s' ⟨rfl,rfl⟩;refine Ao (HH (kat_run
   (Q:=λst' s'=>failedOf st'=AB/\s'={s with heap:=((s.heap.update a _).push _).push _}/\∃p,PP _ p/\(arrOf st').map _=List.toArray _)
   (G:=λp s'=>s'={s with heap:=((s.heap.update a _).push _).push _}/\PP _ p) rfl h2' h64 (λp st' s' x har hf hG=>⟨hf,hG.1,p,hG.2,kat_snds rfl har⟩)
   (G6.wp Sh (λa ha=>⟨rfl,ha⟩) (abO (BG 1 (.k 2) A2 (.a AK AF) A2 A4 [I vs] h2')))) ?_ λx x e=>e)
  rintro⟨⟨⟩,st'⟩ s' ⟨hf,rfl,p,hp,hs⟩;have hps:p.size=I vs:=by have:=hp.size_eq;simpa using this
  refine Ao (seqEpoch_at ho6 rfl ?_);refine Ao (listUpdate_at ho6 rfl ?_ (hsz2:=by rw[hs];simp only[ez,Ce,Array.length_toList,hps];exact BG 1 AI (.k 64) A2 (.a (.k 16777216) AF) A4 [I vs] h64));rw[hf];simp only[bne_self_eq_false];exact Bg (fin st' p hp hs)
end
section
variable{X:Cfg}{A0:A0}{fr:Bool}
theorem C5.gn:∀{us:List V} {vs:List AG},I vs=I us->(∀(i:Nat) (a:V),us[i]?=H a->∃y,vs[i]?=H y/\BN tab β h a y)->C5 tab β h us vs
 |[],vs,l,_=>by simp at l;subst l;rfl|u::us,[],l,_=>by simp at l|u::us,v::vs,l,h=>by obtain⟨y,e,r⟩:=h 0 u rfl;cases e;exact⟨v,vs,rfl,r,C5.gn (by simpa using l) λi a e=>by simpa using h (i+1) a (by simpa using e)⟩
theorem C5.r_(r:C5 tab β h us vs):∀(p:List Nat),(∀i∈p,i<I us)->C5 tab β h (p.map λi=>us.getD i d) (p.map λi=>vs.getD i dv):=by
 intro BE;induction BE with
 |nil=>
  rintro _;exact rfl
 |cons i p ih=>
  rintro hp;have hi:=hp i D0;obtain⟨y,e,Dz⟩:=r.Dh (DP hi);have e1:us.getD i d=us[i]:=by simp[hi]
  have e2:vs.getD i dv=y:=by simp[e]
  exact⟨y,_,by rw[Hw,e2],by show BN tab β h (us.getD i d) y;rw[e1];exact Dz,ih λj hj=>hp j (DV _ hj)⟩
theorem Fi.get:∀{v:List (α×V)} {x:List (κ×AG)},Fi tab k β h v x->∀{i:Nat} {q:α×V},v[i]?=H q->∃b z,x[i]?=H (b,z)/\k q.1 b/\BN tab β h q.2 z:=by
 intro BE;induction BE with
 |nil=>
  rintro _ _ i q e;simp at e
 |cons hd0 r ih=>
  rintro _ ⟨b,y,t,rfl,hk,hy,ht⟩ i q e;cases i with
  |zero=>cases e;exact⟨b,y,rfl,hk,hy⟩
  |succ i=>simpa using ih ht (by simpa using e)
theorem PP.lt(h:PP n p):∀i∈p.toList,i<n:=λi hi=>by have:=h.mem_iff.mp (by simpa using hi);simpa using this
theorem rd(abQ:wpAny X.M A.in1 (collect (.ref r)) R AP s)
  (hs:∀vs s1,R vs s1->I vs<64/\(∀A',2<=I vs->Yw X.Gn X.w A' vs s1.heap)/\∀(p:Array Nat) h' k,PP (I vs) p->(∀b o,s1.heap.get? b=H o->h'.get? b=H o)->
   h'.get? s1.heap.objs.size=H (FT (p.toList.map λi=>vs.getD i NX) k)->P (.ref s1.heap.objs.size) {s1 with heap:=h'}):wpAny X.M A (call (.builtin "sorted") [.ref r]) P AP s:=by
 refine call_function_entry kind_sorted plain_sorted entry_sorted (args_sorted1 _) ?_;refine Ao (Bg ?_);refine Ao (LV abQ λvs s1 q=>?_);obtain⟨h64,hC,hP⟩:=hs vs s1 q;refine Ao (wpAny_newList ?_ (BG 1 AI (.k 64) A2 (.k 16777216) A4 [I vs] h64));have ri:(s1.heap.push _).get? _=H (seqObj "list" vs.toArray 0):=J6 _ rfl;refine Ao (GX (Ot slot_list_sort ⟨_,ri,rfl⟩ entry_list_sort (abP (hC _) (λb o e=>GW _ e) (J0 _) ri h64 λvs' p h' k e1 hp up e2=>⟨_,rfl,?_⟩) (args_list_sort _)));subst e1;exact Bg ⟨_,rfl,hP p h' k hp (λb o e=>up b o (Na (NQ e)) (GW _ e)) e2⟩
theorem abR(hI:∀v∈vs,∃n t,v=Un n t)(h2:2<=I vs):Yw X.Gn X.w A vs h:=by
 intro s hk;refine⟨oneType',λQ q=>?_,λi j C hi hj hC=>?_⟩
 .obtain ⟨v₁,v₂,rest,rfl⟩:∃v₁ v₂ rest,vs=v₁::v₂::rest:=by
   match vs,h2 with
   |v₁::v₂::rest,_=>exact⟨_,_,rest,rfl⟩
  rw[keyKind_ints (intsAre_map _ hI)];exact Bg q
 .obtain ⟨a,t,ea⟩:=hI _ (Si hi)
  obtain⟨b,u,eb⟩:=hI _ (Si hj);have e1:vs.getD i NX=.int a t:=by simp[hi,ea]
  have e2:vs.getD j NX=.int b u:=by simp[hj,eb]
  unfold kas_ask;rw[e1,e2];exact kat_lt_int (hC _)
theorem abS{as:List BJ}(hI:∀a∈as,∃k t v u,h.get? a=H (Fg [.int k t,.int v u]))(h2:2<=I as):Yw X.Gn X.w A (as.map MF) h:=by
 intro s hk;have abT:∀as:List BJ,(∀a∈as,∃k t v u,h.get? a=H (Fg [.int k t,.int v u]))->∃fs:List _,I fs=I as/\KatTups s.heap (as.map MF) fs/\∀v∈fs,∃n t,v=Un n t:=by
  intro as;induction as with
  |nil=>intro _;exact⟨[],rfl,KatTups.nil,λx h=>by cases h⟩|cons a r ih=>
   intro hI;obtain⟨fs,l,kt,Jb⟩:=ih λa ha=>hI a (DV _ ha);obtain⟨k,t,v,u,e⟩:=hI a D0;refine⟨.int k t::fs,by simp[l],KatTups.cons (hk _ _ e) rfl rfl rfl kt,λv hv=>?_⟩;rcases D4.mp hv with rfl|hv
   .exact ⟨_,_,rfl⟩
   .exact Jb v hv
 obtain⟨fs,hl,kt,Jb⟩:=abT as hI;refine⟨tuples' U,λQ q=>kat_kind (T:=.type "int") kt (By 1 (.k 2) A2 1 A2 A7 (.a AK AF) A7 A4 [I as,I fs] h2 (BQ hl.symm)) (λv hv=>?_) () q,λi j C hi hj hC=>?_⟩
 .obtain ⟨n,t,rfl⟩:=Jb v hv
  exact Looks.of_pure rfl
 .have hi':i<I as:=by simpa using hi
  have hj':j<I as:=by simpa using hj
  obtain⟨k,t,v,u,e⟩:=hI _ (Si hi');obtain⟨k2,t2,v2,u2,e2⟩:=hI _ (Si hj');have P6:(as.map MF).getD i NX=.ref as[i]:=by simp[hi']
  have B7:(as.map MF).getD j NX=.ref as[j]:=by simp[hj']
  unfold kas_ask;rw[P6,B7];refine kat_lt (hk _ _ e) rfl (hk _ _ e2) rfl ?_;refine kat_cons (wpAny_eqBool_int (kat_go (λx=>?_) λx=>?_))
  .refine kat_yes (kat_cons (wpAny_eqBool_int (kat_go (λx=>?_) λx=>?_)))
   .exact kat_yes (kat_nil (hC _))
   .exact kat_no (kat_one _ _ (lt_int (hC _)))
  .exact kat_no (oneLt_int (hC _))
theorem rj{h:Internal.A0}{v:V}{P:List (Int×V)->Prop}(q:match E4 h v with|some (.Ad l)=>P l|_=>False):∃s i l,v=.O s i/\(h s)[i]?=H (.Ad l)/\P l:=by
 cases v with
 |O s i=>
  cases ho:(h s)[i]? with
  |none=>rw[show E4 h (.O s i)=AB from ho] at q;exact q.elim|some o=>
   rw[show E4 h (.O s i)=H o from ho] at q;cases o with
   |Ad l=>exact⟨s,i,l,rfl,ho,q⟩|_=>exact q.elim
 |_=>exact q.elim
set_option tactic.hygienic true in
theorem abU{pos:Pos}(hA:A.handled=AB)(hb:bi c "sorted" g=U)(ns:FY a=A1)(K:CL c env)(S:Bh X β A0 s.heap)
  (h:wpAny X.M A (eval a env) (Post X β s A1 λt h1=>opt t.Av λx=>match E4 h1 x with
   |some (.Ad l)=>I l<64/\∀l':List Int,l'.Perm (l.map (·.1))->Q (.Al (l'.map λi=>.B i)) h1|_=>False) AP s):wpAny X.M A (eval (.Call g [a] [] pos) env) (Post X β s fr Q) AP s:=by
 refine YM hb rfl ns K S h λx s1 q=>?_;obtain⟨t,H1,A9,⟨v,e,q⟩,r,g',-⟩:=q;obtain rfl:=T.Ic e
 .obtain ⟨si,i,l,rfl,ho,q⟩:=rj q
  obtain⟨p,hp,rfl⟩:=r;obtain⟨l1,l2,kvs,hd,pr⟩:=g'.st.at hp ho;rw[l1];obtain⟨ep,hat⟩:=hd.dictAt;have hlen:=pr.Cy;refine rd (R:=λvs s2=>∃h' tk,s2={s1 with heap:=h',toks:=tk}/\(∀b o,s1.heap.get? b=H o->h'.get? b=H o)/\I vs=I kvs/\∀i v,vs[i]?=H v->∃k x,kvs[i]?=H (k,x)/\(intKind X.Gn X.w).is k v=U)
   (kdu_collect (A:=A.in1) (kdl_dict (g'.st.Oo (Op hp))) hA hat (by rw[hlen];exact Cr l2 J4) λh' tk acc hk hacc=>⟨h',tk,rfl,hk,by exact hacc.1,λi v e=>hacc.2 i v (by rw[<-Array.getElem?_toList];exact e)⟩) λvs s2 B7=>?_
  obtain⟨h',tk,rfl,hk,hvl,hv⟩:=B7;have Qm:∀{k:Int} {v:AG},(intKind X.Gn X.w).is k v=U->∃t,v=.int k t:=λ{k v} e=>by simp only[intKind] at e;cases v<;>simp[AG.isInt] at e;exact⟨_,by rw[e]⟩
  have rel:C5 X.G.AM A9 h' (l.map λp=>V.B p.1) vs:=by
   refine C5.gn (by rw[hvl,hlen];simp) λi a e=>?_;rw[GY] at e;obtain⟨q0,e1,rfl⟩:=SP.mp e;obtain⟨y,e2,DX⟩:∃y,vs[i]?=H y/\True:=by
    have hi:i<I vs:=by rw[hvl,hlen];exact(Dd.mp e1).1
    exact⟨_,DP hi,trivial⟩
   obtain⟨k,x,e3,e4⟩:=hv i y e2;obtain⟨b,z,e5,hkk,_⟩:=pr.get e1;rw[e3] at e5;clear Ze;cases e5;obtain⟨t,rfl⟩:=Qm e4;exact⟨_,e2,t,by rw[hkk]⟩
  refine⟨by rw[hvl,hlen];exact q.1,λA' h2=>abR (λv hv'=>?_) h2,λp h3 k hp3 up e3=>?_⟩
  .obtain ⟨i,hi⟩:=UX.mp hv'
   obtain⟨k,x,_,e4⟩:=hv i v hi;clear hi hv';obtain⟨t,rfl⟩:=Qm e4;exact⟨k,t,rfl⟩
  .have g2:=(Go.BO g'.st).AX hk tk
   have P7:PP (l.map (·.1)).length p:=by rw[hvl,hlen] at hp3;simpa using hp3
   have rr:=rel.r_ (d:=.AV) (dv:=NX) p.toList (λi hi=>by have:=P7.lt i hi;simpa using this);have eq:(p.toList.map λi=>(l.map λp=>V.B p.1).getD i .AV)=(p.toList.map λi=>(l.map (·.1)).getD i 0).map λi=>V.B i:=by rw[Qn];refine Yo λi hi=>?_;have hi':=P7.lt i hi;simp at hi';simp[hi']
   rw[eq] at rr;have fin:=q.2 _ (gk 0 (l.map (·.1)) P7);exact Uy (tk:=tk) (g'.Aw g2) up (J0 _) ⟨k,e3⟩ rr (by
    have:=(gk 0 (l.map (·.1)) P7).length_eq;rw[Ce,this,Ce];exact l2) fin
set_option tactic.hygienic true in
theorem abV{nm:Str}(hA:A.handled=AB)(hb:bi c "sorted" g=U)(hn:nm="items")(hs:Ia a=U)(hl:(ap.endLine==p2.line)=U)(K:CL c env)(S:Bh X β A0 s.heap)
  (h:wpAny X.M A (eval a env) (Post X β s A1 λt h1=>opt t.Av λx=>match E4 h1 x with
   |some (.Ad l)=>I l<64/\(l.all λp=>(Rx p.2).isSome)=U/\∀l':List (Int×V),l'.Perm l->Q (.Al (l'.map λp=>.A3 [.B p.1,p.2])) h1|_=>False) AP s):wpAny X.M A (eval (.Call g [.Call (.Attribute a nm ap) [] [] p2] [] pos) env) (Post X β s fr Q) AP s:=by
 subst hn;refine YM hb (id:="sorted") (Z:=λx s2=>∃(r d:BJ) (l:List (Int×V)) (H1:Internal.A0) (A9:Af) (kvs:List (Int×AG)),x=.ref r/\Go X β s A9 H1 s2/\s2.heap.IsItemsView r d/\s2.heap.DictOf (intKind X.Gn X.w) d kvs/\Fi X.G.AM Ub A9 s2.heap l kvs/\I l<=BU/\
  I l<64/\(l.all λp=>(Rx p.2).isSome)=U/\∀l':List (Int×V),l'.Perm l->Q (.Al (l'.map λp=>.A3 [.B p.1,p.2])) H1) rfl rfl K S (wpAny_Call_method0_late (SK hs) hl (BY h λov s1 q=>?_)) λx s1 q=>?_
 .obtain ⟨t,H1,A9,⟨v,e,q⟩,r,g',-⟩:=q
  obtain rfl:=T.Ic e
  .obtain ⟨si,i,l,rfl,ho,q⟩:=rj q
   obtain⟨p,hp,rfl⟩:=r;obtain⟨l1,l2,kvs,hd,pr⟩:=g'.st.at hp ho;have YS:=g'.st.Oo (Op hp);rw[l1];refine⟨"dict","dict.items",qg,F.slot_dict_items,F.type_dict_items,hd.typeIs,hd.mapOf.noDict,?_⟩;refine YN (first:=[.ref p.2]) rfl (PyProof.Rows.evalArgs_none ?_);refine call_meetsIn F.slot_dict_items hd.typeIs F.entry_dict_items (F.args_dict_items_1 _) (meets_dict_items (intKind X.Gn X.w) p.2 YS) ⟨⟨kvs,hd⟩,?_⟩;have g2:=g'.Kd {cls:=.type "dict_items",data:=.fields #[.ref p.2]} s1.toks;have k:∀b o,s1.heap.get? b=H o->(s1.heap.push {cls:=.type "dict_items",data:=.fields #[.ref p.2]}).get? b=H o:=λb o e=>GW _ e;exact⟨_,p.2,l,H1,A9,kvs,rfl,g2,⟨_,J6 _ rfl,rfl,rfl⟩,hd.at λo e=>k _ o e,pr.Bo (λa xs e=>k _ _ e) (Af.le.BO _),l2,q⟩
 .obtain ⟨r,d,l,H1,A9,kvs,rfl,g',hv,hd,pr,l2,h64,hI,q⟩:=q
  obtain⟨ep,hat⟩:=hd.dictAt;have hlen:=pr.Cy;refine rd (R:=λvs s2=>∃h' tk as,vs=List.map MF as/\s2={s1 with heap:=h',toks:=tk}/\(∀b o,s1.heap.get? b=H o->h'.get? b=H o)/\I as=I kvs/\KdxG (intKind X.Gn X.w) kvs s1.heap.objs.size h' as)
   (kdx_collect (A:=A.in1) hA hv hat (by rw[hlen];exact Cr l2 J4) λh' tk as hk hl hG=>⟨h',tk,as,rfl,rfl,hk,hl,hG⟩) λvs s2 B7=>?_
  obtain⟨h',tk,as,rfl,rfl,hk,hvl,hG⟩:=B7;have Qm:∀{k:Int} {v:AG},(intKind X.Gn X.w).is k v=U->∃t,v=.int k t:=λ{k v} e=>by simp only[intKind] at e;cases v<;>simp[AG.isInt] at e;exact⟨_,by rw[e]⟩
  have g2:=(Go.BO g'.st).AX hk tk;have abW:Fi X.G.AM Ub A9 h' l kvs:=pr.Bo (λa xs e=>hk _ _ e) (Af.le.BO _);have at':∀i (q0:Int×V),l[i]?=H q0->∃a t z,as[i]?=H a/\h'.get? a=H (Fg [.int q0.1 t,z])/\BN X.G.AM A9 h' q0.2 z:=λi q0 e1=>by
   have hi:i<I as:=by rw[hvl,hlen];exact(Dd.mp e1).1
   obtain⟨key,k,x,e3,e4,e5⟩:=hG.pairs i _ (DP hi);obtain⟨b,z,e6,hkk,hz⟩:=abW.get e1;rw[e3] at e6;cases e6;obtain⟨t,rfl⟩:=Qm e4;exact⟨_,t,x,DP hi,by rw[show q0.1=k from hkk];exact e5,hz⟩
  have rel:C5 X.G.AM A9 h' (l.map λp=>V.A3 [.B p.1,p.2]) (as.map MF):=by refine C5.gn (by rw[Ce,hvl,hlen,Ce]) λi a e=>?_;rw[GY] at e;obtain⟨q0,e1,rfl⟩:=SP.mp e;obtain⟨a,t,z,e2,e3,e4⟩:=at' i q0 e1;exact⟨.ref a,by rw[GY,e2];rfl,a,_,rfl,e3,(by rw[τ];simp),⟨_,_,rfl,⟨t,rfl⟩,⟨_,_,rfl,e4,rfl⟩⟩⟩
  refine⟨by rw[Ce,hvl,hlen];exact h64,λA' h2=>abS (λa ha=>?_) (by simpa using h2),λp h3 k hp3 up e3=>?_⟩
  .obtain ⟨i,hi⟩:=UX.mp ha
   have hil:i<I l:=by rw[<-hlen,<-hvl];exact(Dd.mp hi).1
   obtain⟨a',t,z,e2,e3,e4⟩:=at' i _ (DP hil);rw[hi] at e2;cases e2
   have:=Gm.mp hI _ (Si hil);cases hv2:(l[i]).2 with
   |B b=>rw[hv2] at e4;obtain⟨u,rfl⟩:=e4;exact⟨_,_,_,_,e3⟩
   |_=>rw[hv2] at this;exact Bp this
  .have P7:PP (I l) p:=by rw[Ce,hvl,hlen] at hp3;exact hp3
   have rr:=rel.r_ (d:=.AV) (dv:=NX) p.toList (λi hi=>by have:=P7.lt i hi;simpa using this);have eq:(p.toList.map λi=>(l.map λp=>V.A3 [.B p.1,p.2]).getD i .AV)=(p.toList.map λi=>l.getD i (0,.AV)).map λp=>V.A3 [.B p.1,p.2]:=by rw[Qn];refine Yo λi hi=>?_;have hi':=P7.lt i hi;simp[hi']
   rw[eq] at rr;have pm:=gk ((0:Int),V.AV) l P7;exact Uy (tk:=tk) (s1:={s1 with heap:=h',toks:=tk}) (g'.Aw g2) up (J0 _) ⟨k,e3⟩ rr (by rw[Ce,pm.length_eq];exact l2) (q _ pm)
end
section
variable{X:Cfg}{A0:A0}
theorem abX{E:AG->BS->Prop}(h1:c.Bt.lookup i=H n)(h2:c.Bc.lookup n=H .local\/c.Bc.lookup n=H .cell)(h3:(n==("__debug__":Str))=A1)(K:CL c env)
  (F:DW X c env ρ β s.heap m)(u:BD ρ i=.v v)(q:∀x,BN X.G.AM β s.heap v x->P x s):wpAny X.M A (eval (.Name n p) env) P E s:=by
 refine Uo ?_ h3;rcases h2 with h2|h2
 .have r:=F.Am i n (IE h1) h2
  rw[u] at r;obtain⟨x,e,r⟩:=r;exact Up K.GV (by rw[K.HG];exact h2) F.ns e (q x r)
 .obtain ⟨a,w,e1,e2,e3,e4,e5⟩:=F.Gp i n (IE h1) h2
  rw[u] at e4;obtain⟨x,e,r⟩:=e4;subst e;exact fQ K.GV (by rw[K.HG];exact h2) e1 e2 (q x r)
theorem abY(e:(intKind X.Gn X.w).is k v=U):∃t,v=.int k t:=by simp only[intKind] at e;cases v<;>simp[AG.isInt] at e;exact⟨_,by rw[e]⟩
theorem ab0{E:AG->BS->Prop}(h:wpAny X.M A (eval (.Compare l [op] [r] pos) env) (λv s'=>∃b,v=.bool b/\P b s') E s):wpAny X.M A (isTrue (.Compare l [op] [r] pos) env w) P E s:=by
 have e:isTrue (.Compare l [op] [r] pos) env w=(eval (.Compare l [op] [r] pos) env>>=λc=>holding [c] (truthy c)):=by rw[isTrue_Compare1,eval_Compare1];simp only[bind_assoc]
 rw[e];refine Ao (HH h (λv s1 q=>?_) λx x e=>e);obtain(⟨b,rfl,q⟩):=q;exact GX (fk q)
theorem Fi.Q3:∀{l:List (Int×V)} {kvs:List (Int×AG)},Fi X.G.AM Ub β h l kvs->kvs.map (·.1)=l.map (·.1):=by
 intro BE;induction BE with
 |nil=>
  rintro _ e;cases e;rfl
 |cons hd0 r ih=>
  rintro _ ⟨b,y,t,rfl,hk,_,ht⟩;rw[Hw,Hw,ih ht,hk]
def Nc(l2:List (Int×V))(k:Int):Bool:=(BP l2 k).isNone
inductive ab1(X:Cfg)(hh:Ca)(DQ:Array GenState)(dd:Drawn)(os:CW)(l2:List (Int×V))(ks:List Int)(Sj D C p ep nn:Nat)(s':BS):Prop
 |mk (i:Nat) (zs:List AG) (h':Ca) (tk:Nat) (m1:Str->Option AG) (e:nn+i=I ks) (es:s'=⟨h',DQ,dd,tk,os⟩) (up:∀b o,hh.get? b=H o->h'.get? b=H o) (hit:h'.IsKeyIter Sj p i (I ks) ep) (pl:F0 h' D zs) (Mc:I zs=I ((ks.take i).filter (Nc l2))) (hns:h'.Ns C m1)
section
variable{os:CW}{xs xi ys Sk:Nat}(BI:Ek A gp)(kk:(E_ sc C env).scope.kind=.function)(kd:∀x,(E_ sc C env).kindOf x=(Es c sc.names).lookup x)
 (ha:(Es c sc.names).lookup a=H .local)(na:(a==("__debug__":Str))=A1)(Nd:(Es c sc.names).lookup mm=H .cell)(nm:(mm==("__debug__":Str))=A1)(hac:(Hx env sc.names []).lookup mm=H ac)(f2:hh.IsCell ac (H (.ref pm.1)))(S:Bh X β A0 hh)(VH:(β xs)[xi]?=H pm)(hox:(A0 xs)[xi]?=H ox)(e4:Jy X.G.AM ox (.An n)=H (H (.O ys Sk)))(e5:(A0 ys)[Sk]?=H (.Ad l2))
include BI kk kd ha na Nd nm hac f2 S VH hox e4 e5
theorem ab3(Sl:hh.Ns C m4)(ea:m4 a=H (.int k kt)):wpAny X.M A (isTrue (.Compare (.Name a p4) [.NotIn] [.Subscript (.Name mm Jc) (.Constant (.str (X.G.AM n)) k0 Kh) Jd] Hy) (E_ sc C env) (eval (.Compare (.Name a p4) [.NotIn] [.Subscript (.Name mm Jc) (.Constant (.str (X.G.AM n)) k0 Kh) Jd] Hy) (E_ sc C env)))
  (λb s'=>b=Nc l2 k/\∃tk',s'=⟨hh,DQ,dd,tk',os⟩) AP ⟨hh,DQ,dd,tk,os⟩:=by
 have un:A.in1.units+200<cLine:=by have:=BI.2.1;exact BG 1 (.a (.a A2 (.m 12 A7)) (.k 400)) Aa (.a (.a AI (.k 200)) AF) Aa A4 [A.units,gp,cLine] this
 refine ab0 (Uw (Uo (Up kk (by rw[kd];exact ha) Sl ea ?_) na) rfl);refine qL rfl (Uo (fQ kk (by rw[kd];exact Nd) hac f2 (wpAny_mkText ?_)) nm);obtain⟨d1,d2,d3,d4⟩:=Ut (E:=AP) (s:=⟨hh,DQ,dd,tk+1,os⟩) (P:=λz' s'=>∃v',z'=H v'/\BN X.G.AM β hh (.O ys Sk) v'/\∃tk',s'=⟨hh,DQ,dd,tk',os⟩) (kx:=.str _ tk) un S VH hox e4 ⟨_,rfl⟩ λt' z' hz=>by obtain⟨x,rfl,rx⟩:=hz;exact⟨x,rfl,rx,_,rfl⟩
 rw[d1];refine⟨"dict",_,fj.lookup,d2,qH d2 (BY d4 λz s' q=>?_)⟩;obtain⟨v',rfl,⟨pk,hpk,rfl⟩,tk',rfl⟩:=q;refine⟨_,rfl,?_⟩;obtain⟨c1,c2,c3,c4⟩:=Ut (E:=AP) (s:=⟨hh,DQ,dd,tk',os⟩) (P:=λz' s'=>z'.isSome=(BP l2 k).isSome/\∃tk',s'=⟨hh,DQ,dd,tk',os⟩) (kx:=.int k kt) (k:=.B k) un S hpk e5 rfl ⟨_,rfl⟩ λt' z' hz=>by
  refine⟨?_,_,rfl⟩;cases hl:BP l2 k with
  |none=>rw[hl] at hz;rw[hz];rfl|some v=>rw[hl] at hz;obtain⟨x,rfl,_⟩:=hz;rfl
 rw[c1];refine qK c2 (S.Oo (Op hpk)) (BY c4 λz s' q=>⟨_,rfl,?_,q.2⟩);rw[q.1];unfold Nc;cases BP l2 k<;>rfl
theorem ab4(hat:Ca.DictAt (intKind X.Gn X.w) hh p kvs ep)(gq:D≠Sj)(gr:C≠Sj)(rm:C≠D)(old:∀{b o},hh.get? b=H o->b≠Sj/\b≠D/\b≠C)(lb:(kvs.map (·.1)).length<=BU)
  (hR:∀zs h3 tk m1,I zs=((kvs.map (·.1)).filter (Nc l2)).length->F0 h3 D zs->h3.Ns C m1->(∀b o,hh.get? b=H o->h3.get? b=H o)->R (.ok .next) ⟨h3,DQ,dd,tk,os⟩)(Kl:ab1 X hh DQ dd os l2 (kvs.map (·.1)) Sj D C p ep (kvs.map (·.1)).length s0):
  codeAny X.M A (.compLoop (.ListComp (.Name a p1) [⟨.Name a p2,iter,[.Compare (.Name a p4) [.NotIn] [.Subscript (.Name mm Jc) (.Constant (.str (X.G.AM n)) k0 Kh) Jd] Hy],0⟩] sc pos) 0 (.ref Sj) (.ref D) (E_ sc C env)) R s0:=by
 have hA:=BI.2.2;refine kct_loop _ (λnn s' hI=>?_) _ Kl;obtain⟨i,zs,h',tk,m1,hn,rfl,up',hit,pl,Mc,hns⟩:=hI;obtain⟨np,pl⟩:=pl;rw[Ce] at hit;cases hx:kvs[i]? with
 |none=>
  refine wpAny_pyNext_dict_end (s:=⟨h',DQ,dd,tk,os⟩) hA hit (hat.keep up') hx λh3 Qo=>hR zs h3 _ m1 ?_ ⟨np,Qo _ _ gq pl⟩ (hns.extBut Qo gr) λb o e=>Qo _ _ (old e).1 (up' _ _ e);rw[Mc,g7 (by rw[Ce];exact Yh.mp hx)]
 |some kv=>
  obtain⟨k,v⟩:=kv;have hil:i<I kvs:=(Dd.mp hx).1;have ab5:(kvs.map (·.1))[i]?=H k:=by rw[GY,hx];rfl
  refine wpAny_pyNext_dict_item (s:=⟨h',DQ,dd,tk,os⟩) hit (hat.keep up') hx λkey h3 hkey ab6 Qo=>?_;obtain⟨kt,rfl⟩:=abY hkey;refine wpAny_of_eq (rfl) ?_;refine Sb (rF (by rw[kd];exact ha) (hns.sameBut Qo gr) (λh4 Sl Sm=>?_) (by rw[kk];rfl));have Yx:∀b o,hh.get? b=H o->h4.get? b=H o:=λb o e=>Sm.extBut _ _ (old e).2.2 (Qo.extBut _ _ (old e).1 (up' _ _ e));have rq:h4.get? D=H (FT zs np):=Sm.extBut _ _ (FU rm) (Qo.extBut _ _ gq pl);have gu:=ab6.extBut Sm.extBut (FU gr);refine LV (ab3 (k:=k) (kt:=kt) BI kk kd ha na Nd nm hac (f2.keeps Yx) (S.AX Yx).1 VH hox e4 e5 Sl (by simp)) λb s' q=>?_;obtain⟨rfl,aoS,rfl⟩:=q;have fl:=take_succ_filter (Nc l2) (kvs.map (·.1)) i k ab5;have le:(kvs.map (·.1)).length-(i+1)<nn/\(kvs.map (·.1)).length-(i+1)+(i+1)=(kvs.map (·.1)).length:=by rw[<-Ce (f:=(·.1))] at hil;exact have E:=Xj hil;⟨BG 1 (.a A2 BB) (.a Aa A7) AI Aa A4 [(kvs.map (·.1)).length-(i+1),i,nn] (BQ (E.trans hn.symm)),E⟩
  rw[<-Ce (f:=(·.1)) (as:=kvs)] at gu;by_cases hb:Nc l2 k=U
  .rw [if_pos hb]
   refine Uo (Up kk (by rw[kd];exact ha) Sl (v:=.int k kt) (by simp) ?_) na;have hsz:zs.toArray.size<=sizeLine:=by rw[ez,Mc];exact Cr (List.length_filter_le _ _) (Cr (by rw[qk];exact Nat.min_le_right _ _) (Cr lb J4))
   refine rT (items:=zs.toArray) (hsz:=hsz) ⟨np,rq⟩ λh5 ab7 gv=>⟨_,le.1,i+1,zs++[.int k kt],h5,_,_,le.2,rfl,λb o e=>gv.extBut _ _ (old e).2.1 (Yx _ _ e),gu.extBut gv.extBut (FU gq),?_,?_,Sl.sameBut gv rm⟩
   .obtain ⟨n',e⟩:=ab7
    exact⟨n',by rw[e];simp[FT]⟩
   .rw [fl,if_pos hb,El,El,Mc];rfl
  .rw [if_neg hb]
   exact⟨_,le.1,i+1,zs,h4,_,_,le.2,rfl,Yx,gu,⟨np,rq⟩,by rw[fl,if_neg hb,Oc];exact Mc,Sl⟩
end
inductive rt(X:Cfg)(β:Af)(A0:Internal.A0)(s:BS)(n:Nat)(x:AG)(s':BS):Prop
 |mk (D:BJ) (zs:List AG) (e:x=.ref D) (pl:F0 s'.heap D zs) (l:I zs=n) (b:I zs<=BU) (g:Go X β s β A0 s')
theorem ab8{v:V}{l:List V}(e:NN h v=H l){P:V->List V->Prop}(k:∀s i BE,(h s)[i]?=H (.Ad BE)->P (.O s i) (BE.map λp=>.B p.1)):P v l:=by
 cases v with
 |O s i=>
  have e:(match(h s)[i]? with|some (.Ad l)=>H _|_=>AB)=H l:=e;cases q:(h s)[i]? with
  |none=>rw[q] at e;exact nn e|some o=>
   rw[q] at e;cases o with
   |Ad BE=>cases BR e;exact k s i BE q
   |_=>exact nn e
 |_=>exact nn e
theorem ru{v:V}{o:A_}(e:E4 h v=H o){P:V->Prop}(k:∀s i,(h s)[i]?=H o->P (.O s i)):P v:=by
 cases v with
 |O s i=>exact k s i e|_=>exact nn e
set_option tactic.hygienic true in
theorem ab9(BI:Ek A gp)(hb:bi c "len" g=U)(hk:sc.kind=.function)(hi:c.Bt.lookup i=H d)(hd:c.Bc.lookup d=H .local\/c.Bc.lookup d=H .cell)(nd:(d==("__debug__":Str))=A1)
  (hj:c.Bt.lookup j=H mm)(nm:(mm==("__debug__":Str))=A1)(ha:(Es c sc.names).lookup a=H .local)(Qp:Sd c sc.names)(Nd:(Es c sc.names).lookup mm=H .cell)(na:(a==("__debug__":Str))=A1)
  (K:CL c env)(S:Bh X β A0 s.heap)(F:DW X c env ρ β s.heap m)(e1:BD ρ i=.v (.O ds ry))(e3:BD ρ j=.v (.O xs xi))(hox:(A0 xs)[xi]?=H ox)(e4:Jy X.G.AM ox (.An n)=H (H (.O ys Sk)))(gw:(A0 ds)[ry]?=H (.Ad BE))(e5:(A0 ys)[Sk]?=H (.Ad l2))
  (q:Q (.v (.B ((BE.map (·.1)).filter (Nc l2)).length)) A0):
  wpAny X.M A (eval (.Call g [.ListComp (.Name a p1) [⟨.Name a p2,.Name d p3,[.Compare (.Name a p4) [.NotIn] [.Subscript (.Name mm Jc) (.Constant (.str (X.G.AM n)) k0 Kh) Jd] Hy],0⟩] sc pos] [] p0) env) (Post X β s fr Q) AP s:=by
 have hA:=BI.2.2;obtain⟨aoT,acd⟩:=Yn Qp Nd;refine YM hb (id:="len") (Z:=rt X β A0 s ((BE.map (·.1)).filter (Nc l2)).length) rfl rfl K S ?_ λx s1 P6=>?_
 .rw [eval_ListComp]
  have free:∀n,(n,MX)∈sc.names->∃a,env.cells.lookup n=H a:=λn hn=>by obtain⟨e1,i,hi⟩:=Qp.gf n hn;obtain⟨a,v,e,_⟩:=F.Gp i n hi e1;exact⟨a,e⟩
  refine wpAny_comprehension_free (cl:=Hx env sc.names []) (use:=AB) rfl (by intro _;rfl) (rJ free) hk (λx hx e=>Qp.loc x hx e) ?_;refine abX hi hd nd K F e1 λdx rx=>?_;obtain⟨pd,rz,rfl⟩:=rx;obtain⟨l1,lb,kvs,V6,pr⟩:=S.at rz gw;rw[l1];obtain⟨ep,hat⟩:=V6.dictAt;have hlen:=pr.Cy;refine wpAny_pyIter_dict (S.Oo (Op rz)) hat ?_;refine g8 (wpAny_newFunctionEnv Qp.gc (by intro y hy;simp at hy) (λh₁ Qk Ql=>?_) hk);dsimp only at Qk Ql⊢;generalize P5:(s.heap.push _).push _=h2 at Qk Ql⊢;have VF:h2.objs.size=s.heap.objs.size+2:=by rw[<-P5,Ur,Ur]
  have gx:=λb o e=>Ql.extBut b o (Na (NQ e)) (GW _ e);have up:=λb o e=>gx b o (P5▸GW _ (GW _ e));have Yy:h₁.IsKeyIter s.heap.objs.size pd.2 0 (I kvs) ep:=⟨_,gx _ _ (P5▸GW _ (J6 _ rfl)),rfl,rfl⟩;have hD:h₁.get? (s.heap.objs.size+1)=H (FT [] 0):=by
   refine gx _ _ ?_
   have:=J6 (s.heap.push {cls:=.type "dict_keyiterator",data:=.fields #[.ref pd.2,.int 0 0,.int (I kvs) 0,.int ep 0]}) (o:={cls:=.type "list",dict:=AB,data:=.seq ([]:List AG).toArray}) rfl;rw[Ur] at this;rw[<-P5];exact this
  rw[VF] at Qk⊢;rw[Ur];have kd:∀x,(E_ sc (s.heap.objs.size+2) env).kindOf x=(Es c sc.names).lookup x:=λx=>by unfold Env.kindOf;rw[rM K]
  have kk:=hk;obtain⟨ac,hac,ace⟩:=Yq Qp F Nd;obtain⟨a2,w2,f1,f2,f3,f4,acf⟩:=F.Gp j mm (IE hj) acd;rw[ace] at f1;cases f1;rw[e3] at f4;obtain⟨mv,rfl,acg⟩:=f4;obtain⟨pm,VH,rfl⟩:=acg;have hkeys:=pr.Q3;have ach:s.heap.objs.size+1≠s.heap.objs.size:=Nat.succ_ne_self _;have aci:s.heap.objs.size+2≠s.heap.objs.size:=(λEu=>K4 (BG 1 (.a A2 (.k 2)) A2 AF AK A4 [s.heap.objs.size] (BQ Eu)));have s6:s.heap.objs.size+2≠s.heap.objs.size+1:=Nat.succ_ne_self _;have old:∀{b o},s.heap.get? b=H o->b≠s.heap.objs.size/\b≠s.heap.objs.size+1/\b≠s.heap.objs.size+2:=λ{b o} e=>
   have:=NQ e
   ⟨Na this,Na (gh this),Na (gh (gh this))⟩
  rw[<-hkeys];have lp:=ab4 (p1:=p1) (p2:=p2) (p4:=p4) (Jc:=Jc) (Kh:=Kh) (Jd:=Jd) (Hy:=Hy) (k0:=k0) (pos:=pos) (iter:=.Name d p3) (DQ:=s.gens) (dd:=s.drawn) (os:=s.os) (s0:=⟨h₁,s.gens,s.drawn,s.toks+I ([]:List (Str×AG)),s.os⟩) (R:=compPost X.M A AP AB (rt X β A0 s _) (.ref (s.heap.objs.size+1)) (s.heap.objs.size+2)) BI kk kd ha na Nd nm hac f2 S VH hox e4 e5 hat ach aci s6 old (by rw[Ce,hlen];exact lb) (λzs h3 tk m1 Mc ⟨np,pl⟩ hns acj=>⟨m1,hns,λh4 Sm=>⟨_,zs,rfl,⟨np,Sm.extBut _ _ (FU s6) pl⟩,Mc,?_,(Go.BO S).AX (λb o e=>Sm.extBut _ _ (old e).2.2 (acj _ _ e)) tk⟩⟩) ⟨0,[],h₁,_,_,rfl,rfl,up,by rw[Ce];exact Yy,⟨0,hD⟩,rfl,Qk⟩
  .exact codeAny_compStart_list lp (wpAny_pyIter_slot Yy.typeIs ack (Ot ack Yy.typeIs PySem.F.entry_dict_keyiterator_iter (Bg ⟨_,rfl,"dict_keyiterator",_,Yy.typeIs,PySem.F.slot_dict_keyiterator_next.lookup,lp⟩) (PySem.F.args_dict_keyiterator_iter_1 _)))
  .rw [Mc];exact Cr (List.length_filter_le _ _) (by rw[Ce,hlen];exact lb)
 .obtain ⟨D,zs,rfl,pl,Mc,acm,g1⟩:=P6
  have fit:((zs.toArray.size:Nat):Int)<2^63:=by simpa using SR acm
  refine Calls.call_len_list pl.Ep fit ?_;rw[show zs.toArray.size=((BE.map (·.1)).filter (Nc l2)).length by simpa using Mc];exact E6 q ⟨_,rfl⟩ (g1.G2 _)
set_option tactic.hygienic true in
theorem acn(BI:Ek A gp)(hb:bi c "len" g=U)(hk:sc.kind=.function)(hi:c.Bt.lookup i=H d)(hd:c.Bc.lookup d=H .local\/c.Bc.lookup d=H .cell)(nd:(d==("__debug__":Str))=A1)
  (hj:c.Bt.lookup j=H mm)(nm:(mm==("__debug__":Str))=A1)(hy:X.G.AM n=y)(ha:(Es c sc.names).lookup a=H .local)(Qp:Sd c sc.names)(Nd:(Es c sc.names).lookup mm=H .cell)(na:(a==("__debug__":Str))=A1)
  (K:CL c env)(S:Bh X β A0 s.heap)(F:DW X c env ρ β s.heap m)(e1:BD ρ i=.v dv)(e2:NN A0 dv=H l)(e3:BD ρ j=.v xv)(e4:EG X.G.AM A0 xv (.An n)=H (H s7))(e5:E4 A0 s7=H (.Ad l2))
  (q:Q (.v (.B (I (l.filter λk=>match k with|.B a=>(BP l2 a).isNone|_=>A1)))) A0):
  wpAny X.M A (eval (.Call g [.ListComp (.Name a p1) [⟨.Name a p2,.Name d p3,[.Compare (.Name a p4) [.NotIn] [.Subscript (.Name mm Jc) (.Constant (.str y) k0 Kh) Jd] Hy],0⟩] sc pos] [] p0) env) (Post X β s fr Q) AP s:=by
 subst hy;refine ab8 e2 (P:=λv l=>BD ρ i=.v v->Q (.v (.B (I (l.filter λk=>match k with|.B a=>(BP l2 a).isNone|_=>A1)))) A0->_) (λds ry BE gw e1 q=>?_) e1 q;obtain⟨ox,hox,e4⟩:∃o,E4 A0 xv=H o/\Jy X.G.AM o (.An n)=H (H s7):=by
  cases e:E4 A0 xv with
  |none=>unfold EG at e4;rw[e] at e4;exact nn e4|some o=>unfold EG at e4;rw[e] at e4;exact⟨o,rfl,e4⟩
 refine ru hox (P:=λv=>BD ρ j=.v v->_) (λxs xi hox e3=>?_) e3;refine ru e5 (P:=λv=>Jy _ ox _=H _->_) (λys Sk e5 e4=>?_) e4;exact ab9 BI hb hk hi hd nd hj nm ha Qp Nd na K S F e1 e3 hox e4 gw e5 (by
  rw[<-Ce (f:=V.B),<-(show(BE.map λp=>V.B p.1).filter (λk=>match k with|.B a=>(BP l2 a).isNone|_=>A1)=((BE.map _).filter _).map _ by rw[List.filter_map,List.filter_map,Qn];rfl)];exact q)
end
def gy(x:AY):Bool:=Ct x.ctorIdx 7
theorem aco(h:gy x=A1):∀v,foldedSetIterable x env v=pure v:=by intro v;cases x<;>first|rfl|exact Bp h.symm
theorem gz(h:gy x=A1):behindInMarks op x=A1:=by cases x<;>first|rfl|exact Bp h.symm
section
theorem Yz(h:D7 X c e x=U):gy x=A1:=by have h1:=fV (C4 (AD (AD (Uq e c x h))));cases x<;>first|rfl|exact absurd rfl h1|exact absurd rfl h2
theorem acp(h:fM X v x=U):Ow x=U:=by
 have k:∀{f:Const->Nat->Pos->Bool},J3 x f=U->Ow x=U:=λh=>Ka (P:=λx=>Ow x=U) h λz z z z=>rfl;cases v with
 |B i=>exact(QL.mp h).elim k λh=>Uf (P:=λx=>Ow x=U) h λo y p h=>Oh (P:=λo=>Ow (.UnaryOp o y p)=U) (AJ h).1 rfl|AV=>exact k h|Au b=>exact k h|An b=>exact k h|Ed b=>cases h
 |A3 b=>cases h
 |O a b=>cases h
variable{A0:A0}
theorem Post.Bo(k:∀t h,Q t h->Q' t h)(hf:K9=U->fr=U)(p:Post X β s fr Q y s'):Post X β s K9 Q' y s':=by obtain⟨t,H',β',q,r,g,f⟩:=p;exact⟨t,H',β',k _ _ q,r,g,λe=>f (hf e)⟩
theorem JX.Bo{Q Q':List V->Internal.A0->Prop}(k:∀t h,Q t h->Q' t h)(p:JX X β s Q y s'):JX X β s Q' y s':=by obtain⟨v,H',β',q,r,g⟩:=p;exact⟨v,H',β',k _ _ q,r,g⟩
structure Du(X:Cfg)(c:CY)(env:GS)(ρ:List T)(β:Af)(A0:Internal.A0)(m:Str->Option AG)(s:BS):Prop where
 S:Bh X β A0 s.heap
 F:DW X c env ρ β s.heap m
theorem Du.go(a:Du X c env ρ β A0 m s)(g:Go X β s A9 H1 s1):Du X c env ρ A9 H1 m s1:=⟨g.st,a.F.B5 a.S g.B5⟩
def VI(X:Cfg)(A:I_)(x:AY)(env:GS)(β:Af)(s:BS)(fr md:Bool)(Q:T->Internal.A0->Prop):Prop:=match md with
 |false=>wpAny X.M A (eval x env) (Post X β s fr Q) AP s|true=>wpAny X.M A (isTrue x env (eval x env)) (FW X β s Q) AP s
theorem G7(hx:Ow x=U)(h:∀fr,wpAny X.M A (eval x env) (Post X β s fr (Cp md Q)) AP s):VI X A x env β s fr md Q:=by
 cases md with
 |false=>exact h fr|true=>exact qt hx (h _)
theorem VJ(nm:behindInMarks op r=A1)(h:∀fr Q',(∀b h,Q (.v (.Au b)) h->Q' (.v (.Au b)) h)->wpAny X.M A (eval (.Compare l [op] [r] pos) env) (Post X β s fr Q') AP s):VI X A (.Compare l [op] [r] pos) env β s fr md Q:=by
 cases md with
 |false=>exact h fr Q λx x q=>q|true=>exact aaT nm (h _ _ λb h q=>⟨b,rfl,q⟩)
theorem Cf(h:VI X A x env β s fr A1 Q)(hf:K9=U->fr=U):wpAny X.M A (eval x env) (Post X β s K9 Q) AP s:=BY h λy y p=>p.Bo (λy y q=>q) hf
theorem Me(h:VI X A x env β s fr U Q):wpAny X.M A (isTrue x env (eval x env)) (FW X β s Q) AP s:=h
theorem Ek.Bb(R:Ek A (n+1)):Ek A n:=⟨by have:=R.1;exact BG 1 (.a (.a A2 (.m 3 BB)) (.k 5)) Aa (.a (.a A2 (.m 3 A7)) (.k 5)) Aa A4 [A.depth,n,recursionLimit] this,by have:=R.2.1;exact BG 1 (.a (.a A2 (.m 12 BB)) (.k 400)) Aa (.a (.a A2 (.m 12 A7)) (.k 400)) Aa A4 [A.units,n,cLine] this,R.2.2⟩
theorem acq:∀{b:E},QM b=U->b=.AO .AV:=by
 intro b h;cases b with
 |AO v=>cases v with
  |AV=>rfl|_=>exact Bp h
 |_=>exact Bp h
theorem s8(h:QM b=U):Az G C b A1 ρ A0 F=F (.v .AV) A0:=by rw[acq h];rfl
end
section
variable(X:Cfg)(C:Cl)(A:I_)
structure B4(e:E)(c:CY)(x:AY):Prop where
 go:∀{env:GS} {ρ:List T} {β:Af} {A0:A0} {m:Str->Option AG} {s:BS} {md:Bool} {Q:T->Internal.A0->Prop},CL c env->Du X c env ρ β A0 m s->Az X.G C e md ρ A0 Q->VI X A x env β s (H9 e) md Q
structure a6(es:Dg)(c:CY)(xs:List AY):Prop where
 go:∀{env:GS} {pos:Pos} {ρ:List T} {β:Af} {A0:A0} {m:Str->Option AG} {s:BS} {Q:List V->Internal.A0->Prop},CL c env->Du X c env ρ β A0 m s->HB X.G C es ρ A0 Q->wpAny X.M A (spliced (backTo pos (starEach xs env))) (JX X β s λvs h=>I vs=I xs/\Q vs h) AP s
structure Sn(es:Dg)(c:CY)(xs:List AY):Prop where
 go:∀{env:GS} {pos:Pos} {al:Bool} {ρ:List T} {β:Af} {A0:A0} {m:Str->Option AG} {s:BS} {Q:T->Internal.A0->Prop},CL c env->Du X c env ρ β A0 m s->S3 X.G C al es A1 ρ A0 Q->wpAny X.M A (boolOp pos (QY al) (evalEach xs env)) (Post X β s A1 Q) AP s
structure So(es:Dg)(c:CY)(xs:List AY):Prop where
 go:∀{env:GS} {al:Bool} {ρ:List T} {β:Af} {A0:A0} {m:Str->Option AG} {s:BS} {Q:T->Internal.A0->Prop},CL c env->Du X c env ρ β A0 m s->S3 X.G C al es U ρ A0 Q->wpAny X.M A (allTrue (QY al) xs env) (FW X β s Q) AP s
structure Qq(es:Dg)(c:CY)(ks:List (Option AY))(vs:List AY):Prop where
 go:∀{env:GS} {pos:Pos} {ρ:List T} {β:Af} {A0:A0} {m:Str->Option AG} {s:BS} {o:A_} {Q:A_->Internal.A0->Prop},CL c env->Du X c env ρ β A0 m s->JP X.G C es o ρ A0 Q->wpAny X.M A (evalPairs (Kg env pos ks vs)) (V3 X β s λxs h=>∃o',Oa X.G.AM o xs=H o'/\Q o' h) AP s
structure Qs(es:Dg)(c:CY)(ks:List (Option AY))(vs:List AY):Prop where
 go:∀{env:GS} {pos:Pos} {ρ:List T} {β:Af} {A0:A0} {m:Str->Option AG} {s:BS} {o:A_} {Q:A_->Internal.A0->Prop} {J8:Af} {H0:Internal.A0} {s0:BS} {d:BJ} {P:PUnit->BS->Prop},CL c env->Du X c env ρ J8 H0 m s0->
   s0.heap.get? d=AB->X.h₀.get? d=AB->Go X J8 s0 β A0 s->¬β.mut d->ER X β s.heap (d,d) o->Yc s.heap d->JP X.G C es o ρ A0 Q->
   (∀o' H' β' s',Go X J8 s0 β' H' s'->¬β'.mut d->ER X β' s'.heap (d,d) o'->Q o' H'->P LP s')->wpAny X.M A (forIn (Kg env pos ks vs) LP (Yd d)) P AP s
def Mf(e:E):Prop:=∀(c:CY) (x:AY),D7 X c e x=U->B4 X C A e c x
def s9(es:Dg):Prop:=∀(c:CY) (ks:List (Option AY)) (vs:List AY),NV X c es ks vs=U->Qq X C A es c ks vs/\Qs X C A es c ks vs
structure a7(es:Dg):Prop where
 s:∀(c:CY) (xs:List AY),MO X c es xs=U->a6 X C A es c xs/\Sn X C A es c xs/\So X C A es c xs
 d:s9 X C A es
 t:∀v es',es=.AR v es'->Mf X C A v/\s9 X C A es'
end
section
theorem acr(h1:c.Bt.lookup i=H n)(h2:c.Bc.lookup n=H .local\/c.Bc.lookup n=H .cell)(h3:(n==("__debug__":Str))=A1):B4 X C A (.Am i) c (.Name n p):=by
 refine⟨λ{env ρ β A0 m s md Q} K a w=>?_⟩;have wq:BD ρ i≠.AQ/\Cp md Q (BD ρ i) A0:=by
  have w:(match BD ρ i with|.AQ=>False|t=>Cp md Q t A0):=w;generalize BD ρ i=t at w;cases t with
  |AQ=>exact w.elim|v z=>exact⟨nofun,w⟩|Al z=>exact⟨nofun,w⟩|DT z=>exact⟨nofun,w⟩
 have key:wpAny X.M A (eval (.Name n p) env) _ AP s:=χ h1 h2 h3 K a.S ⟨m,a.F⟩ wq.1 wq.2 rfl;cases md with
 |false=>exact key|true=>exact qt rfl key
theorem acs(h1:Hs c n=U)(h2:∃m u,X.U_[k]?=H (m,u)/\m=n/\v=u):B4 X C A (.AW k v) c (.Name n p):=by refine⟨λ{env ρ β A0 m s md Q} K a w=>?_⟩;exact G7 rfl λfr=>ψ h1 h2 K a.S w
theorem acu(i:B4 X C A o c v)(h2:a'=X.G.AM k)(h3:Ia v=U):B4 X C A (.AN o k) c (.Attribute v a' p):=by refine⟨λ{env ρ β A0 m s md Q} K a w=>?_⟩;exact G7 rfl λfr=>ό h2 h3 (Cf (i.go K a w) nofun)
variable(BI:Ek A (n+1))(cs:NW X C n)
include BI
theorem acv(i1:B4 X C A o c v)(i2:B4 X C A k c z)(h2:D7 X c k z=U):B4 X C A (.AE o k) c (.Subscript v z p):=by refine⟨λ{env ρ β A0 m s md Q} K a w=>?_⟩;exact G7 rfl λfr=>Ϭ BI (ϥ h2) (Cf (i1.go K a w) nofun) λt A9 H1 s1 g w1=>Cf (i2.go K (a.go g) w1) nofun
omit BI in
theorem acw(i1:B4 X C A o c v)(i2:B4 X C A k c z):B4 X C A (.IA o k) c (.Subscript v (.Slice AB (H z) AB q) p):=by refine⟨λ{env ρ β A0 m s md Q} K a w=>?_⟩;exact G7 rfl λfr=>aaz (Cf (i1.go K a w) nofun) λt A9 H1 s1 g w1=>Cf (i2.go K (a.go g) w1) nofun
omit BI in
theorem acy(i1:B4 X C A e1 c u)(i2:B4 X C A e2 c v)(h7:(X.G.AM y).length<1000)(h8:(X.G.AM z).length<1000):
  B4 X C A (.Q4 e1 y e2 z) c (.JoinedStr [.FormattedValue u (-1) AB p1,.Constant (.str (X.G.AM y)) k1 p2,.FormattedValue v (-1) AB p3,.Constant (.str (X.G.AM z)) k2 p4] Jc):=by
 refine⟨λ{env ρ β A0 m s md Q} K a w=>?_⟩;refine G7 rfl λfr=>aa2 (n:=0) h7 h8 (R:=λt h1=>match t with
  |.v (.Ed ut)=>(Az X.G C e2 _ ρ h1 λt2 h2=>(match t2 with
   |.v (.B i)=>Dr i=U/\Cp md Q (.v (.Ed (ut++X.G.AM y++NL i++X.G.AM z))) h2|_=>False))
  |_=>False) ?_ λut H1 A9 s1 g w1=>Cf (i2.go K (a.go g) w1) nofun
 exact Cf (i1.go K a w) nofun
theorem acz{nm:Str}(h1:bi c "sorted" g=U)(i:B4 X C A e c v)(h3:nm="items")(h4:Ia v=U)(h5:(q.endLine==p.line)=U):B4 X C A (.Q5 e) c (.Call g [.Call (.Attribute v nm q) [] [] p] [] p2):=by refine⟨λ{env ρ β A0 m s md Q} K a w=>?_⟩;exact G7 rfl λfr=>abV BI.2.2 h1 h3 h4 h5 K a.S (Cf (i.go K a w) nofun)
theorem acA{nm:Str}(i1:B4 X C A o c v)(i2:B4 X C A k c x1)(i3:B4 X C A d c x2)(n2:FY x1=A1)(n3:FY x2=A1)(h4:nm="get")(h5:Ia v=U)(h6:(q.endLine==p.line)=U):
  B4 X C A (.H8 o k d) c (.Call (.Attribute v nm q) [x1,x2] [] p):=by
 refine⟨λ{env ρ β A0 m s md Q} K a w=>?_⟩;refine G7 rfl λfr=>aaj BI h4 h5 h6 n2 n3 (R:=λt h1=>match t with|.v x=>Az X.G C k _ ρ h1 λu h2=>opt u.Av λkv=>Az X.G C d A1 ρ h2 λw h3=>opt w.Av λdv=>opt (EG X.G.AM h3 x kv) λy=>Cp md Q (.v (y.getD dv)) h3|_=>False)
  (EH:=λx kv w h3=>opt w.Av λdv=>opt (EG X.G.AM h3 x kv) λy=>Cp md Q (.v (y.getD dv)) h3)
  ?_ (λx A9 H1 s1 g w1=>Cf (i2.go K (a.go g) w1) nofun) (λx t A9 H1 s1 g w1=>?_) λx kv t h3 w2=>?_
 .exact Cf (i1.go K a w) nofun
 .obtain ⟨kv,e,w1⟩:=w1
  exact⟨kv,T.Ic e,Cf (i3.go K (a.go g) w1) nofun⟩
 .obtain ⟨dv,e,y,e2,w2⟩:=w2
  exact⟨dv,y,T.Ic e,e2,w2⟩
theorem acB{nm:Str}(i1:B4 X C A o c v)(i2:B4 X C A k c x1)(n2:FY x1=A1)(h4:nm="get")(h5:Ia v=U)(h6:(q.endLine==p.line)=U):
  B4 X C A (.Rv o k) c (.Call (.Attribute v nm q) [x1] [] p):=by
 refine⟨λ{env ρ β A0 m s md Q} K a w=>?_⟩;refine G7 rfl λfr=>aak BI h4 h5 h6 n2 (R:=λt h1=>match t with|.v x=>Az X.G C k _ ρ h1 λu h2=>opt u.Av λkv=>opt (EG X.G.AM h2 x kv) λy=>Cp md Q (.v (y.getD .AV)) h2|_=>False)
  ?_ (λx A9 H1 s1 g w1=>Cf (i2.go K (a.go g) w1) nofun) λx t h3 w2=>?_
 .exact Cf (i1.go K a w) nofun
 obtain⟨kv,e,y,e2,w2⟩:=w2;exact⟨kv,y,T.Ic e,e2,w2⟩
theorem acC(i1:B4 X C A e1 c l)(i2:B4 X C A e2 c r)(h3:D7 X c e2 r=U):B4 X C A (.AS op e1 e2) c (.Compare l [NU op] [r] p):=by refine⟨λ{env ρ β A0 m s md Q} K a w=>?_⟩;refine VJ (gz (Yz h3)) λfr Q' hq=>aaf BI (Cf (i1.go K a w) nofun) λt A9 H1 s1 g w1=>?_;obtain⟨v,e,w1⟩:=w1;refine⟨v,T.Ic e,BY (Cf (K9:=A1) (i2.go K (a.go g) w1) nofun) λx x p=>p.Bo (λt h q=>?_) λe=>e⟩;obtain⟨y,e1,z,e2,q⟩:=q;exact⟨y,e1,z,e2,hq _ _ q⟩
omit BI in
theorem acD(i:B4 X C A e c l):B4 X C A (.LJ e) c (.Compare l [.Is] [.Constant .none k p] q):=by refine⟨λ{env ρ β A0 m s md Q} K a w=>?_⟩;refine VJ rfl λfr Q' hq=>aag (BY (Cf (K9:=A1) (i.go K a w) nofun) λx x p=>p.Bo (λt h q=>?_) λe=>e);obtain⟨y,e1,q⟩:=q;exact⟨y,e1,hq _ _ q⟩
omit BI in
theorem acE(i:B4 X C A e c l):B4 X C A (.MG e) c (.Compare l [.IsNot] [.Constant .none k p] q):=by refine⟨λ{env ρ β A0 m s md Q} K a w=>?_⟩;refine VJ rfl λfr Q' hq=>aah (BY (Cf (K9:=A1) (i.go K a w) nofun) λx x p=>p.Bo (λt h q=>?_) λe=>e);obtain⟨y,e1,q⟩:=q;exact⟨y,e1,hq _ _ q⟩
theorem sA(i1:B4 X C A e1 c l)(i2:B4 X C A e2 c r)(h3:D7 X c e2 r=U):B4 X C A (.A8 e1 e2) c (.Compare l [.In] [r] p)/\B4 X C A (.LK e1 e2) c (.Compare l [.NotIn] [r] p):=by
 have key:∀neg:Bool,B4 X C A (cond neg (.LK e1 e2) (.A8 e1 e2)) c (.Compare l [if neg then .NotIn else .In] [r] p):=by
  intro neg;refine⟨λ{env ρ β A0 m s md Q} K a w=>?_⟩;have w:Az X.G C e1 A1 ρ A0 λt h1=>opt t.Av λx=>Az X.G C e2 A1 ρ h1 λu h2=>opt u.Av λy=>opt (EG X.G.AM h2 y x) λz=>Q (.v (.Au (if neg then !z.isSome else z.isSome))) h2:=by cases neg<;>exact w
  refine VJ (gz (Yz h3)) λfr Q' hq=>ϳ rfl BI (gz (Yz h3)) (Cf (i1.go K a w) nofun) λt A9 H1 s1 g w1=>?_;obtain⟨v,e,w1⟩:=w1;refine⟨v,T.Ic e,BY (Cf (K9:=A1) (i2.go K (a.go g) w1) nofun) λb b p=>p.Bo (λt h q=>?_) λe=>e⟩;obtain⟨y,e1,z,e2,q⟩:=q;exact⟨y,e1,z,e2,hq _ _ q⟩
 exact⟨key A1,key U⟩
omit BI in
theorem acF{nm:Str}(i:B4 X C A e c l)(h2:nm="TID_PRIM")(h3:Hs c nm=U):B4 X C A (.Q6 e) c (.Compare l [.In] [.Name nm p] q):=by
 refine⟨λ{env ρ β A0 m s md Q} K a w=>?_⟩;refine VJ rfl λfr Q' hq=>ϴ h3 h2 K (BY (Cf (K9:=A1) (i.go K a w) nofun) λx x p=>p.Bo (λt h q=>?_) λe=>e);cases t with
 |v t=>cases t with
  |B b=>exact hq _ _ q|_=>exact q.elim
 |_=>exact q.elim
omit BI in
theorem acG(i1:B4 X C A e1 c t)(i2:B4 X C A e2 c u)(i3:B4 X C A e3 c v):B4 X C A (.Ay e1 e2 e3) c (.IfExp t u v p):=by
 refine⟨λ{env ρ β A0 m s md Q} K a w=>?_⟩;have t:=Me (i1.go K a w);cases md with
 |false=>exact aaV t (λA9 H1 s1 g w1=>Cf (i2.go K (a.go g) w1) λe=>(AJ e).1) λA9 H1 s1 g w1=>Cf (i3.go K (a.go g) w1) λe=>(AJ e).2|true=>exact aaW t (λA9 H1 s1 g w1=>Me (i2.go K (a.go g) w1)) λA9 H1 s1 g w1=>Me (i3.go K (a.go g) w1)
theorem acH(h1:NV X c es ks vs=U)(h3:I ks<=15\/I ks=17)(i1:Qq X C A es c ks vs)(i2:Qs X C A es c ks vs):B4 X C A (.Dm k si es) c (.Dict ks vs p):=by
 refine⟨λ{env ρ β A0 m s md Q} K a w=>?_⟩;refine G7 rfl λfr=>?_;rcases h3 with h3|h3
 .exact abd BI h1 h3 a.S λs0 g=>i1.go K (a.go g) w
 .refine abg (k:=k) (si:=si) h1 h3 a.S λd s0 e1 e2 g e3=>?_
  have nm:¬β.mut d:=λq=>by obtain⟨ob,e,_⟩:=a.S.LR q;rw[e1] at e;cases e
  exact i2.go K a e1 e2 g nm (ER.gJ e3) ⟨_,_,_,e3,rfl⟩ w λo' H' β' s' g' acI ro q=>⟨o',H',β',g',acI,ro,q⟩
omit BI in
theorem acJ(i:B4 X C A e c x):B4 X C A (.CH si e) c x:=by refine⟨λ{env ρ β A0 m s md Q} K a w=>?_⟩;obtain⟨rfl,hf,w⟩:=w;exact aan (Cf (i.go K a w) λy=>hf)
inductive Je(X:Cfg)(C:Cl)(A:I_)(c:CY):FG->E->E->AY->Prop
 |DU {a b:E} {g y:AY} {p:Pos}:bi c "range" g=U->D7 X c a y=U->B4 X C A a c y->QM b=U->Je X C A c .DU a b (.Call g [y] [] p)|H7 {a b:E} {g y z:AY} {p:Pos}:bi c "range" g=U->D7 X c a y=U->B4 X C A a c y->D7 X c b z=U->B4 X C A b c z->Je X C A c .H7 a b (.Call g [y,z] [] p)|Ci {a b:E} {x:AY}:D7 X c a x=U->B4 X C A a c x->QM b=U->Je X C A c .Ci a b x
omit BI in
theorem sC(h:fO c ik (λy=>D7 X c a y) (λy=>D7 X c b y) (QM b) x=U)(Jf:Mf X C A a)(ib:Mf X C A b):Je X C A c ik a b x:=by
 cases ik with
 |DU=>exact Oi h λg l k p h=>GU (P:=λl=>Je X C A c _ a b (.Call g l k p)) h λy h=>ID (P:=λk=>Je X C A c _ a b (.Call g [y] k p)) (AJ h).1 (.DU (AJ (AJ h).2).1 (AJ (AJ (AJ h).2).2).1 (Jf _ _ (AJ (AJ (AJ h).2).2).1) (AJ (AJ (AJ h).2).2).2)|H7=>exact Oi h λg l k p h=>K5 (P:=λl=>Je X C A c _ a b (.Call g l k p)) h λy l h=>GU (P:=λl=>Je X C A c _ a b (.Call g _ k p)) h λz h=> ID (P:=λk=>Je X C A c _ a b (.Call g _ k p)) (AJ h).1 (.H7 (AJ (AJ h).2).1 (AJ (AJ (AJ h).2).2).1 (Jf _ _ (AJ (AJ (AJ h).2).2).1) (AJ (AJ (AJ h).2).2).2 (ib _ _ (AJ (AJ (AJ h).2).2).2))|Ci=>exact .Ci (AJ h).1 (Jf _ _ (AJ h).1) (AJ h).2|Q3=>cases h
structure sD(c:CY)(sc:Scope)(Ac:List Nat)(t:AY):Prop where
 fn:sc.kind=.function
 Ai:P0 c sc.names Ac t
omit BI in
theorem h_(h3:Je X C A c ik e1 e2 it)(v:AG):foldedSetIterable it env v=pure v:=by
 cases h3 with
 |DU=>rfl|H7=>rfl|Ci h=>exact aco (Yz h) v
omit BI in
theorem i0{A0:A0}(ag:Je X C A c ik e1 e2 x)(K:CL c env)(a:Du X c env ρ β A0 m s)
  (w:Az X.G C e1 A1 ρ A0 λt h1=>Az X.G C e2 A1 ρ h1 λu h2=>opt u.Av λbv=>opt (HA h2 ik t bv) λl=>Q t bv l h2):
  wpAny X.M A (eval x env) (SW X A β s (H9 e1) ik Q) AP s:=by
 cases ag with
 |DU g1 g2 i g3=>
  refine abn g1 (J5 g2) K a.S (bv:=.AV) (BY (Cf (K9:=A1) (i.go K a w) nofun) λy y p=>p.Bo (λt h q=>?_) λe=>e);rw[s8 g3] at q;obtain⟨bv,eb,q⟩:=q;cases eb;exact q
 |H7 g1 g2 i g3 i2=>
  exact abq g1 (J5 g2) (J5 g3) K a.S (Cf (i.go K a w) nofun) λt A9 H1 s1 g w1=>Cf (i2.go K (a.go g) w1) nofun
 |Ci g2 i g3=>
  refine abt (bv:=.AV) (BY (Cf (i.go K a w) λe=>e) λy y p=>p.Bo (λt h q=>?_) λe=>e);rw[s8 g3] at q;obtain⟨bv,eb,q⟩:=q;cases eb;exact q
theorem acK{elt e1 e2 cond:E}(Ai:sD c sc Ac t)(h3:Je X C A c ik e1 e2 it)(i12:B4 X C A elt (Et c sc.names Ac t) y)
  (Mg:(ifs=[]/\cond=.AO (.Au U))\/∃z,ifs=[z]/\B4 X C A cond (Et c sc.names Ac t) z):B4 X C A (.Ez elt Ac ik e1 e2 cond) c (.ListComp y [⟨t,it,ifs,0⟩] sc p):=by
 refine⟨λ{env ρ β A0 m s md Q} K a w=>?_⟩;refine G7 rfl λfr=>abM (GK:=λr' h' Q'=>Az X.G C cond U r' h' λt h''=>match t with|.v (.Au b)=>Q' b h''|_=>False) (ik:=ik) (h_ h3) BI.2.2 K Ai.Ai Ai.fn a.S a.F (λNf m2 r' A9 H1 s1 Q' CP Qt w1=>Cf (i12.go (VC K Ai.Ai Ai.fn) ⟨CP,Qt⟩ w1) nofun) ?_ ?_
 .rcases Mg with⟨rfl,rfl⟩|⟨z,rfl,i6⟩
  .exact .inl ⟨rfl,λr' H1 Q' w1=>by obtain⟨b,e,w1⟩:=w1;cases e;exact w1⟩
  .exact .inr ⟨z,rfl,λNf m2 r' A9 H1 s1 Q' CP Qt w1=>Me (i6.go (VC K Ai.Ai Ai.fn) ⟨CP,Qt⟩ w1)⟩
 .exact rB (i0 h3 K a w)
theorem acL(h1:bi c "len" g=U)(h5:sc.kind=.function)(h6:c.Bt.lookup i=H d)(h7:c.Bc.lookup d=H .local\/c.Bc.lookup d=H .cell)(h8:(d==("__debug__":Str))=A1)(h9:c.Bt.lookup j=H mm)(sE:(mm==("__debug__":Str))=A1)
  (h12:(Es c sc.names).lookup nm=H .local)(Mg:Ul c sc.names=U)(a8:(Es c sc.names).lookup mm=H .cell)(acM:(nm==("__debug__":Str))=A1):
  B4 X C A (.Q7 i j k) c (.Call g [.ListComp (.Name nm p1) [⟨.Name nm p2,.Name d p3,[.Compare (.Name nm p4) [.NotIn] [.Subscript (.Name mm Jc) (.Constant (.str (X.G.AM k)) kk Kh) Jd] Hy],0⟩] sc Mh] [] KA):=by
 refine⟨λ{env ρ β A0 m s md Q} K a w=>?_⟩;have w:(match BD ρ i with
  |.v d=>opt (NN A0 d) λl=>match BD ρ j with
   |.v x=>opt _ λy=>opt y λy=>match E4 A0 y with
    |some (.Ad l2)=>Cp md Q (.v (.B (I (l.filter λk=>match k with|.B a=>(BP l2 a).isNone|_=>A1)))) A0|_=>False
   |_=>False
  |_=>False):=w
 generalize e1:BD ρ i=ti at w;cases ti with
 |v dv=>
  obtain⟨l,e2,w⟩:=w;generalize e3:BD ρ j=tj at w;cases tj with
  |v xv=>
   obtain⟨_,e4,y1,rfl,w⟩:=w;generalize e5:E4 A0 y1=o at w;cases o with
   |none=>exact w.elim|some o=>
    cases o with
    |Ad l2=>exact G7 rfl λfr=>acn BI h1 h5 h6 h7 h8 h9 sE rfl h12 (rL Mg) a8 acM K a.S a.F e1 e2 e3 e4 e5 w|_=>exact w.elim
  |_=>exact w.elim
 |_=>exact w.elim
omit BI in
theorem acN(i:B4 X C A e c x)(h:FY x=A1)(is:a6 X C A es c r):a6 X C A (.AR e es) c (x::r):=by
 refine⟨λ{env pos ρ β A0 m s Q} K a w=>?_⟩;refine ώ h (R:=λv h1=>HB X.G C es ρ h1 λvs h2=>Q (v::vs) h2) ?_ λv H1 A9 s1 g w1=>?_
 .exact Cf (i.go K a w) nofun
 .exact BY (is.go K (a.go g) w1) λy y p=>p.Bo λvs h q=>⟨by simp[q.1],q.2⟩
omit BI in
theorem acO(i:B4 X C A e c x):Sn X C A (.AR e .AH) c [x]/\So X C A (.AR e .AH) c [x]:=by
 constructor
 .refine ⟨λ{env pos al ρ β A0 m s Q} K a w=>?_⟩
  exact Cf (i.go K a w) nofun
 .refine ⟨λ{env al ρ β A0 m s Q} K a w=>?_⟩
  refine qu (Me (i.go K a w)) λb H1 A9 s1 g q=>⟨λhb=>?_,λhb=>q⟩;clear w;subst hb;exact aaY g.st q
omit BI in
theorem acP(i:B4 X C A e c x)(iv:Sn X C A (.AR e2 es) c (y::r))(it:So X C A (.AR e2 es) c (y::r)):Sn X C A (.AR e (.AR e2 es)) c (x::y::r)/\So X C A (.AR e (.AR e2 es)) c (x::y::r):=by
 constructor
 .refine ⟨λ{env pos al ρ β A0 m s Q} K a w=>?_⟩
  refine aaX (Cf (i.go K a w) nofun) λt H1 A9 s1 g w1=>?_;obtain⟨b,e1,w1⟩:=w1;refine⟨b,e1,λhb s2 g2=>?_,λhb=>?_⟩
  .rw [if_pos hb] at w1
   exact iv.go K (a.go g2) w1
  .rw [if_neg hb] at w1;exact w1
 .refine ⟨λ{env al ρ β A0 m s Q} K a w=>?_⟩
  refine qu (Me (i.go K a w)) λb H1 A9 s1 g q=>?_;obtain⟨b',e1,w1⟩:=q;cases e1;refine⟨λhb=>?_,λhb=>?_⟩
  .rw [if_pos hb] at w1
   exact it.go K (a.go g) w1
  .rw [if_neg hb] at w1;exact w1
omit BI in
theorem acQ:Qq X C A .AH c [] []/\Qs X C A .AH c [] []:=by
 constructor
 .refine ⟨λ{env pos ρ β A0 m s o Q} K a w=>?_⟩
  exact aa3 a.S ⟨o,rfl,w⟩
 .refine ⟨λ{env pos ρ β A0 m s o Q J8 H0 s0 d P} K a e1 e2 g nm ro hd w q=>?_⟩
  exact Bg (q o A0 β s g nm ro w)
theorem acR(i1:B4 X C A k c x)(i2:B4 X C A v c y)(i3:Qq X C A es c r t)(i4:Qs X C A es c r t):Qq X C A (.AR k (.AR v es)) c (H x::r) (y::t)/\Qs X C A (.AR k (.AR v es)) c (H x::r) (y::t):=by
 constructor
 .refine ⟨λ{env pos ρ β A0 m s o Q} K a w=>?_⟩
  refine aa4 (EH:=λkv xv h2=>opt (Ef X.G.AM o kv xv) λo'=>JP X.G C es o' ρ h2 Q)
   ?_ (λkv H1 A9 s1 g w1=>Cf (i2.go K (a.go g) w1) nofun) λkv xv H2 Br s2 g w2=>?_
  .exact Cf (i1.go K a w) nofun
  obtain⟨o',e,w2⟩:=w2;refine BY (i3.go K (a.go g) w2) λps s3 p=>?_;obtain⟨xs,H3,Ke,⟨o2,e2,q⟩,r,g3⟩:=p;exact⟨xs,H3,Ke,⟨o2,by show(match Ef _ o _ _ with|some o'=>Oa _ o' xs|none=>AB)=_;rw[e];exact e2,q⟩,r,g3⟩
 .refine ⟨λ{env pos ρ β A0 m s o Q J8 H0 s0 d P} K a e1 e2 g nm ro hd w q=>?_⟩
  refine aa9 (by have:=BI.2.1;exact BG 1 (.a (.a A2 (.m 12 BB)) (.k 400)) Aa (.a (.a A2 (.k 200)) AF) Aa A4 [A.units,n,cLine] this) g e1 e2 nm ro hd (EH:=λo' h2=>JP X.G C es o' ρ h2 Q)
   ?_ (λkv H1 A9 s1 g1 w1=>Cf (i2.go K (a.go (g.Aw g1)) w1) nofun) λo' H2 Br s2 g2 acS acT hd2 w2=>?_
  .exact Cf (i1.go K (a.go g) w) nofun
  exact i4.go K a e1 e2 g2 acS acT hd2 w2 q
omit BI in
theorem acU:a7 X C A .AH where
 s:=λc xs h=>fW h▸⟨⟨λK a w=>ύ a.S ⟨rfl,w⟩⟩,⟨λK a w=>w.elim⟩,⟨λK a w=>w.elim⟩⟩
 d:=λc ks vs h=>r6 (P:=λks vs=>Qq X C A _ c ks vs/\Qs X C A _ c ks vs) h acQ
 t:=λx x e=>nomatch e
theorem acV(i:Mf X C A e)(is:a7 X C A es):a7 X C A (.AR e es) where
 s:=λc xs h=>fX (P:=λxs=>a6 X C A _ c xs/\Sn X C A _ c xs/\So X C A _ c xs) h λx r h1 h2=>by
  refine⟨acN (i c x h1) (J5 h1) (is.s c r h2).1,?_⟩;cases es with
  |AH=>exact fW h2▸acO (i c x h1)|AR e2 es=>exact fX (P:=λr=>Sn X C A _ c _/\So X C A _ c _) h2 λy r h3 h4=>acP (i c x h1) (is.s c (y::r) ((Gq ..).mpr ⟨h3,h4⟩)).2.1 (is.s c (y::r) ((Gq ..).mpr ⟨h3,h4⟩)).2.2
 d:=λc ks vs h=>by
  cases es with
  |AH=>exact(r7 h).elim|AR v es=>exact r8 (P:=λks vs=>Qq X C A _ c ks vs/\Qs X C A _ c ks vs) h λx r y t h1 h2 h3=>acR BI (i c x h1) ((is.t v es rfl).1 c y h2) ((is.t v es rfl).2 c r t h3).1 ((is.t v es rfl).2 c r t h3).2
 t:=λv es' q=>by cases q;exact⟨i,is.d⟩
omit BI in
theorem acW(i:B4 X C A e c y):B4 X C A (.NH e) c (.UnaryOp .Not y p):=by refine⟨λ{env ρ β A0 m s md Q} K a w=>?_⟩;obtain⟨h,w2⟩:=(w);clear w;subst h;exact aaU (Me (i.go K a w2))
omit BI in
theorem VK{n:Str}(h:(n !=("__debug__":Str))=U):(n==("__debug__":Str))=A1:=by simpa using h
omit BI in
theorem acX(h:oi e=U):e=.AO (.Au U):=by
 cases e with
 |AO v=>
  cases v with
  |Au b=>
   cases b with
   |true=>rfl|false=>exact Bp h
  |_=>exact Bp h
 |_=>exact Bp h
omit BI in
theorem acY(h:D7 X c (.Q4 e1 y e2 z) x=U)(i1:∀u,D7 X c e1 u=U->B4 X C A e1 c u)(i2:∀u,D7 X c e2 u=U->B4 X C A e2 c u):B4 X C A (.Q4 e1 y e2 z) c x:=by
 let R:=B4 X C A (.Q4 e1 y e2 z) c
 exact oU (P:=R) h λl p h=>K5 (P:=λl=>R (.JoinedStr l p)) h λa1 l h=>K5 (P:=λl=>R (.JoinedStr _ p)) h λa2 l h=>K5 (P:=λl=>R (.JoinedStr (a1::a2::l) p)) h λa3 l h=>GU (P:=λl=>R (.JoinedStr (a1::a2::a3::l) p)) h λa4 h=>
  oV (P:=λa1=>R (.JoinedStr [a1,a2,a3,a4] p)) h λu j s p1 h=>Ka (P:=λa2=>R (.JoinedStr [.FormattedValue u j s p1,a2,a3,a4] p)) h λP6 k1 p2 h=>Y9 (P:=λP6=>R (.JoinedStr [.FormattedValue u j s p1,.Constant P6 k1 p2,a3,a4] p)) h λs1 h=>
  oV (P:=λa3=>R (.JoinedStr [.FormattedValue u j s p1,.Constant _ k1 p2,a3,a4] p)) h λv j2 t p3 h=>Ka (P:=λa4=>R (.JoinedStr [.FormattedValue u j s p1,.Constant _ k1 p2,.FormattedValue v j2 t p3,a4] p)) h λB7 k2 p4 h=>Y9 (P:=λB7=>R (.JoinedStr [.FormattedValue u j s p1,.Constant _ k1 p2,.FormattedValue v j2 t p3,.Constant B7 k2 p4] p)) h λs2 h=>by refine Uj (P:=λs=>R (.JoinedStr [.FormattedValue u j s p1,.Constant _ k1 p2,.FormattedValue v j2 t p3,.Constant _ k2 p4] p)) (C4 h) (Uj (P:=λt=>R (.JoinedStr [.FormattedValue u j AB p1,.Constant _ k1 p2,.FormattedValue v j2 t p3,.Constant _ k2 p4] p)) (C4 (AD h)) ?_);rw[beq_iff_eq.mp (C4 (AD (AD h))),beq_iff_eq.mp (C4 (AD (AD (AD h)))),<-beq_iff_eq.mp (C4 (AD (AD (AD (AD h))))),<-beq_iff_eq.mp (C4 (AD (AD (AD (AD (AD h))))))];exact acy (i1 u (C4 (AD (AD (AD (AD (AD (AD h)))))))) (i2 v (C4 (AD (AD (AD (AD (AD (AD (AD h))))))))) (by rw[beq_iff_eq.mp (C4 (AD (AD (AD (AD h)))))];exact of_decide_eq_true (C4 (AD (AD (AD (AD (AD (AD (AD (AD h)))))))))) (by rw[beq_iff_eq.mp (C4 (AD (AD (AD (AD (AD h))))))];exact of_decide_eq_true (AD (AD (AD (AD (AD (AD (AD (AD (AD h))))))))))
structure a9(X:Cfg)(C:Cl)(A:I_)(c:CY)(elt e1 e2 cond:E)(Ac:List Nat)(ik:FG)(y t it:AY)(ifs:List AY)(sc:Scope):Prop where
 Ai:sD c sc Ac t
 AU:Je X C A c ik e1 e2 it
 el:B4 X C A elt (Et c sc.names Ac t) y
 cd:(ifs=[]/\cond=.AO (.Au U))\/∃z,ifs=[z]/\B4 X C A cond (Et c sc.names Ac t) z
omit BI in
theorem i7{elt e1 e2 cond:E}{Ac:List Nat}{ik:FG}{x:AY}(h:D7 X c (.Ez elt Ac ik e1 e2 cond) x=U)(FI:Mf X C A elt)(i1:Mf X C A e1)(i2:Mf X C A e2)(id:Mf X C A cond)
  {P:AY->Prop}(k:∀y t it ifs sc p,a9 X C A c elt e1 e2 cond Ac ik y t it ifs sc->P (.ListComp y [⟨t,it,ifs,0⟩] sc p)):P x:=by
 refine fF h λy g sc p h=>GU (P:=λg=>P (.ListComp y g sc p)) h λg h=>?_;obtain⟨t,it,ifs,Jf⟩:=g;refine Oh (P:=λJf=>P (.ListComp y [⟨t,it,ifs,Jf⟩] sc p)) (C4 h) (k y t it ifs sc p ⟨⟨beq_iff_eq.mp (C4 (AD h)),oj (C4 (AD (AD (AD h)))),λn hn=>beq_iff_eq.mp (Gm.mp (C4 (AD (AD (AD (AD (AD h)))))) n hn),(C4 (AD (AD (AD (AD (AD (AD h))))))),(C4 (AD (AD (AD (AD (AD (AD (AD h)))))))),rL (C4 (AD (AD (AD (AD (AD (AD (AD (AD h))))))))),λi hi=>of_decide_eq_true (Gm.mp (C4 (AD (AD (AD (AD (AD (AD (AD (AD (AD h)))))))))) i hi)⟩,sC (C4 (AD (AD h))) i1 i2,FI _ _ (C4 (AD (AD (AD (AD (AD (AD (AD (AD (AD (AD (AD h)))))))))))),?_⟩);have Mg:=(AD (AD (AD (AD (AD (AD (AD (AD (AD (AD (AD (AD h))))))))))));cases ifs with
 |nil=>exact .inl ⟨rfl,acX Mg⟩|cons z r=>exact ID (P:=λr=>(z::r=[]/\cond=.AO _)\/∃z',z::r=[z']/\B4 X C A cond _ z') (C4 Mg) (.inr ⟨z,rfl,id _ _ (AD Mg)⟩)
omit BI in
theorem ac0{P:AY->Prop}{g:AY}{a a2 a3 d mm y sF:Str}{o:CmpOp}{Jf:Int}{k2:Nat}{p1 p2 p3 p4 Jc Kh Jd Hy Mh KA:Pos}{sc:Scope}(e1:o=.NotIn)(e2:a=a2)(e3:a=a3)(e4:Jf=0)(e5:sF=y)
  (h:P (.Call g [.ListComp (.Name a p1) [⟨.Name a p2,.Name d p3,[.Compare (.Name a p4) [.NotIn] [.Subscript (.Name mm Jc) (.Constant (.str sF) k2 Kh) Jd] Hy],0⟩] sc Mh] [] KA)):P (.Call g [.ListComp (.Name a p1) [⟨.Name a2 p2,.Name d p3,[.Compare (.Name a3 p4) [o] [.Subscript (.Name mm Jc) (.Constant (.str y) k2 Kh) Jd] Hy],Jf⟩] sc Mh] [] KA):=by
 cases e1;cases e2;cases e3;cases e4;cases e5;exact h
theorem ac1(h:D7 X c (.Q7 i j k) x=U):B4 X C A (.Q7 i j k) c x:=by
 let R:=B4 X C A (.Q7 i j k) c
 refine Oi (P:=R) h λg l kk KA h=>GU (P:=λl=>R (.Call g l kk KA)) h λq h=>fF (P:=λq=>R (.Call g [q] kk KA)) h λy gs sc Mh h=>GU (P:=λgs=>R (.Call g [.ListComp y gs sc Mh] kk KA)) h λg1 h=>?_;obtain⟨t,it,ifs,Jf⟩:=g1;refine HF (P:=λy=>R (.Call g [.ListComp y _ sc Mh] kk KA)) h λa p1 h=>HF (P:=λt=>R (.Call g [.ListComp _ [⟨t,it,ifs,Jf⟩] sc Mh] kk KA)) h λa2 p2 h=>HF (P:=λit=>R (.Call g [.ListComp _ [⟨_,it,ifs,Jf⟩] sc Mh] kk KA)) h λd p3 h=>
  GU (P:=λifs=>R (.Call g [.ListComp _ [⟨_,_,ifs,Jf⟩] sc Mh] kk KA)) h λz h=>?_
 let EH:=λz=>R (.Call g [.ListComp (.Name a p1) [⟨.Name a2 p2,.Name d p3,[z],Jf⟩] sc Mh] kk KA)
 refine fE h λu os rs Hy h=>GU (P:=λos=>EH (.Compare u os rs Hy)) h λo h=>GU (P:=λrs=>EH (.Compare u [o] rs Hy)) h λr h=>HF (P:=λu=>EH (.Compare u [o] [r] Hy)) h λa3 p4 h=>Ug (P:=λr=>EH (.Compare _ [o] [r] Hy)) h λv s Jd h=>
  HF (P:=λv=>EH (.Compare _ [o] [.Subscript v s Jd] Hy)) h λmm Jc h=>Ka (P:=λs=>EH (.Compare _ [o] [.Subscript _ s Jd] Hy)) h λq k2 Kh h=>Y9 (P:=λq=>EH (.Compare _ [o] [.Subscript _ (.Constant q k2 Kh) Jd] Hy)) h λy h=>?_
 exact ID (P:=λkk=>B4 X C A _ c (.Call g _ kk KA)) (C4 h)
  (ac0 (P:=λx=>B4 X C A _ c x) (beq_iff_eq.mp (C4 (AD h))) (beq_iff_eq.mp (C4 (AD (AD (AD h))))) (beq_iff_eq.mp (C4 (AD (AD (AD (AD h)))))) (beq_iff_eq.mp (C4 (AD (AD (AD (AD (AD h))))))) (beq_iff_eq.mp (C4 (AD (AD (AD (AD (AD (AD (AD (AD (AD (AD (AD (AD h)))))))))))))) (acL BI (C4 (AD (AD h))) (beq_iff_eq.mp (C4 (AD (AD (AD (AD (AD (AD h)))))))) (beq_iff_eq.mp (C4 (AD (AD (AD (AD (AD (AD (AD h))))))))) (YB (C4 (AD (AD (AD (AD (AD (AD (AD (AD h)))))))))) (VK (C4 (AD (AD (AD (AD (AD (AD (AD (AD (AD h))))))))))) (beq_iff_eq.mp (C4 (AD (AD (AD (AD (AD (AD (AD (AD (AD (AD h)))))))))))) (VK (C4 (AD (AD (AD (AD (AD (AD (AD (AD (AD (AD (AD h))))))))))))) (beq_iff_eq.mp (C4 (AD (AD (AD (AD (AD (AD (AD (AD (AD (AD (AD (AD (AD h))))))))))))))) (C4 (AD (AD (AD (AD (AD (AD (AD (AD (AD (AD (AD (AD (AD (AD h))))))))))))))) (beq_iff_eq.mp (C4 (AD (AD (AD (AD (AD (AD (AD (AD (AD (AD (AD (AD (AD (AD (AD h))))))))))))))))) (VK (AD (AD (AD (AD (AD (AD (AD (AD (AD (AD (AD (AD (AD (AD (AD (AD h)))))))))))))))))))
include cs in
theorem sG:∀e:E,Mf X C A e:=@E.rec (Mf X C A) (a7 X C A)
 (λv c x h=>⟨λK a w=>G7 (acp h) λfr=>φ h a.S w⟩)
 (λi c x h=>HF (P:=λx=>B4 X C A (.Am i) c x) h λn p h=>acr (beq_iff_eq.mp (AJ h).1) (YB (AJ (AJ h).2).1) (VK (AJ (AJ h).2).2))
 (λk v c x h=>HF (P:=λx=>B4 X C A (.AW k v) c x) h λn p h=>acs (AJ h).1 (Ui (P:=λo=>∃m u,o=H (m,u)/\m=n/\v=u) (AJ h).2 λq h=>⟨q.1,q.2,rfl,beq_iff_eq.mp (AJ h).1,(ι (AJ h).2).symm⟩))
 (λo n i c x h=>Y5 (P:=λx=>B4 X C A (.AN o n) c x) h λv a p h=>acu (i c v (AJ h).1) (beq_iff_eq.mp (AJ (AJ h).2).1) (AJ (AJ h).2).2)
 (λo k i1 i2 c x h=>Ug (P:=λx=>B4 X C A (.AE o k) c x) h λv z p h=>acv BI (i1 c v (AJ h).1) (i2 c z (AJ h).2) (AJ h).2)
 (λo k i1 i2 c x h=>Ug (P:=λx=>B4 X C A (.IA o k) c x) h λv z p h=>Ω (P:=λz=>B4 X C A (.IA o k) c (.Subscript v z p)) h λa b d q h=>Uj (P:=λa=>B4 X C A (.IA o k) c (.Subscript v (.Slice a b d q) p)) (AJ h).1 (Uj (P:=λd=>B4 X C A (.IA o k) c (.Subscript v (.Slice AB b d q) p)) (AJ (AJ h).2).1
  (Ui (P:=λb=>B4 X C A (.IA o k) c (.Subscript v (.Slice AB b AB q) p)) (AJ (AJ (AJ h).2).2).2 λz hz=>acw (i1 c v (AJ (AJ (AJ h).2).2).1) (i2 c z hz))))
 (λf es is c x h=>Oi (P:=λx=>B4 X C A (.Ab f es) c x) h λg l k p h=>HF (P:=λg=>B4 X C A (.Ab f es) c (.Call g l k p)) h λn q h=>ID (P:=λk=>B4 X C A (.Ab f es) c (.Call (.Name n q) l k p)) (AJ h).1 (by
  have h:=(AJ h).2;refine⟨λ{env ρ β A0 m s md Q} K a w=>?_⟩;exact G7 rfl λfr=>ϐ cs BI.Bb (beq_iff_eq.mp (AJ h).1) (AJ (AJ h).2).1 (AJ (AJ (AJ h).2).2).1 (AJ (AJ (AJ h).2).2).2 K a.S (BY ((is.s c l (AJ (AJ (AJ h).2).2).2).1.go K a w) λY Y p=>p.Bo λY Y q=>q.2)))
 (λk si es is c x h=>Oi (P:=λx=>B4 X C A (.FS k si es) c x) h λg l kk p h=>HF (P:=λg=>B4 X C A (.FS k si es) c (.Call g l kk p)) h λn q h=>ID (P:=λkk=>B4 X C A (.FS k si es) c (.Call (.Name n q) l kk p)) (AJ h).1 (by
  have h:=(AJ h).2;refine⟨λ{env ρ β A0 m s md Q} K a w=>?_⟩;exact G7 rfl λfr=>ϗ cs BI (beq_iff_eq.mp (AJ h).1) (AJ (AJ h).2).1 (AJ (AJ (AJ h).2).2).1 (AJ (AJ (AJ h).2).2).2 K a.S (BY ((is.s c l (AJ (AJ (AJ h).2).2).2).1.go K a w) λY Y p=>p.Bo λY Y q=>q.2)))
 (λo n es i is c x h=>Um (P:=λx=>B4 X C A (.EB o n es) c x) h λv nm l q p h5 h3 h=>by
  refine⟨λ{env ρ β A0 m s md Q} K a w=>?_⟩;refine G7 rfl λfr=>ϕ cs BI.Bb (beq_iff_eq.mp (AJ (AJ h).2).1) h3 (AJ (AJ (AJ h).2).2).1 (beq_iff_eq.mp h5) (of_decide_eq_true (AJ (AJ (AJ h).2).2).2) ?_ λA9 H1 s1 Q1 g w1=>BY ((is.s c l (AJ (AJ (AJ h).2).2).1).1.go K (a.go g) w1) λY Y p=>p.Bo λY Y q=>q.2;exact Cf ((i c v (AJ h).1).go K a w) nofun)
 (λe i c x h=>SG (P:=λx=>B4 X C A (.Aj e) c x) h λg a' p hb h=>by
  refine⟨λ{env ρ β A0 m s md Q} K a w=>?_⟩;refine G7 rfl λfr=>ϰ hb (J5 (e:=e) h) K a.S ?_;exact Cf ((i c a' h).go K a w) nofun)
 (λe i c x h=>SG (P:=λx=>B4 X C A (.FH e) c x) h λg a' p hb h=>by
  refine⟨λ{env ρ β A0 m s md Q} K a w=>?_⟩;refine G7 rfl λfr=>aao hb (J5 (e:=e) h) K a.S ?_;exact Cf ((i c a' h).go K a w) nofun)
 (λe i c x h=>SG (P:=λx=>B4 X C A (.UN e) c x) h λg a' p hb h=>by
  refine⟨λ{env ρ β A0 m s md Q} K a w=>?_⟩;refine G7 rfl λfr=>aap hb (J5 (e:=e) h) K a.S ?_;exact Cf ((i c a' h).go K a w) nofun)
 (λe i c x h=>SG (P:=λx=>B4 X C A (.An e) c x) h λg a' p hb h=>by
  refine⟨λ{env ρ β A0 m s md Q} K a w=>?_⟩;refine G7 rfl λfr=>aa0 hb (J5 (e:=e) h) K a.S ?_;exact Cf ((i c a' h).go K a w) nofun)
 (λe1 y e2 z i1 i2 c x h=>acY h (i1 c) (i2 c))
 (λe i c x h=>SG (P:=λx=>B4 X C A (.XY e) c x) h λg a' p hb h=>by
  refine⟨λ{env ρ β A0 m s md Q} K a w=>?_⟩;refine G7 rfl λfr=>abU BI.2.2 hb (J5 (e:=e) h) K a.S ?_;exact Cf ((i c a' h).go K a w) nofun)
 (λe i c x h=>SG (P:=λx=>B4 X C A (.Q5 e) c x) (show Oj "sorted" (λc x=>QO x λv n l=>n=="items"&&(GF l&&D7 X c e v)) c x=U from h) λg a' p hb h=>Um (P:=λa'=>B4 X C A (.Q5 e) c (.Call g [a'] [] p)) h λv nm l q p2 h5 h4 h=>ID (P:=λl=>B4 X C A (.Q5 e) c (.Call g [.Call (.Attribute v nm q) l [] p2] [] p)) (AJ (AJ h).2).1
  (acz BI hb (i c v (AJ (AJ h).2).2) (beq_iff_eq.mp (AJ h).1) h4 h5))
 (λo k d i1 i2 i3 c x h=>Um (P:=λx=>B4 X C A (.H8 o k d) c x) h λv nm l q p h6 h5 h=>K5 (P:=λl=>B4 X C A (.H8 o k d) c (.Call (.Attribute v nm q) l [] p)) h λx1 l h=>GU (P:=λl=>B4 X C A (.H8 o k d) c (.Call (.Attribute v nm q) (x1::l) [] p)) h λx2 h=>
  have h':=AJ (AJ (AJ h).2).2
  acA BI (i1 c v (AJ (AJ h).2).1) (i2 c x1 h'.1) (i3 c x2 h'.2) (J5 (e:=k) h'.1) (J5 (e:=d) h'.2) (beq_iff_eq.mp (AJ h).1) h5 h6)
 (λo k i1 i2 c x h=>Um (P:=λx=>B4 X C A (.Rv o k) c x) h λv nm l q p h6 h5 h=>GU (P:=λl=>B4 X C A (.Rv o k) c (.Call (.Attribute v nm q) l [] p)) h λx1 h=>
  acB BI (i1 c v (AJ (AJ h).2).1) (i2 c x1 (AJ (AJ h).2).2) (J5 (e:=k) (AJ (AJ h).2).2) (beq_iff_eq.mp (AJ h).1) h5 h6)
 (λop e1 e2 i1 i2 c x h=>oE (P:=λx=>B4 X C A (.C9 op e1 e2) c x) h λl o r p h=>Oh (P:=λo=>B4 X C A (.C9 op e1 e2) c (.BinOp l o r p)) (AJ h).1 (by
  have h:=(AJ h).2;refine⟨λ{env ρ β A0 m s md Q} K a w=>?_⟩;refine G7 rfl λfr=>aaP BI ?_ λt A9 H1 s1 g w1=>Cf ((i2 c r (AJ h).2).go K (a.go g) w1) nofun;exact Cf ((i1 c l (AJ h).1).go K a w) nofun))
 (λop e1 e2 i1 i2 c x h=>SH (P:=λx=>B4 X C A (.AS op e1 e2) c x) h λl r p h1 h2=>acC BI (i1 c l h1) (i2 c r h2) h2)
 (λe i c x h=>SH (P:=λx=>B4 X C A (.LJ e) c x) (show MN .Is (λc x=>D7 X c e x) (λY y=>J3 y λk Y Y=>SD k) c x=U from h) λl r p h1 h2=>Ka (P:=λr=>B4 X C A (.LJ e) c (.Compare l [.Is] [r] p)) h2 λk n q h=>fJ (P:=λk=>B4 X C A (.LJ e) c (.Compare l [.Is] [.Constant k n q] p)) h (acD (i c l h1)))
 (λe i c x h=>SH (P:=λx=>B4 X C A (.MG e) c x) (show MN .IsNot (λc x=>D7 X c e x) (λY y=>J3 y λk Y Y=>SD k) c x=U from h) λl r p h1 h2=>Ka (P:=λr=>B4 X C A (.MG e) c (.Compare l [.IsNot] [r] p)) h2 λk n q h=>fJ (P:=λk=>B4 X C A (.MG e) c (.Compare l [.IsNot] [.Constant k n q] p)) h (acE (i c l h1)))
 (λe1 e2 i1 i2 c x h=>SH (P:=λx=>B4 X C A (.A8 e1 e2) c x) h λl r p h1 h2=>(sA BI (i1 c l h1) (i2 c r h2) h2).1)
 (λe1 e2 i1 i2 c x h=>SH (P:=λx=>B4 X C A (.LK e1 e2) c x) h λl r p h1 h2=>(sA BI (i1 c l h1) (i2 c r h2) h2).2)
 (λe i c x h=>SH (P:=λx=>B4 X C A (.Q6 e) c x) (show MN .In (λc x=>D7 X c e x) (λc y=>GD y λn Y=>n=="TID_PRIM"&&Hs c n) c x=U from h) λl r p h1 h2=>HF (P:=λr=>B4 X C A (.Q6 e) c (.Compare l [.In] [r] p)) h2 λn q h=>acF (i c l h1) (beq_iff_eq.mp (AJ h).1) (AJ h).2)
 (λal es is c x h=>oG (P:=λx=>B4 X C A (.CF al es) c x) h λo l p h=>Oh (P:=λo=>B4 X C A (.CF al es) c (.BoolOp o l p)) (AJ h).1 (by
  have h:=(is.s c l (AJ h).2).2;refine⟨λ{env ρ β A0 m s md Q} K a w=>?_⟩;cases md with
  |false=>exact h.1.go K a w|true=>exact h.2.go K a w))
 (λe i c x h=>Uf (P:=λx=>B4 X C A (.NH e) c x) h λo y p h=>Oh (P:=λo=>B4 X C A (.NH e) c (.UnaryOp o y p)) (AJ h).1 (acW (i c y (AJ h).2)))
 (λe1 e2 e3 i1 i2 i3 c x h=>oJ (P:=λx=>B4 X C A (.Ay e1 e2 e3) c x) h λt u v p h=>acG (i1 c t (AJ h).1) (i2 c u (AJ (AJ h).2).1) (i3 c v (AJ (AJ h).2).2))
 (λes is c x h=>Y7 (P:=λx=>B4 X C A (.A3 es) c x) h λl k p h=>by
  refine⟨λ{env ρ β A0 m s md Q} K a w=>?_⟩;exact G7 rfl λfr=>aal (of_decide_eq_true (AJ h).2) ((is.s c l (AJ h).1).1.go K a w))
 (λes is c x h=>oO (P:=λx=>B4 X C A (.A6 es) c x) h λl p h=>by
  refine⟨λ{env ρ β A0 m s md Q} K a w=>?_⟩;exact G7 rfl λfr=>aam (of_decide_eq_true (AJ h).2) ((is.s c l (AJ h).1).1.go K a w))
 (λk si es is c x h=>oR (P:=λx=>B4 X C A (.Dm k si es) c x) h λks vs p h=>acH BI (AJ h).1 ((QL.mp (AJ h).2).imp (λh=>of_decide_eq_true h) λh=>beq_iff_eq.mp h) (is.d c ks vs (AJ h).1).1 (is.d c ks vs (AJ h).1).2)
 (λsi e i c x h=>acJ (i c x h))
 (λelt Ac ik e1 e2 cond FI i1 i2 id c x h=>i7 (P:=λx=>B4 X C A (.Ez elt Ac ik e1 e2 cond) c x) h FI i1 i2 id λy t it ifs sc p D=>acK BI D.Ai D.AU D.el D.cd)
 (λi j k c x h=>ac1 BI h)
 acU (λe es i is=>acV BI i is)
end
section
variable{X:Cfg}
theorem ac2{k:Int}{E:AG->BS->Prop}(hl:F0 s.heap l xs)(h0:0<=k)(hfit:k<2^63)(hn:k<I xs)
  (hQ:∀h',F0 h' l (xs.set k.toNat v)->Hr l s.heap h'->P Qa {s with heap:=h'}):wpAny X.M A (setItem (.ref l) (.int k t) v) P E s:=by
 obtain⟨ne,ho⟩:=hl;have hL:s.heap.IsList l xs.toArray:=⟨_,ho,rfl,ne,rfl⟩;unfold setItem;try with_reducible refine GX ?_
 refine Ao (fh hL.typeIs () ?_);refine Ao (fi hL.typeIs slot_list_setitem
  (Ot slot_list_setitem hL.typeIs entry_list_setitem ?_ (args_list_setitem _ _ _)))
 show wpAny _ _ (Builtin.List.listSubscript? (.int k t)>>=_) _ _ s;refine Ao (wpAny_listSubscript_int (fitsIndex_of h0 hfit) ?_);clear hfit;obtain⟨j,rfl⟩:=Ov h0;have hj:j<xs.toArray.size:=by simp;exact DM.mp (Ax 1 AI A7 AI A7 A4 [j,I xs] hn)
 have hx':=Array.getElem?_eq_getElem hj;refine Ao (Ao (wpAny_seqItemAt ho rfl (Bg ?_)));rw[hx'];have i8:F0 (s.heap.update l (gm (·.setIfInBounds j v))) l (xs.set j v):=by
  have:=get?_update_seq ho (λa=>a.setIfInBounds j v);refine⟨if((xs.toArray.setIfInBounds j v).size==xs.toArray.size)=U then ne else ne+1,this.trans ?_⟩;have e:xs.toArray.setIfInBounds j v=(xs.set j v).toArray:=by simp
  unfold FT seqObj;rw[e]
 refine Ao (wpAny_setSeqItemAt ho rfl ?_);first
  |assumption|exact Bg ⟨.none,rfl,Bg (hQ _ i8 (ac3 ..))⟩
theorem ac4{E:AG->BS->Prop}(hT:s.TypeIs (.ref d) "dict")(h:wpAny X.M A.in1 (dictSet d key v) P E s):wpAny X.M A (setItem (.ref d) key v) P E s:=by
 unfold setItem;try with_reducible refine GX ?_
 refine Ao (fh hT () ?_);refine Ao (fi hT slot_dict_setitem
  (Ot slot_dict_setitem hT entry_dict_setitem ?_ (args_dict_setitem ..)))
 refine Ao (wpAny_notOrdered_dict hT ?_);show wpAny _ _ (dictSet d key v>>=_) _ _ s;exact Ao (HH h (λx s' q=>Bg ⟨_,rfl,Bg q⟩) λx x e=>e)
theorem IR.Cy:∀{l:List (Nat×V)} {es:List Fz},IR X β h l es->I es=I l:=by
 intro BE;induction BE with
 |nil=>
  rintro _ e;cases e;rfl
 |cons hd0 r ih=>
  rintro _ ⟨hs,t,y,es,rfl,_,ht⟩;simp[ih ht]
theorem IR.put(rv:BN X.G.AM β h v y):∀{l:List (Nat×V)} {es:List Fz},IR X β h l es->IR X β h (CX l n v) (Sp (X.G.AM n) hsh (.str (X.G.AM n) tk) y es):=by
 intro BE;induction BE with
 |nil=>
  rintro _ e;cases e;exact⟨hsh,tk,y,[],rfl,rv,rfl⟩
 |cons hd0 r ih=>
  rcases hd0 with⟨a,u⟩;rintro _ ⟨hs,t,z,es,rfl,hz,ht⟩;simp only[OW,Sp,q2];by_cases e:a=n
  .simp only[e]
   exact⟨hs,t,y,es,rfl,rv,ht⟩
  .simp only[e]
   exact⟨hs,t,z,_,rfl,hz,ih ht⟩
set_option tactic.hygienic true in
theorem ac5:∀{l:List (Nat×V)} {x:Nat×V},x∈CX l n v->x∈l\/x.1=n:=by
 intro BE;induction BE with
 |nil=>
  rintro x h;exact .inr (congrArg X7 (EK.mp h))
 |cons hd0 r ih=>
  rcases hd0 with⟨a,u⟩;rintro x h;rw[OW] at h;split at h
  .rename_i e
   rcases D4.mp h with q|q
   .exact .inr (by rw[q,e])
   .exact .inl (DV _ q)
  .rcases D4.mp h with q|q
   .exact .inl (by rw[q];exact D0)
   .rcases ih q with q|q
    .exact .inl (DV _ q)
    .exact .inr q
theorem ac6:∀{l:List (Nat×V)},I (CX l n v)<=I l+1:=by
 intro BE;induction BE with
 |nil=>
  exact Ds _
 |cons hd0 r ih=>
  rcases hd0 with⟨a,u⟩;rw[OW];split
  .simp
  .simp;assumption
theorem sH(es:List Fz)(n:Nat):K2 es n=PySem.W.dictOf es n:=rfl
set_option tactic.hygienic true in
theorem ac7(Y:X.K.In s.heap)(Ai:InstAt s.heap x ox C (H (K2 es n)))(hd:ox.dict=H dx)(D:s.heap.get? dx=H (K2 es n))
  (hp:plainOver X.K C=U)(ht:takerIn X.K C name=H AB)(hh:hasDictIn X.K C=U)(hl:(lookIn name (K2 es n)).isSome=U)(hz:I es<=900)
  (h:∀h' hsh,Hr dx s.heap h'->h'.get? dx=H (K2 (Sp name hsh (.str name s.toks) v es) (PySem.W.putN name es n))->R (.ok (.ret .none)) {s with heap:=h',toks:=s.toks+1}):
  codeAny X.M A (.call (.builtin "object.__setattr__") ⟨[.ref x,.str name tk,v],[]⟩) R s:=by
 refine osa_open Y Ai hp ht λb=>?_;obtain⟨cd,hc,hd'⟩:=any_some hh;obtain⟨hx,hcl,hn,-⟩:=Ai;obtain⟨oc,aoU,aoV,osl⟩:=ox;dsimp only at hcl hd;clear hn;subst hcl hd;have up:(s.heap.update dx (Obj.putName name (XJ X.w.params name) (.str name s.toks) v)).get? dx=H (K2 (Sp name (XJ X.w.params name) (.str name s.toks) v es) (PySem.W.putN name es n)):=by
  have e:=putName_dict name (XJ X.w.params name) (.str name s.toks) v es n
  have:=Ca.get?_update_self (Obj.putName name _ _ v) D (by rw[sH,e];rfl);rw[this,sH,e];rfl
 have hlen:I (Sp name (XJ X.w.params name) (.str name s.toks) v es)<=I es+1:=by
  clear h up D hl hz;induction es with
  |nil=>simp[Sp]|cons e r ih=>
   simp only[Sp];split
   .simp
   .simp;assumption
 refine Ao (Bg (Ao (Ao (wpAny_loadPart hx (Ao ((looks_clsIn Y hc).here ?_))))));rw[hd'];refine Bg (a:=H dx) (Ao (Bg (Ao ?_)));unfold nsSet;refine Ao (Ao (wpAny_askSetting (Bg (Ao (wpAny_mkText (Ao (wpAny_loadPart D ?_)))))));unfold lookIn K2 at hl;dsimp only at hl⊢;have cc:(!es.toArray.any (·.key.isStr name)&&es.toArray.any (·.refKey))=A1:=by
  rw[<-Array.any_toList,<-Array.any_toList];split at hl
  .rename_i en he
   rw[List.any_eq_true.mpr ⟨en,ac8 he,List.find?_some he⟩];rfl
  .split at hl
   .cases hl
   .rename_i z;rw[Bool.not_eq_true] at z;rw[z,qU]
 unfold K2;dsimp only;rw[aRefKeyMayBeTheName_at,cc];refine wpAny_updatePart D ?_;refine Ao (wpAny_lookBehind up (by unfold K2;exact pastItsLine_dict (by exact By 1 A2 BB 1 A7 (.k 900) A2 (.a (.k 16777216) AF) A4 [I (putL name _ _ v es),I es] hlen hz)) ?_);exact Bg (h _ _ (ac3 ..) up)
end
def i9(x:AY):Bool:=Rt 8 x.ctorIdx&&Rt x.ctorIdx 10
def aA(x:AY):Bool:=Ct x.ctorIdx 25
def Km(c:CY)(v:AY)(n:Str)(p:Pos):Bool:=Ct v.ctorIdx 9||Ct v.ctorIdx 10||Y8 v λy y sc q=>c.Bc.lookup n==H .local&&p.line==q.line&&!(sc.names.any λx=>x.1==n&&(x.2==.local||x.2==.cell))
def iA(e:E):Bool:=Ct e.ctorIdx 32||E0 31 e.ctorIdx λh=>E.CH.elim (motive_1:=λy=>Bool) e h λy x=>Ct x.ctorIdx 32
def Sq(c:CY)(n:Str):Bool:=c.Bc.lookup n==H .local||c.Bc.lookup n==H .cell
def Mi(c:CY):List Nat->List AY->Bool
 |[],l=>l.isEmpty|i::is,l=>JU l λx r=>GD x λn y=>c.Bt.lookup i==H n&&Sq c n&&Mi c is r
def iB(x:CA)(f:Option AY->Pos->Bool):Bool:=E0 3 x.ctorIdx λh=>ac9 (motive_2:=λy=>Bool) x h f
theorem sI{f:Option AY->Pos->Bool}(h:iB x f=U){P:CA->Prop}(kk:∀v p,f v p=U->P (.Return v p)):P x:=Ej h λe h=>ac9 x e (λv p e h=>kk v p h) e h
def Ss(x:CA)(f:List AY->AY->Pos->Bool):Bool:=E0 5 x.ctorIdx λh=>mz (motive_2:=λy=>Bool) x h f
theorem VL{f:List AY->AY->Pos->Bool}(h:Ss x f=U){P:CA->Prop}(kk:∀l v p,f l v p=U->P (.Assign l v p)):P x:=Ej h λe h=>mz x e (λl v p e h=>kk l v p h) e h
def sJ(x:CA)(f:AY->Operator->AY->Pos->Bool):Bool:=E0 7 x.ctorIdx λh=>ada (motive_2:=λy=>Bool) x h f
theorem adb{f:AY->Operator->AY->Pos->Bool}(h:sJ x f=U){P:CA->Prop}(kk:∀l o v p,f l o v p=U->P (.AugAssign l o v p)):P x:=Ej h λe h=>ada x e (λl o v p e h=>kk l o v p h) e h
def sL(x:CA)(f:AY->AY->List CA->List CA->Pos->Bool):Bool:=E0 9 x.ctorIdx λh=>CA.For.elim (motive_2:=λy=>Bool) x h f
theorem ade{f:AY->AY->List CA->List CA->Pos->Bool}(h:sL x f=U){P:CA->Prop}(kk:∀a b l r p,f a b l r p=U->P (.For a b l r p)):P x:=Ej h λe h=>CA.For.elim x e (λa b l r p e h=>kk a b l r p h) e h
def sM(x:CA)(f:AY->List CA->List CA->Pos->Bool):Bool:=E0 11 x.ctorIdx λh=>CA.While.elim (motive_2:=λy=>Bool) x h f
theorem adf{f:AY->List CA->List CA->Pos->Bool}(h:sM x f=U){P:CA->Prop}(kk:∀a l r p,f a l r p=U->P (.While a l r p)):P x:=Ej h λe h=>CA.While.elim x e (λa l r p e h=>kk a l r p h) e h
def sN(x:CA)(f:AY->List CA->List CA->Pos->Bool):Bool:=E0 12 x.ctorIdx λh=>CA.If.elim (motive_2:=λy=>Bool) x h f
theorem adg{f:AY->List CA->List CA->Pos->Bool}(h:sN x f=U){P:CA->Prop}(kk:∀a l r p,f a l r p=U->P (.If a l r p)):P x:=Ej h λe h=>CA.If.elim x e (λa l r p e h=>kk a l r p h) e h
def iC(x:CA)(f:AY->Pos->Bool):Bool:=E0 24 x.ctorIdx λh=>CA.Expr.elim (motive_2:=λy=>Bool) x h f
theorem sO{f:AY->Pos->Bool}(h:iC x f=U){P:CA->Prop}(kk:∀v p,f v p=U->P (.Expr v p)):P x:=Ej h λe h=>CA.Expr.elim x e (λv p e h=>kk v p h) e h
def sP(x:CA)(f:Pos->Bool):Bool:=E0 25 x.ctorIdx λh=>CA.Pass.elim (motive_2:=λy=>Bool) x h f
theorem adh{f:Pos->Bool}(h:sP x f=U){P:CA->Prop}(kk:∀p,f p=U->P (.Pass p)):P x:=Ej h λe h=>CA.Pass.elim x e (λp e h=>kk p h) e h
abbrev IF:=CY->CA->Bool
abbrev Qu:=CY->List CA->Bool
def adi:LI->Bool
 |.Cu=>U|_=>A1
section
variable(X:Cfg)
def sQ(i:Nat)(e:E):IF:=λc x=>Ss x λl v y=>GE l λt=>GD t λn p=>c.Bt.lookup i==H n&&(c.Bc.lookup n==H .local&&(D7 X c e v&&(!Km c v n p||iA e)))
def sR(i:Nat)(e:E):IF:=λc x=>Ss x λl v y=>GE l λt=>GD t λn y=>c.Bt.lookup i==H n&&(c.Bc.lookup n==H .cell&&D7 X c e v)
def sS(is:List Nat)(e:E):IF:=λc x=>Ss x λl v y=>GE l λt=>Y6 t λq y y=>D7 X c e v&&(Mi c is q&&!aA v)
def sU(o:E)(n:Nat)(e:E):IF:=λc x=>Ss x λl v y=>GE l λt=>Y4 t λu a y=>D7 X c o u&&(a==X.G.AM n&&D7 X c e v)
def sV(o k e:E):IF:=λc x=>Ss x λl v y=>GE l λt=>SB t λu q y=>D7 X c o u&&(D7 X c k q&&D7 X c e v)
def sW(i:Nat)(op:LI)(e:E):IF:=λc x=>sJ x λt o v y=>GD t λn y=>c.Bt.lookup i==H n&&(Sq c n&&(adi op&&(o==.Add&&D7 X c e v)))
def sX(e:E):IF:=λc x=>iC x λv y=>D7 X c e v&&!i9 v
def sY(o e:E):IF:=λc x=>iC x λv z=>QO v λu a l=>GE l λy=>a=="append"&&(D7 X c o u&&D7 X c e y)
def s_(e:E)(_ _:Cb)(r q:Qu):IF:=λc x=>sN x λa l k y=>D7 X c e a&&(r c l&&q c k)
def sd(Ac:List Nat)(ik:FG)(a b:E)(_:Cb)(r:Qu):IF:=λc x=>sL x λt y l k z=>GF k&&(fO c ik (λy=>D7 X c a y) (λy=>D7 X c b y) (QM b) y&&(SE c Ac t&&((JW t).all (Sq c)&&r c l)))
def se(e:E)(_:Cb)(r:Qu):IF:=λc x=>sM x λa l k y=>GF k&&(D7 X c e a&&r c l)
def sf(e:E):IF:=λc x=>iB x λo y=>Uh o λv=>D7 X c e v
def sj:IF:=λy x=>iB x λo y=>SC o
def sq:IF:=λy x=>sP x λy=>U
def sr(_:S)(_:Cb)(r:IF)(q:Qu):Qu:=λc l=>JU l λx l=>r c x&&q c l
def adj(c:CY)(s:S):CA->Bool:=@S.rec (λx=>IF) (λx=>Qu) (sQ X) (sR X) (sS X) (sU X) (sV X) (sW X) (sX X) (sY X) (s_ X) (sd X) (se X) (sf X) sj sq (λx x=>U) (λx l=>GF l) sr s c
def VM(c:CY)(s:Cb):List CA->Bool:=@Cb.rec (λx=>IF) (λx=>Qu) (sQ X) (sR X) (sS X) (sU X) (sV X) (sW X) (sX X) (sY X) (s_ X) (sd X) (se X) (sf X) sj sq (λx x=>U) (λx l=>GF l) sr s c
end
theorem su(K:CL c env)(h:Km c v n p=A1):swapsWith v (H (.Name n p)) l env=pure A1:=by
 cases v with
 |ListComp y g sc q=>
  have e:swapsWith (.ListComp y g sc q) (H (.Name n p)) l env=pure (env.blockKind==.function&&env.kindOf n==H _&&p.line==q.line&&!(sc.names.any λx=>x.1==n&&(x.2==.local||x.2==.cell))):=rfl;rw[e];have hb:env.blockKind=.function:=by unfold Env.blockKind;rw[K.GV];rfl
  rw[hb,K.HG];exact congrArg pure h
 |SetComp _ _ _ _=>exact Bp h.symm|DictComp _ _ _ _ _=>exact Bp h.symm|_=>rfl
theorem adk(K:CL c env)(h:Km c (.ListComp y g sc q) n p=U):swapsWith (.ListComp y g sc q) (H (.Name n p)) l env=pure U:=by
 have e:swapsWith (.ListComp y g sc q) (H (.Name n p)) l env=pure (env.blockKind==.function&&env.kindOf n==H _&&p.line==q.line&&!(sc.names.any λx=>x.1==n&&(x.2==.local||x.2==.cell))):=rfl;rw[e];have hb:env.blockKind=.function:=by unfold Env.blockKind;rw[K.GV];rfl
 rw[hb,K.HG];exact congrArg pure h
theorem adl(h:i9 v=A1):swapsWith v AB l env=pure A1:=by cases v<;>first|rfl|exact Bp h.symm
theorem adm:swapsWith v (H (.Attribute o a p)) l env=pure A1:=by cases v<;>rfl
theorem adn:swapsWith v (H (.Subscript o k p)) l env=pure A1:=by cases v<;>rfl
theorem ado:swapsWithSole [.Tuple o k p] v l env=pure A1:=by cases v<;>rfl
theorem adp(h:aA v=A1):swappedStores [.Tuple o k p] v env=pure AB:=by cases v<;>first|rfl|exact Bp h.symm
theorem sy(K:CL c env):interactive env=A1:=by unfold interactive;rw[K.GV];rfl
section
variable{A0:A0}{s:BS}
inductive iD(P:V->AG->Prop):DB->Flow->Prop
 |B0:iD P .B0 .next|Ag {v:V} {x:AG} (r:P v x):iD P (.Ag v) (.ret x)
inductive Fp(X:Cfg)(c:CY)(env:GS)(β:Af)(ρ:List T)(m:Str->Option AG)(s:BS)(Q:DB->List T->Internal.A0->Prop)(f:Flow)(s':BS):Prop
 |mk (fl:DB) (ρ':List T) (H':Internal.A0) (β':Af) (m':Str->Option AG) (q:Q fl ρ' H') (g:Dn X c env β ρ m s β' ρ' m' H' s') (r:iD (BN X.G.AM β' s'.heap) fl f)
theorem Du.Gr(a:Du X c env ρ β A0 m s)(g:Go X β s A9 H1 s1):Dn X c env β ρ m s A9 ρ m H1 s1:=Dn.gW a.S a.F g
theorem Dn.at(g:Dn X c env β ρ m s β' ρ' m' H' s'):Du X c env ρ' β' H' m' s':=⟨g.st,g.fr⟩
theorem Fp.Bd(g:Dn X c env β ρ m s A9 Dt m1 H1 s1)(p:Fp X c env A9 Dt m1 s1 Q f s'):Fp X c env β ρ m s Q f s':=by obtain⟨fl,ρ',H',β',m',q,g2,r⟩:=p;exact⟨fl,ρ',H',β',m',q,g.Aw g2,r⟩
theorem KB(q:Q .B0 ρ' H')(g:Dn X c env β ρ m s β' ρ' m' H' s'):Fp X c env β ρ m s Q .next s':=⟨_,ρ',H',β',m',q,g,.B0⟩
theorem t6(K:CL c env)(F:DW X c env ρ β s.heap m)(hv:(∃v,t=.v v)\/((∃l,t=.Al l)/\∃a,x=.ref a/\s.heap.get? a=AB)):rD c ρ m t x:=by
 rcases hv with⟨v,rfl⟩|⟨⟨l,rfl⟩,a,rfl,hn⟩
 .trivial
 .intro j y hj hl e
  rcases K.Ol j y hj with k|k
  .obtain ⟨b,xs,n,e',ho⟩:=(F.Am j y hj k).gV hl
   rw[e] at e';cases e';rw[hn] at ho;cases ho
  .obtain ⟨_,_,_,_,_,_,z⟩:=F.Gp j y hj k
   rw[hl] at z;cases z
theorem adq(h:UQ e t Q):(∃v,t=.v v/\Q t)\/(∃l,t=.Al l/\H9 e=U/\Q t):=by
 cases t with
 |AQ=>exact h.elim|DT l=>exact h.elim|v v=>exact .inl ⟨v,rfl,h⟩|Al l=>exact .inr ⟨l,rfl,h.1,h.2⟩
theorem aB(K:CL c env)(a:Du X c env ρ β A0 m s)(g:Go X β s A9 H1 s1)(hi:c.Bt.lookup i=H n)(hk:c.Bc.lookup n=H .local\/(c.Bc.lookup n=H .cell/\Fo t=A1))
  (r:DH X A9 s1.heap t x)(hv:(∃v,t=.v v)\/((∃l,t=.Al l)/\∃a,x=.ref a/\s.heap.get? a=AB))(q:Q .B0 (Cq ρ i t) H1):wpAny X.M A (storeName env n x) (λy s'=>Fp X c env β ρ m s Q .next s') AP s1:=by
 refine S_ K (a.Gr g) (IE hi) hk r (t6 K a.F hv) (λhl b eb=>?_) λm' h' tk g' y y y=>KB q g';clear q hk;rcases hv with⟨v,rfl⟩|⟨⟨l,rfl⟩,a',rfl,hn⟩
 .exact Bp hl
 .cases eb;exact hn
theorem Go.P8(g:Go X β s A9 H1 s1)(hp:(A9 si)[i]?=H p)(hi:(H1 si)[i]?=H o)(hs:Hr p.2 s1.heap h')(ho:ER X A9 h' p o')(tk:Nat):
  Go X β s A9 (Bf H1 si i o') {s1 with heap:=h',toks:=tk}:=by
 obtain⟨CG,P2⟩:=g.st.set hp hi hs ho;exact g.Aw ⟨CG,P2,rfl⟩
end
section
variable{A0:A0}
theorem DW.but(F:DW X c env ρ β h m)(hd:h.get? d=H ob)(hl:J9 ob)(hs:Ig d h h')(P9:env.locals≠d)(MC:∀v,ob.data≠.cell v)(nl:∀i x,(i,x)∈c.Bt->c.Bc.lookup x=H .local->Fo (BD ρ i)=U->m x≠H (.ref d)):DW X c env ρ β h' m:=by
 obtain⟨o,es,ep,e',dd,rr⟩:=F.ns;refine⟨⟨o,es,ep,hs _ _ P9 e',dd,rr⟩,F.QR,F.SI,λi x hi hk=>(F.Am i x hi hk).G5 hd hl hs (nl i x hi hk),λi x hi hk=>?_,F.QS,F.SJ,F.Aj⟩;obtain⟨a,v,h1,⟨oc,h2,h3⟩,h4,h5,h6⟩:=F.Gp i x hi hk;have ne:a≠d:=λq=>by clear nl P9 hs;subst q;rw[hd] at h2;cases h2;exact MC _ h3
 exact⟨a,v,h1,⟨oc,hs _ _ ne h2,h3⟩,h4,h5.G5 hd hl hs (λq=>by rw[h6] at q;cases q),h6⟩
theorem Dn.but(g:Dn X c env β ρ m s β' ρ' m' H' s')(hd:s'.heap.get? d=H ob)(hm:¬β'.mut d)(hl:J9 ob)(h0:s.heap.get? d=AB)(hh:X.h₀.get? d=AB)(hs:Ig d s'.heap h')
  (P9:env.locals≠d)(MC:∀v,ob.data≠.cell v)(nl:∀i x,(i,x)∈c.Bt->c.Bc.lookup x=H .local->Fo (BD ρ' i)=U->m' x≠H (.ref d))(tk:Nat):Dn X c env β ρ m s β' ρ' m' H' {s' with heap:=h',toks:=tk}:=by
 refine⟨g.st.G5 hd hm hl hh hs,g.fr.but hd hl hs P9 MC nl,g.le,λb o e n1 n2 n3=>hs _ _ (λq=>by clear nl P9 hs hh hm hd;subst q;rw[h0] at e;cases e) (g.AX b o e n1 n2 n3),g.IC,g.SX,λb hb=>?_,by have a:=g.Hu;rw[a]⟩;by_cases q:b=d
 .clear nl P9 hs hh hm hd;subst q;exact h0
 .refine g.SY b ?_
  cases e:s'.heap.get? b with
  |none=>rfl|some o=>rw[hs _ _ q e] at hb;cases hb
theorem ads{n:Str}{p:Pos}{t:T}{acc:AG}{C:BJ}{A9:Af}{H1:Internal.A0}{s1:BS}{P:AG->BS->Prop}{Q:DB->List T->Internal.A0->Prop}(K:CL c env)(a:Du X c env ρ β A0 m s)(g:Go X β s A9 H1 s1)(hi:c.Bt.lookup i=H n)(hk:c.Bc.lookup n=H .local)
  (r:DH X A9 s1.heap t acc)(hv:(∃v,t=.v v)\/((∃l,t=.Al l)/\∃a,acc=.ref a/\s.heap.get? a=AB))(q:Q .B0 (Cq ρ i t) H1){iE:Str->Option AG}(hC:s1.heap.Ns C iE)(cm:¬A9.mut C)(C1:s.heap.get? C=AB)(Ch:X.h₀.get? C=AB)
  (hP:∀s',Fp X c env β ρ m s Q .next s'->P .none s'):
  compPost X.M A AP (H (assign (.Name n p) env)) P acc C (.ok .next) s1:=by
 obtain⟨oc,ec,adt,e1,d1,rr⟩:=hC;have t7:¬Own c env C:=λAA=>by obtain⟨ob,e,_⟩:=AA.G0 a.F;rw[C1] at e;cases e
 have P9:env.locals≠C:=λq=>t7 (.inl q.symm);refine Sb (S_ K (a.Gr g) (IE hi) (.inl hk) r (t6 K a.F hv) (λhl b eb=>?_) λm' h' tk g' up x x=>?_)
 .clear q;rcases hv with⟨v,rfl⟩|⟨⟨l,rfl⟩,a',rfl,hn⟩
  .exact Bp hl
  .cases eb;exact hn
 .have e2:=up C t7 _ e1
  refine⟨iE,⟨oc,ec,adt,e2,d1,rr⟩,λh'' hs=>?_⟩;have DQ:=g'.but e2 cm (LX d1) C1 Ch hs.extBut P9 (λv e=>by rw[d1] at e;cases e) (λj y hj hjk hl=>(g'.fr.Am j y hj hjk).MV e2 (L_ d1) hl) tk;exact hP _ (KB q DQ)
inductive t8(c:CY)(i:Nat)(is:List Nat):List AY->Prop
 |mk (n:Str) (p:Pos) (rest:List AY) (h1:c.Bt.lookup i=H n) (h2:Sq c n=U) (h3:Mi c is rest=U):t8 c i is (.Name n p::rest)
theorem t9(ag:Mi c (i::is) elts=U):t8 c i is elts:=by
 cases elts with
 |nil=>exact Bp ag|cons x rest=>
  cases x with
  |Name n p=>
   have ag:(c.Bt.lookup i==H n&&Sq c n&&Mi c is rest)=U:=ag;exact⟨n,p,rest,beq_iff_eq.mp (C4 (C4 ag)),AD (C4 ag),AD ag⟩
  |_=>exact Bp ag
theorem tB(ag:Mi c [] elts=U):elts=[]:=iF.mp ag
theorem adu(F:DW X c env ρ β h m)(up:∀d,¬Own c env d->∀o,h.get? d=H o->h'.get? d=H o):EX h h':=λb xs e=>up b (λAA=>by
 obtain⟨ob,e',lo,_⟩:=AA.G0 F;exact lo.2 _ (BR (e'.symm.trans e))) _ e
theorem adv(K:CL c env)(ag:Mi c is elts=U)(hb:MH is l ρ=H ρ')(r:C5 X.G.AM β s.heap l xs)
  (g:Dn X c env J8 Sa m0 s0 β ρ m A0 s)(q:∀m' s',Dn X c env J8 Sa m0 s0 β ρ' m' A0 s'->P Qa s'):wpAny X.M A (assignInOrder ((assignEach elts env).map (·.2)) xs) P AP s:=by
 induction is generalizing elts l xs ρ m s with
 |nil=>
  cases tB ag;cases l with
  |nil=>cases BR hb;exact assignInOrder_nil (q m s g)
  |cons a b=>exact nn hb
 |cons i is ih=>
  cases l with
  |nil=>exact nn hb|cons v l=>
   obtain⟨y,ys,rfl,Dz,adw⟩:=r;cases t9 ag with
   |mk n p rest h1 h2 h3=>
    exact rI (Sb (S_ K g (IE h1) ((YB h2).imp id λe=>⟨e,rfl⟩) (t:=.v v) Dz trivial nofun λm' h' tk g' up x x=>ih h3 hb (adw.Bo (adu g.fr up) (Af.le.BO _)) g'))
theorem adx(ag:Mi c is elts=U):I elts=I is/\I (assignEach elts env)=I is/\(assignEach elts env).findIdx? (·.1)=AB:=by
 induction is generalizing elts with
 |nil=>cases tB ag;exact⟨rfl,rfl,rfl⟩
 |cons i is ih=>
  cases t9 ag with
  |mk n p rest h1 h2 h3=>
   obtain⟨a1,a2,a3⟩:=ih h3;refine⟨congrArg _ a1,congrArg _ a2,?_⟩;rw[List.findIdx?_cons,a3];rfl
theorem ady(h:MH is l ρ=H ρ'):I l=I is:=by
 induction is generalizing l ρ with
 |nil=>
  cases l with
  |nil=>rfl|cons _ _=>exact nn h
 |cons i is ih=>
  cases l with
  |nil=>exact nn h|cons x l=>exact congrArg _ (ih h)
theorem adz(h:eY u P):∃l,u=.v (.A3 l)/\P l:=by
 cases u with
 |v w=>
  cases w with
  |A3 l=>exact⟨l,rfl,h⟩|_=>exact h.elim
 |_=>exact h.elim
theorem adA(hA:A.handled=AB)(K:CL c env)(a:Du X c env ρ β A0 m s)(hT:Mi c is elts=U)(hv:aA v=A1)
  (h:wpAny X.M A (eval v env) (Post X β s A1 λt h1=>eY t λl=>opt (MH is l ρ) λr'=>Q .B0 r' h1) AP s):
  wpAny X.M A (exec (.Assign [.Tuple elts k tp] v pos) env) (Fp X c env β ρ m s Q) AP s:=by
 rw[arm_exec_Assign,ado,adp hv];refine Ao (JY (Ao (Bg ?_)));refine Ao (BY h λx s1 q=>Ao (Bg ?_));obtain⟨t,H1,A9,q,r,g,-⟩:=q;obtain⟨l,rfl,r',hb,q⟩:=adz q;obtain⟨ad,xs,rfl,ho,hl,rv⟩:=r;obtain⟨l1,l2,l3⟩:=adx (env:=env) hT;refine Ao ?_;show wpAny _ _ (assign _ env _) ..;refine wpAny_assign_Tuple hA ⟨_,ho,rfl,0,rfl⟩ (l2.trans ((ady hb).symm.trans rv.Cy.symm)) l3 λh₁ gb=>?_;have Oz:=(Go.BO g.st).AX (λb o e=>gb b o (Na (NQ e)) e) s1.toks;exact adv K hT hb (rv.B5 g.st Oz.B5) ((a.Gr g).Aw (Dn.gW g.st (a.Gr g).fr Oz)) λm' s' g'=>Bg (KB q g')
theorem tC(h:UR u P):∃si i,u=.v (.O si i)/\P si i:=by
 cases u with
 |v w=>
  cases w with
  |O s i=>exact⟨s,i,rfl,h⟩|_=>exact h.elim
 |_=>exact h.elim
theorem adB(h:Xd o P):∃c l,o=H (.CK c l)/\P c l:=by
 cases o with
 |none=>exact h.elim|some o=>
  cases o with
  |CK c l=>exact⟨c,l,rfl,h⟩|_=>exact h.elim
theorem adC(MQ:IR X β h l es):(QT (X.G.AM n) es).isSome=U:=by
 cases e:Bw l n with
 |none=>rw[q4 MQ e];rfl|some v=>obtain⟨x,hx,_⟩:=q3 MQ e;rw[hx];rfl
theorem adD{E0:Str}(a:Du X c env ρ β A0 m s)(ha:E0=X.G.AM n)
  (h:wpAny X.M A (eval v env) (Post X β s A1 R) AP s)
  (hk:∀t A9 H1 s1,Go X β s A9 H1 s1->R t H1->∃x,t=.v x/\wpAny X.M A (eval o env) (Post X A9 s1 A1 λu h2=>UR u λsi i=>Xd (h2 si)[i]? λc l=>X.G.MI c n=U/\I l<100/\Q .B0 ρ (Bf h2 si i (.CK c (CX l n x)))) AP s1):
  wpAny X.M A (exec (.Assign [.Attribute o E0 ap] v pos) env) (Fp X c env β ρ m s Q) AP s:=by
 subst ha;refine plainObj_wpAny_Assign_Attribute (BY h λvx s1 q=>?_) adm;obtain⟨t,H1,A9,q,r,g,-⟩:=q;obtain⟨x,rfl,hk⟩:=hk t A9 H1 s1 g q;refine BY hk λox s2 B7=>?_;obtain⟨u,H2,Br,B7,r2,g2,-⟩:=B7;obtain⟨si,i,rfl,F1⟩:=tC B7;obtain⟨k,l,ho,hh,hl,Su⟩:=adB F1;obtain⟨p,hp,rfl⟩:=r2;obtain⟨es,nn,Ai,MQ,lb,ha,hd⟩:=fU g2.st hp ho;have sk:=X.nv k n hh;have hp1:=Ai.at_;have ne:p.1≠p.2:=λe=>nomatch(hd.symm.trans (e▸hp1):H _=H (instObj (X.Fj k) p.2));refine set_plain g2.HD Ai sk.2.2 (ac7 g2.HD Ai rfl hd sk.1 sk.2.1 (X.f7 k n hh).2.1 (adC MQ) (MQ.Cy▸Cr (MS hl) ()) λh' hsh hs hup=>?_);have tk:=K7 hd (LX rfl) hs.extBut;exact KB Su (a.Gr ((g.Aw g2).P8 (o':=.CK k _) hp ho hs ⟨(hs.2 _ ne).trans hp1,⟨Cr ac6 (Cr (Nat.succ_le_of_lt hl) (show 100<=200 by decide)),λy hy=>(ac5 hy).elim (ha y) λz=>z.symm▸hh⟩,_,_,hup,IR.put (BN.Bo tk (Af.le.BO _) (BN.B5 g.st g2.B5 r)) (MQ.Bo tk (Af.le.BO _))⟩ _))
inductive iG(tab:Nat->Str)(x:V)(P:A_->Prop):Option A_->V->Prop
 |A6 (l:List V) (n:Int) (h0:0<=n) (h1:n.toNat<I l) (q:P (.A6 (l.set n.toNat x))):iG tab x P (H (.A6 l)) (.B n)|Dm (o o':A_) (kv:V) (h:∀l,o≠.A6 l) (e:Ef tab o kv x=H o') (q:P o'):iG tab x P (H o) kv
theorem adE(h:S5 tab o kv x P):iG tab x P o kv:=by
 cases o with
 |none=>exact h.elim|some o=>
  cases o with
  |A6 l=>
   cases kv with
   |B n=>exact .A6 l n h.1 h.2.1 h.2.2|_=>exact h.elim
  |_=>obtain⟨o',e,q⟩:=(show opt .. from h);exact .Dm _ o' kv nofun e q
theorem adF{EH:V->T->Internal.A0->Prop}(BI:Ek A n)(a:Du X c env ρ β A0 m s)
  (h:wpAny X.M A (eval v env) (Post X β s A1 R) AP s)
  (ho:∀t A9 H1 s1,Go X β s A9 H1 s1->R t H1->∃x,t=.v x/\wpAny X.M A (eval o env) (Post X A9 s1 A1 (EH x)) AP s1)
  (hk:∀x u A9 H1 s1,Go X β s A9 H1 s1->EH x u H1->wpAny X.M A (eval k env) (Post X A9 s1 A1 λw h3=>opt w.Av λkv=>UR u λsi i=>S5 X.G.AM (h3 si)[i]? kv x λo'=>Q .B0 ρ (Bf h3 si i o')) AP s1):
  wpAny X.M A (exec (.Assign [.Subscript o k ap] v pos) env) (Fp X c env β ρ m s Q) AP s:=by
 refine wpAny_Assign_Subscript (BY h λvx s1 q=>?_) adn;obtain⟨t,H1,A9,q,r,g,-⟩:=q;obtain⟨x,rfl,ho⟩:=ho t A9 H1 s1 g q;refine BY ho λox s2 B7=>?_;obtain⟨u,H2,Br,B7,r2,g2,-⟩:=B7;refine Hv (hk x u Br H2 s2 (g.Aw g2) B7) λkx s3 kv H3 Ke F1 r3 g3=>?_;have DQ:=(g.Aw g2).Aw g3;have rx:=BN.B5 g2.st g3.B5 (BN.B5 g.st g2.B5 r);clear B7;obtain⟨si,i,rfl,Su⟩:=tC F1;clear F1;obtain⟨p,hp,rfl⟩:=DH.B5 g2.st g3.B5 r2;generalize aC:(H3 si)[i]?=oo at Su;cases adE Su with
 |A6 l nn n0 nl q5=>
  obtain⟨l1,l2,xs,pl,rv⟩:=DQ.st.at hp aC;obtain⟨tk,rfl⟩:=r3;rw[l1];refine ac2 pl n0 (fq n0 nl l2 (BQ rfl)).1 (rv.Cy▸(fq n0 nl l2 (BQ rfl)).2) λh' Nb hs=>?_;obtain⟨nx,hx⟩:=pl;have tk:=K7 hx V9 hs.extBut;exact KB q5 (a.Gr (DQ.P8 (o':=.A6 _) hp aC hs ⟨l1,La.symm▸l2,_,Nb,(rv.Bo tk (Af.le.BO _)).set _ (BN.Bo tk (Af.le.BO _) rx)⟩ _))
 |Dm o' o2 kv hno e2 q5=>
  have ro:=DQ.st.at hp aC;have iH:p.1=p.2:=by
   cases o' with
   |A6 l=>exact(hno l rfl).elim|CK c l=>exact nn e2|Ad l=>exact ro.1|BC l=>exact ro.1|Ff l=>exact ro.1
  obtain⟨p1,p2⟩:=p;cases(show p1=p2 from iH);obtain⟨hT,adG⟩:=gH (A:=A.in1) (P:=λy s'=>Fp X c env β ρ m s Q _ s') (YK BI) e2 ro r3 rx λh' tk hs V7=>KB q5 (a.Gr (DQ.P8 hp aC hs V7 tk));exact ac4 hT adG
end
section
variable{X:Cfg}{A0:A0}
theorem adH{E:AG->BS->Prop}(h1:c.Bt.lookup i=H n)(h2:c.Bc.lookup n=H .local\/c.Bc.lookup n=H .cell)(K:CL c env)
  (F:DW X c env ρ β s.heap m)(u:BD ρ i=.v v)(q:∀x,BN X.G.AM β s.heap v x->P x s):wpAny X.M A (loadName env n) P E s:=by
 rcases h2 with h2|h2
 .have r:=F.Am i n (IE h1) h2
  rw[u] at r;obtain⟨x,e,r⟩:=r;exact Up K.GV (by rw[K.HG];exact h2) F.ns e (q x r)
 .obtain ⟨a,w,e1,e2,e3,e4,e5⟩:=F.Gp i n (IE h1) h2
  rw[u] at e4;obtain⟨x,e,r⟩:=e4;subst e;exact fQ K.GV (by rw[K.HG];exact h2) e1 e2 (q x r)
set_option tactic.hygienic true in
theorem adI{np pos:Pos}{Q:DB->List T->Internal.A0->Prop}(K:CL c env)(a:Du X c env ρ β A0 m s)(hi:c.Bt.lookup i=H n)(hk:c.Bc.lookup n=H .local\/c.Bc.lookup n=H .cell)(hx:BD ρ i=.v x)
  (h:wpAny X.M A (eval v env) (Post X β s A1 λt h1=>opt (match x,t with|.B a,.v (.B b)=>Jz X.G.AM .Cu (.v (.B a)) (.v (.B b))|_,_=>AB) λy=>Q .B0 (Cq ρ i y) h1) AP s):
  wpAny X.M A (exec (.AugAssign (.Name n np) .Add v pos) env) (Fp X c env β ρ m s Q) AP s:=by
 refine wpAny_AugAssign_Name (adH hi hk K a.F hx λov ro=>BY h λgK s1 q=>?_);obtain⟨t,H1,A9,⟨y,e,q⟩,r,g,-⟩:=q;cases x with
 |B x=>cases t with
  |v t=>cases t with
   |B b=>
    cases e;obtain⟨t1,rfl⟩:=ro;obtain⟨t2,rfl⟩:=r;refine iadd_int ?_;exact aB K a (g.G2 _) hi (hk.imp id λe=>⟨e,rfl⟩) (t:=.v (.B _)) ⟨_,rfl⟩ (.inl ⟨_,rfl⟩) q
   |_=>exact nn e
  |_=>exact nn e
 |_=>exact nn e
theorem tD{nm:Str}{P:BS->Prop}(K:CL c env)(hn:nm="append")(hs:Ia ov=U)(hl:(ap.endLine==p.line)=U)(ns:FY ev=A1)
  (h:wpAny X.M A (eval ov env) (λv s1=>∃a xs,v=.ref a/\F0 s1.heap a xs/\wpAny X.M A (eval ev env) (λx s2=>∃xs',F0 s2.heap a xs'/\I xs'<=BU/\∀h',F0 h' a (xs'++[x])->Hr a s2.heap h'->P {s2 with heap:=h'}) AP s1) AP s):
  wpAny X.M A (exec (.Expr (.Call (.Attribute ov nm ap) [ev] [] p) pos) env) (λf s'=>f=.next/\P s') AP s:=by
 subst hn;refine wpAny_Expr_any (wpAny_Call_method1_late (SK hs) hl (by rw[MR ns];rfl) (BY h λv s1 q=>?_)) (sy K) rfl;obtain⟨a,xs,rfl,⟨n,ho⟩,hw⟩:=q;refine⟨_,_,F.plainAttrs_list,F.slot_list_append,F.type_list_append,⟨_,ho,rfl⟩,λb eb=>by cases eb;exact⟨_,ho,rfl⟩,?_⟩;refine YN rfl (SM (On (BY hw λx s2 q=>SL ?_)));obtain⟨xs',⟨n',ho'⟩,hb,q⟩:=q;refine rT (hsz:=Cr hb J4) ⟨n',ho'⟩ λh' hp hs'=>⟨rfl,q h' ?_ hs'⟩;obtain⟨k,e⟩:=hp;refine⟨k,?_⟩;rw[e];simp[FT]
end
section
variable{A0:A0}
theorem Dn.app(K:CL c env)(a:Du X c env ρ β A0 m s)(g:Go X β s A9 H1 s1){ad:BJ}(hx:(i,n)∈c.Bt)(hk:c.Bc.lookup n=H .local)
  (el:BD ρ i=.Al l)(em:m n=H (.ref ad))(pl:F0 s1.heap ad xs)(nm:¬A9.mut ad)(h0:X.h₀.get? ad=AB)(hs:Hr ad s1.heap h')(hp:F0 h' ad tE)(rv:C5 X.G.AM A9 h' l2 tE)(hb:I l2<=BU):
  Dn X c env β ρ m s A9 (Cq ρ i (.Al l2)) m H1 {s1 with heap:=h'}:=by
 have F:=a.F.B5 a.S g.B5;obtain⟨np,pl⟩:=pl;obtain⟨aoW,hp2⟩:=id hp;have lo:J9 (FT xs np):=V9;obtain⟨o,es,ep,e',d,rr⟩:=F.ns;have get:∀{j y},(j,y)∈c.Bt->y≠n->BD (Cq ρ i (.Al l2)) j=BD ρ j:=λ{j y} hy q=>MU λe=>q (by clear el;subst e;exact K.LU _ _ _ hy hx);have self:BD (Cq ρ i (.Al l2)) i=.Al l2:=NY (F.Aj▸K.lt i n hx);have li:MP (BD ρ i)=U:=by rw[el];rfl
 have tF:MW c ρ m ad:=⟨i,n,hx,li,em⟩;have back:∀{j y},(j,y)∈c.Bt->MP (BD (Cq ρ i (.Al l2)) j)=U->MP (BD ρ j)=U:=λ{j y} hy q=>by
  by_cases e:y=n
  .clear q self el em hk;subst e
   obtain rfl:=LY K.Ib hy hx;exact li
  .rwa [get hy e] at q
 have tG:∀{j y},(j,y)∈c.Bt->Fo (BD (Cq ρ i (.Al l2)) j)=U->Fo (BD ρ j)=U:=λ{j y} hy q=>by
  by_cases e:y=n
  .clear q back self el em hk;subst e
   obtain rfl:=LY K.Ib hy hx;exact Om li
  .rwa [get hy e] at q
 have aD:env.locals≠ad:=λq=>by rw[<-q,e'] at pl;exact L_ d _ _ (BR pl)
 refine⟨g.st.G5 pl nm lo h0 hs.extBut,⟨⟨o,es,ep,(hs.2 _ aD).trans e',d,rr⟩,F.QR,F.SI,λj y hy hj=>?_,λj y hy hj=>?_,F.QS,λj y k z b hj hz lj lk G_ mk=>?_,by rw[Qd];exact F.Aj⟩,g.B5.le,λb o e n1 n2 n3=>?_,g.B5.IC,λb hb=>?_,λb hb=>?_,by have a:=g.Hu;rw[a]⟩
 .by_cases e:y=n
  .clear tG back li el hk;subst e
   obtain rfl:=LY K.Ib hy hx;rw[self];exact⟨.ref ad,em,ad,tE,rfl,hp,rv,hb,nm,h0⟩
  .rw [get hy e]
   exact(F.Am j y hy hj).G5 pl lo hs.extBut λq z=>e (F.SJ i n j y ad hx hy li q em z).symm
 .have e:y≠n:=λe=>by clear get em hx;subst e;rw[hk] at hj;cases hj
  obtain⟨a',w,h1,⟨oc,h2,h3⟩,h4,h5,h6⟩:=F.Gp j y hy hj;rw[get hy e];have ne:a'≠ad:=λq=>by rw[q,pl] at h2;cases h2;cases h3
  exact⟨a',w,h1,⟨oc,(hs.2 _ ne).trans h2,h3⟩,h4,h5.G5 pl lo hs.extBut (λq=>by rw[h6] at q;cases q),h6⟩
 .exact F.SJ j y k z b hj hz (back hj lj) (tG hz lk) G_ mk
 .exact (hs.2 b λq=>n3 (q▸tF)).trans (g.B5.AX b o e n1)
 .obtain ⟨j,y,hy,lj,G_⟩:=hb
  exact .inl ⟨j,y,hy,back hy lj,G_⟩
 .by_cases q:b=ad
  .clear aD tF hp hs h0 nm em;subst q
   rw[hp2] at hb;cases hb
  .exact g.QV ((hs.2 b q).symm.trans hb)
theorem adJ{nm:Str}(K:CL c env)(a:Du X c env ρ β A0 m s)(hn:nm="append")(hl:(ap.endLine==p.line)=U)(ns:FY ev=A1)
  (hi:c.Bt.lookup i=H n)(nd:(n==("__debug__":Str))=A1)(el:BD ρ i=.Al l)(h:wpAny X.M A (eval ev env) (Post X β s A1 λu h2=>opt u.Av λx=>I l<BU/\Q .B0 (Cq ρ i (.Al (l++[x]))) h2) AP s):
  wpAny X.M A (exec (.Expr (.Call (.Attribute (.Name n np) nm ap) [ev] [] p) pos) env) (Fp X c env β ρ m s Q) AP s:=by
 have hx:=IE hi;have hk:c.Bc.lookup n=H .local:=by
  rcases K.Ol i n hx with k|k
  .exact k
  .obtain ⟨_,_,_,_,_,_,z⟩:=a.F.Gp i n hx k
   rw[el] at z;cases z
 have r:=a.F.Am i n hx hk;rw[el] at r;obtain⟨x0,em,ad,xs,rfl,pl,rv,hb,tH,h0⟩:=r;refine BY (tD K hn rfl hl ns (Uo (Up K.GV (by rw[K.HG];exact hk) a.F.ns em ⟨ad,xs,rfl,pl,BY h λx s2 q=>?_⟩) nd)) λf s' q=>by obtain(⟨rfl,q⟩):=q;exact q
 obtain⟨t,H2,Br,⟨v,e,hlb,q⟩,r,g,-⟩:=q;obtain rfl:=T.Ic e;obtain⟨iI,pl⟩:=pl;have iJ:=g.B5.AX _ _ pl tH;refine⟨xs,⟨iI,iJ⟩,by rw[rv.Cy];exact hb,λh' hp hs=>KB q (Dn.app K a g hx hk el em ⟨iI,iJ⟩ (g.B5.Of pl tH) h0 hs hp ?_ (by rw[El];exact hlb))⟩;have tk:=K7 iJ V9 hs.extBut;exact((rv.B5 a.S g.B5).Bo tk (Af.le.BO _)).Xg ⟨x,[],rfl,BN.Bo tk (Af.le.BO _) r,rfl⟩
theorem adK{h:Internal.A0}(e:Ep h x=U):∃l,E4 h x=H (.A6 l):=by
 unfold Ep at e;generalize E4 h x=o at e⊢;cases o with
 |none=>exact Bp e|some o=>
  cases o with
  |A6 l=>exact⟨l,rfl⟩|_=>exact Bp e
theorem adL(e:nO o P):∃l,o=H (.A6 l)/\P l:=by
 cases o with
 |none=>exact e.elim|some o=>
  cases o with
  |A6 l=>exact⟨l,rfl,e⟩|_=>exact e.elim
theorem adM{nm:Str}{R:V->Internal.A0->Prop}(K:CL c env)(a:Du X c env ρ β A0 m s)(hn:nm="append")(adN:Ia o=U)(hl:(ap.endLine==p.line)=U)(ns:FY ev=A1)
  (h:wpAny X.M A (eval o env) (Post X β s A1 λt h1=>opt t.Av λx0=>Ep h1 x0=U/\R x0 h1) AP s)
  (hk:∀x0 A9 H1 s1,Go X β s A9 H1 s1->R x0 H1->wpAny X.M A (eval ev env) (Post X A9 s1 A1 λu h2=>opt u.Av λx=>J' h2 x0 x λh3=>Q .B0 ρ h3) AP s1):
  wpAny X.M A (exec (.Expr (.Call (.Attribute o nm ap) [ev] [] p) pos) env) (Fp X c env β ρ m s Q) AP s:=by
 refine BY (tD K hn adN hl ns (BY h λov s1 q=>?_)) λf s' q=>by obtain(⟨rfl,q⟩):=q;exact q
 obtain⟨t,H1,A9,⟨x0,e,il,q⟩,r,g,-⟩:=q;obtain rfl:=T.Ic e;cases x0 with
 |O si k=>
  obtain⟨l,ho⟩:=adK il;obtain⟨p1,hp,rfl⟩:=r;obtain⟨l1,l2,xs,pl,rv⟩:=g.st.at hp ho;refine⟨_,xs,by rw[l1],pl,Hv (hk _ A9 H1 s1 g q) λx s2 v H2 Br B7 r2 g2=>?_⟩;obtain⟨l',ho',hb,B7⟩:=adL B7;obtain⟨adO,adP,xs',SS,tK⟩:=g2.st.at (g2.B5.le.Dh hp) ho';refine⟨xs',SS,by rw[tK.Cy];exact adP,λh' hpl hs=>?_⟩;obtain⟨iI,adQ⟩:=id SS;have tk:=K7 adQ V9 hs.extBut;exact KB B7 (a.Gr ((g.Aw g2).P8 (o':=.A6 (l'++[v])) (g2.B5.le.Dh hp) ho' hs ⟨adO,by rw[El];exact hb,_,hpl,(tK.Bo tk (Af.le.BO _)).Xg ⟨x,[],rfl,BN.Bo tk (Af.le.BO _) r2,rfl⟩⟩ _))
 |_=>exact Bp il
theorem Dn.tup(K:CL c env)(a:Du X c env ρ β A0 m s)(g:Dn X c env β ρ m s β' ρ' m' H' s'):EX s.heap s'.heap:=λb xs e=>by
 refine g.AX b _ e (a.S.NS e fB) (λAA=>?_) λhd=>?_
 .obtain ⟨ob,e',lo,_⟩:=AA.G0 a.F
  rw[e] at e';exact lo.2 _ (BR e').symm
 .obtain ⟨ys,n,e'⟩:=hd.G0 K a.F K.Ol
  exact abr e e'
theorem DH.Gr(K:CL c env)(a:Du X c env ρ β A0 m s)(g:Dn X c env β ρ m s β' ρ' m' H' s')(na:∀l,t≠.DT l)(iK:Fo t=U->∀b,x=.ref b->¬MW c ρ m b)(r:DH X β s.heap t x):DH X β' s'.heap t x:=by
 cases t with
 |AQ=>exact r.elim|DT l=>exact absurd rfl (na l)|v w=>exact BN.Bo (g.tup K a) g.le r|Al l=>
  obtain⟨ad,xs,rfl,⟨n,ho⟩,rv,hb,nm,h0⟩:=r;have e:=g.AX ad _ ho nm (λAA=>by obtain⟨ob,e',_,nl,_⟩:=AA.G0 a.F;rw[ho] at e';exact nl _ _ (BR e').symm) (iK rfl ad rfl);refine⟨ad,xs,rfl,⟨n,e⟩,rv.Bo (g.tup K a) g.le,hb,λq=>?_,h0⟩;rcases g.IC ad q with z|z
  .exact nm z
  .rw [ho] at z;cases z
theorem GI.Gr(K:CL c env)(a:Du X c env ρ β A0 m s)(g:Dn X c env β ρ m s β' ρ' m' H' s')(r:GI s.heap ik t x l i it):GI s'.heap ik t x l i it:=by
 obtain⟨ob,vs,ho,hd⟩:=r.Qj;have e:=g.AX it _ ho (a.S.NS ho (gO hd)) (λAA=>by
  obtain⟨Yl,e',_,_,z⟩:=AA.G0 a.F;rw[ho] at e';clear Zd Zc;cases e';rcases z with⟨es,ep,z⟩|⟨v,z⟩<;>(rw[hd] at z;cases z)) (λhh=>by
  obtain⟨ys,n,e'⟩:=hh.G0 K a.F K.Ol;rw[ho] at e';exact Qe hd _ _ (BR e'))
 exact r.AX λo e2=>by rw[ho] at e2;cases e2;exact e
end
section
variable{A0:A0}
theorem DH.up(F:DW X c env ρ β h m)(up:∀d,¬Own c env d->∀o,h.get? d=H o->h'.get? d=H o)(r:DH X β h t x):DH X β h' t x:=by
 have tk:EX h h':=λb xs e=>up b (λAA=>by obtain⟨ob,e',lo,_⟩:=AA.G0 F;rw[e] at e';exact lo.2 _ (BR e').symm) _ e;have ls:∀{a xs n},h.get? a=H _->h'.get? a=H (FT xs n):=λ{a xs n} e=>up a (λAA=>by obtain⟨ob,e',_,nl,_⟩:=AA.G0 F;rw[e] at e';exact nl _ _ (BR e').symm) _ e;cases t with
 |AQ=>exact r.elim|v w=>exact BN.Bo tk (Af.le.BO _) r|Al l=>obtain⟨a,xs,e,⟨n,ho⟩,rv,b,m,z⟩:=r;exact⟨a,xs,e,⟨n,ls ho⟩,rv.Bo tk (Af.le.BO _),b,m,z⟩
 |DT l=>obtain⟨a,xs,e,⟨n,ho⟩,rv,b,m⟩:=r;exact⟨a,xs,e,⟨n,ls ho⟩,rv.Bo tk (Af.le.BO _),b,m⟩
theorem adR(hA:A.handled=AB)(K:CL c env)(a:Du X c env ρ β A0 m s)
  (adS:∀v,foldedSetIterable it env v=pure v)(ht:SE c Ac t=U)(hk:∀n∈JW t,c.Bc.lookup n=H .local\/c.Bc.lookup n=H .cell)
  (hJ:wpAny X.M A (eval it env) (SW X A β s fr ik λtt bv l H1=>(∀l',tt=.Al l'->fr=U)/\QD body Ac (λh'=>Gl h' ik tt bv l) Q l ρ H1) AP s)
  (hB:∀Dt A9 H1 m1 s1 Q',Du X c env Dt A9 H1 m1 s1->body Dt H1 Q'->wpAny X.M A (execs bs env) (Fp X c env A9 Dt m1 s1 Q') AP s1):
  wpAny X.M A (exec (.For t it bs [] pos) env) (Fp X c env β ρ m s Q) AP s:=by
 refine wpAny_For (BY hJ λx sa q=>?_) adS;obtain⟨A9,H1,g,w⟩:=q;refine BY w λitv sb q=>?_;obtain⟨ita,tt,bv,l,x',rfl,⟨hfr,q⟩,its,tr,adT,P1,anon,na⟩:=q;have tL:=a.go g;have Sf:X.h₀.get? ita=AB:=by
  cases e:X.h₀.get? ita with
  |none=>rfl|some o=>exact absurd (tL.S.G1 _ _ e) (by rw[P1];nofun)
 have iK:∀{Dt:List T} {Br:Af} {m2:Str->Option AG} {H2:Internal.A0} {s2:BS},Dn X c env A9 ρ m sa Br Dt m2 H2 s2->Fo tt=U->∀b,x'=.ref b->¬MW c Dt m2 b:=λ{Dt Br m2 H2 s2} DQ il b eb hh=>by
  have hl:∃l',tt=.Al l':=by
   cases tt with
   |AQ=>exact Bp il|v w=>exact Bp il|Al l'=>exact⟨l',rfl⟩|DT z=>exact absurd rfl (na z)
  clear il q na tr its;obtain⟨l',rfl⟩:=hl;obtain⟨a',o',ea,hn,hs⟩:=anon l' rfl (hfr l' rfl);rw[ea] at eb;cases eb;rcases DQ.SX _ hh with z|z
  .obtain ⟨ys,n,e'⟩:=z.G0 K a.F K.Ol
   rw[hn] at e';cases e'
  .rw [hs] at z;cases z
 let Inv:Nat->BS->Prop:=λn s'=>∃i Dt Br H2 m2,n+i=I l/\Dn X c env A9 ρ m sa Br Dt m2 H2 s'/\GI s'.heap ik tt x' l i ita/\DH X Br s'.heap tt x'/\QD body Ac (λh'=>Gl h' ik tt bv l) Q (l.drop i) Dt H2
 refine codeAny_forLoop_any Inv (λn s' hI=>?_) (I l) ⟨0,ρ,A9,H1,m,rfl,tL.Gr adT,its,tr,q⟩;obtain⟨i,Dt,Br,H2,m2,hn,Ng,its,tr,q⟩:=hI;have st:Gl H2 ik tt bv l:=by cases e:l.drop i<;>rw[e] at q<;>exact q.1
 obtain⟨ob,vs,hob,hdt⟩:=its.Qj;have VE:¬Br.mut ita:=Ng.st.NS hob (gO hdt);have lo:=gT hdt;have aD:env.locals≠ita:=λe=>by obtain⟨o,es,ep,e',d,_⟩:=Ng.fr.ns;rw[e,hob] at e';cases e';rw[hdt] at d;cases d
 have change:∀h' tk,Ig ita s'.heap h'->Dn X c env A9 ρ m sa Br Dt m2 H2 {s' with heap:=h',toks:=tk}:=λh' tk hs=>
  Ng.but hob VE lo P1 Sf hs aD (λv e=>by rw[hdt] at e;cases e) (λj y hj hjk hl=>(Ng.fr.Am j y hj hjk).MV hob (Qe hdt) hl) tk
 refine LV (rA (P:=λr s1=>match r with
   |none=>Fp X c env β ρ m s Q .next s1|some v=>∃v0 r',BN X.G.AM Br s1.heap v0 v/\i<I l/\Dn X c env A9 ρ m sa Br Dt m2 H2 s1/\GI s1.heap ik tt x' l (i+1) ita/\DH X Br s1.heap tt x'/\NO Ac v0 Dt=H r'/\ body r' H2 λfl r2 h2=>match fl with|.B0=>QD body Ac (λh'=>Gl h' ik tt bv l) Q (l.drop (i+1)) r2 h2|.Ag v=>Q (.Ag v) r2 h2) hA Ng.st its tr st (λv y h' tk e r z hs=>?_) λe h' tk hs=>?_) λr s1 p=>?_
 .have hi:i<I l:=(Dd.mp e).1
  have hd:l.drop i=v::l.drop (i+1):=by rw[rR hi];rw[DP hi] at e;rw[BR e]
  rw[hd] at q;obtain⟨_,r',Bx,q⟩:=q;exact⟨v,r',r,hi,change h' tk hs,z,tr.G5 hob lo hs (tr.MV hob (Qe hdt)),Bx,q⟩
 .have hd:l.drop i=[]:=rS (Yh.mp e)
  rw[hd] at q;exact(KB q.2 (change h' tk hs)).Bd (a.Gr g)
 .cases r with
  |none=>exact wpAny_execs_nil p|some v=>
   obtain⟨v0,r',rv,hi,iL,iM,adU,Bx,q⟩:=p;refine rG iM ?_;refine abA K hA iL ht hk Bx rv λm' h2 Sc g2 up u=>?_;have its2:GI h2 ik tt x' l (i+1) ita:=by
    obtain⟨aE,aoX,iN,adV⟩:=iM.Qj;have e:=up ita (λAA=>by
     obtain⟨Yl,e',_,_,z⟩:=AA.G0 iL.fr;rw[iN] at e';clear Zd Zc;cases e';rcases z with⟨es,ep,z⟩|⟨v,z⟩<;>(rw[adV] at z;cases z)) _ iN
    exact iM.AX λo e2=>by rw[iN] at e2;cases e2;exact e
   have adW:DH X Br h2 tt x':=DH.up iL.fr up adU;have a2:Du X c env r' Br H2 m' {s1 with heap:=h2,toks:=Sc}:=g2.at;refine LV (hB r' Br H2 m' _ _ a2 q) λf s3 p=>?_;obtain⟨fl,VN,H3,Ke,m3,F1,g3,DO⟩:=p;cases DO with
   |B0=>
    exact⟨n-1,(BG 1 AI A7 AI A7 A4 [n-1,n] (K3 (By 1 AI A7 1 A7 (.a Aa A2) AF Aa A4 [i,I l,n] hi (BQ hn.symm)))),i+1,VN,Ke,H3,m3,(Fl (By 1 AI A7 1 (.a A7 Aa) Er (.a A2 Cz) Er A4 [n-1,n,i,I l] (K3 (By 1 AI A7 1 A7 (.a Aa A2) AF Aa A4 [i,I l,n] hi (BQ hn.symm))) (BQ hn)) (By 1 A2 (.a A7 Aa) 1 A7 Ob A2 (.a Er Cz) A4 [I l,n,i,n-1] (BQ hn.symm) (LN (n) (1)))),g2.Aw g3,its2.Gr K a2 g3,adW.Gr K a2 g3 na (iK g2),F1⟩
   |@Ag v _ DO=>
    exact Fp.Bd (a.Gr g) ⟨.Ag v,VN,H3,Ke,m3,F1,g2.Aw g3,.Ag DO⟩
theorem adX(K:CL c env)(a:Du X c env ρ β A0 m s)
  (hT:∀Dt A9 H1 m1 s1 Q',Du X c env Dt A9 H1 m1 s1->iO Dt H1 Q'->wpAny X.M A (isTrue test env (eval test env)) (FW X A9 s1 Q') AP s1)
  (hB:∀Dt A9 H1 m1 s1 Q',Du X c env Dt A9 H1 m1 s1->body Dt H1 Q'->wpAny X.M A (execs bs env) (Fp X c env A9 Dt m1 s1 Q') AP s1)
  (w:S4 iO body Q n ρ A0):wpAny X.M A (exec (.While test bs [] pos) env) (Fp X c env β ρ m s Q) AP s:=by
 refine wpAny_While ?_
 let Inv:=λn s'=>∃Dt A9 H1 m1,Dn X c env β ρ m s A9 Dt m1 H1 s'/\S4 iO body Q n Dt H1
 refine codeAny_whileLoop Inv (λn s' hI=>?_) n ⟨ρ,β,A0,m,.BO a.S a.F,w⟩;obtain⟨Dt,A9,H1,m1,Ng,w⟩:=hI;cases n with
 |zero=>exact w.elim|succ n=>
  have w:iO Dt H1 _:=w;refine LV (hT Dt A9 H1 m1 s' _ Ng.at w) λb s2 p=>?_;obtain⟨H2,Br,w,g⟩:=p;have aF:=Ng.Aw (Ng.at.Gr g);cases b with
  |true=>
   refine LV (hB Dt Br H2 m1 s2 _ aF.at w) λf s3 p=>?_;obtain⟨fl,VN,H3,Ke,m3,F1,g3,DO⟩:=p;cases DO with
   |B0=>
    exact⟨n,Nat.lt_succ_self _,VN,Ke,H3,m3,aF.Aw g3,F1⟩
   |@Ag v _ DO=>
    exact⟨_,VN,H3,Ke,m3,F1,aF.Aw g3,.Ag DO⟩
  |false=>
   exact wpAny_execs_nil (KB w aF)
end
structure Dv(X:Cfg)(C:Cl)(A:I_)(S:S)(c:CY)(x:CA):Prop where
 go:∀{env:GS} {ρ:List T} {β:Af} {A0:A0} {m:Str->Option AG} {s:BS} {Q:DB->List T->Internal.A0->Prop},CL c env->Du X c env ρ β A0 m s->Xe X.G C S ρ A0 Q->wpAny X.M A (exec x env) (Fp X c env β ρ m s Q) AP s
structure Qv(X:Cfg)(C:Cl)(A:I_)(S:Cb)(c:CY)(xs:List CA):Prop where
 go:∀{env:GS} {ρ:List T} {β:Af} {A0:A0} {m:Str->Option AG} {s:BS} {Q:DB->List T->Internal.A0->Prop},CL c env->Du X c env ρ β A0 m s->Ae X.G C S ρ A0 Q->wpAny X.M A (execs xs env) (Fp X c env β ρ m s Q) AP s
section
variable(BI:Ek A (n+1))
include BI
theorem adY{e1 e2 cond:E}(D:a9 X C A c elt e1 e2 cond Ac ik y t it ifs sc){A0:A0}(K:CL c env)(a:Du X c env ρ β A0 m s)
  (w:Az X.G C (.Ez elt Ac ik e1 e2 cond) A1 ρ A0 Q)(use:Option (AG->Sem Unit))(P:AG->BS->Prop)(p2:Pos)
   (hP:∀acc Nf s1,Ys X β s (λvs h3=>Q (.Al vs) h3) acc Nf s1->compPost X.M A AP use P acc Nf (.ok .next) s1):
   wpAny X.M A (comprehension (.ListComp y [⟨t,it,ifs,0⟩] sc pos) sc env p2 (newList []) A1 (eval it env) use) P AP s:=by
 have Ai:=D.Ai;refine rV (GK:=λr' h' Q'=>Az X.G C cond U r' h' λt h''=>match t with|.v (.Au b)=>Q' b h''|_=>False) (ik:=ik) (h_ D.AU) BI.2.2 K Ai.Ai Ai.fn a.S a.F (λNf m2 r' A9 H1 s1 Q' CP Qt w1=>Cf (D.el.go (VC K Ai.Ai Ai.fn) ⟨CP,Qt⟩ w1) nofun) ?_ ?_ hP
 .clear w;rcases D.cd with⟨rfl,rfl⟩|⟨z,rfl,i6⟩
  .exact .inl ⟨rfl,λr' H1 Q' w1=>by obtain⟨b,e,w1⟩:=w1;cases e;exact w1⟩
  .exact .inr ⟨z,rfl,λNf m2 r' A9 H1 s1 Q' CP Qt w1=>Me (i6.go (VC K Ai.Ai Ai.fn) ⟨CP,Qt⟩ w1)⟩
 .exact rB (i0 D.AU K a w)
theorem tM{e1 e2 cond:E}(D:a9 X C A c elt e1 e2 cond Ac ik y t it ifs sc){A0:A0}
  (K:CL c env)(a:Du X c env ρ β A0 m s)(h1:c.Bt.lookup i=H nm)(h2:c.Bc.lookup nm=H .local)(hsw:Km c (.ListComp y [⟨t,it,ifs,0⟩] sc pp) nm p=U)(hw:Az X.G C (.Ez elt Ac ik e1 e2 cond) A1 ρ A0 ad0)
  (i8:∀l H1 A9 D ys s1,ad0 (.Al l) H1->Go X β s A9 H1 s1->F0 s1.heap D ys->C5 X.G.AM A9 s1.heap l ys->¬A9.mut D->I l<=BU->s.heap.get? D=AB->X.h₀.get? D=AB->
       ∃t H2 Br,Go X β s Br H2 s1/\DH X Br s1.heap t (.ref D)/\((∃v,t=.v v)\/∃l,t=.Al l)/\Q .B0 (Cq ρ i t) H2/\∀b,Br.mut b->A9.mut b\/b=D):
  wpAny X.M A (exec (.Assign [.Name nm p] (.ListComp y [⟨t,it,ifs,0⟩] sc pp) pos) env) (Fp X c env β ρ m s Q) AP s:=by
 rw[exec_Assign_Name_used _ _ _ _ (adk K hsw)];refine Ao (JY (Ao ?_));refine Ao (BY (adY BI D K a hw _ (λx s'=>Fp X c env β ρ m s Q _ s') _ λacc Nf s1 q=>?_) λx s' hq=>Bg (Bg hq));obtain⟨l,H1,A9,D,ys,rfl,q,g,pl,rv,Dp,le,⟨iE,hC⟩,cm,C1,Ch,MY,M_⟩:=q;obtain⟨tt,H2,Br,g2,r2,hv,B7,hm⟩:=i8 l H1 A9 D ys s1 q g pl rv Dp le MY M_;have Mb:Nf≠D:=λe=>by obtain⟨o,es,ep,e',d,_⟩:=hC;obtain⟨np,pl⟩:=pl;rw[e,pl] at e';cases e';cases d
 refine ads K a g2 h1 h2 r2 (hv.imp id λx=>⟨x,D,rfl,MY⟩) B7 hC (λq=>?_) C1 Ch λs' p=>p;rcases hm Nf q with z|z
 .exact cm z
 .exact Mb z
theorem tN{e1 e2 cond:E}(D:a9 X C A c elt e1 e2 cond Ac ik y t it ifs sc)(h1:c.Bt.lookup i=H nm)(h2:c.Bc.lookup nm=H .local)(hsw:Km c (.ListComp y [⟨t,it,ifs,0⟩] sc pp) nm p=U):
  Dv X C A (.Ak i (.Ez elt Ac ik e1 e2 cond)) c (.Assign [.Name nm p] (.ListComp y [⟨t,it,ifs,0⟩] sc pp) pos)/\∀si,Dv X C A (.Ak i (.CH si (.Ez elt Ac ik e1 e2 cond))) c (.Assign [.Name nm p] (.ListComp y [⟨t,it,ifs,0⟩] sc pp) pos):=by
 refine⟨⟨λ{env ρ β A0 m s Q} K a w=>?_⟩,λsi=>⟨λ{env ρ β A0 m s Q} K a w=>?_⟩⟩
 .refine tM BI D K a h1 h2 hsw w λl H1 A9 D ys s1 q g pl rv Dp le MY M_=>?_
  exact⟨.Al l,H1,A9,g,⟨D,ys,rfl,pl,rv,le,Dp,M_⟩,.inr ⟨l,rfl⟩,q.2,λb hb=>.inl hb⟩
 .obtain ⟨_,_,w⟩:=(w)
  refine tM BI D K a h1 h2 hsw w λl H1 A9 D ys s1 q g pl rv Dp le MY M_=>?_;obtain⟨hb,q⟩:=q;have ad1:=Af.ML A9 si (D,D);have g2:=g.Uz (o:=.A6 l) Dp M_ MY ⟨rfl,le,ys,pl,rv.Bo (EX.BO _) ad1⟩;refine⟨.v (.O si _),_,_,g2,⟨(D,D),?_,rfl⟩,.inl ⟨_,rfl⟩,q,λb hb=>Af.Uc hb⟩;rw[<-g.st.Aj];exact Af.Og ..
omit BI in
theorem ad2(FI:B4 X C A e c v)(h1:c.Bt.lookup i=H nm)(h2:c.Bc.lookup nm=H .local)(hsw:Km c v nm p=A1):Dv X C A (.Ak i e) c (.Assign [.Name nm p] v pos):=by
 refine⟨λ{env ρ β A0 m s Q} K a w=>?_⟩;refine wpAny_Assign_Name (BY (Cf (FI.go K a w) λe=>e) λvx s1 q=>?_) (su K hsw);obtain⟨t,H1,A9,q,r,g,f⟩:=q;rcases adq q with⟨v0,rfl,q⟩|⟨l,rfl,hf,q⟩
 .exact aB K a g h1 (.inl h2) r (.inl ⟨_,rfl⟩) q
 .exact aB K a g h1 (.inl h2) r (.inr ⟨⟨l,rfl⟩,f hf l rfl⟩) q
omit BI in
theorem ad3(FI:B4 X C A e c v)(h1:c.Bt.lookup i=H nm)(h2:c.Bc.lookup nm=H .cell)(h3:D7 X c e v=U):Dv X C A (.OS i e) c (.Assign [.Name nm p] v pos):=by
 refine⟨λ{env ρ β A0 m s Q} K a w=>?_⟩;have hsw:Km c v nm p=A1:=by
  have KC:=fV (C4 (AD (AD (AD (Uq e c v h3)))));have VO:=fV (AD (AD (AD (AD (Uq e c v h3)))));cases v<;>first|rfl|exact absurd rfl KC|exact absurd rfl VO|skip
  unfold Km;rw[h2];rfl
 refine wpAny_Assign_Name (BY (Cf (K9:=A1) (FI.go K a w) nofun) λvx s1 q=>?_) (su K hsw);obtain⟨t,H1,A9,⟨v0,e0,q⟩,r,g,f⟩:=q;obtain rfl:=T.Ic e0;exact aB K a g h1 (.inr ⟨h2,rfl⟩) r (.inl ⟨_,rfl⟩) q
theorem ad4(FI:B4 X C A e c v)(h2:Mi c is q=U)(h3:aA v=A1):Dv X C A (.NI is e) c (.Assign [.Tuple q k p1] v pos):=by refine⟨λ{env ρ β A0 m s Q} K a w=>?_⟩;refine adA BI.2.2 K a h2 h3 ?_;exact Cf (FI.go K a w) nofun
omit BI in
theorem ad5(io:B4 X C A o c u)(h2:a'=X.G.AM k)(FI:B4 X C A e c v):Dv X C A (.B3 o k e) c (.Assign [.Attribute u a' p] v pos):=by
 refine⟨λ{env ρ β A0 m s Q} K a w=>?_⟩;refine adD a h2 (R:=λt h1=>opt t.Av λx=>Az X.G C o A1 ρ h1 λu h2=>match u with
  |.v (.O s i)=>match(h2 s)[i]? with
   |some (.CK c l)=>X.G.MI c k=U/\I l<100/\Q .B0 ρ (Bf h2 s i (.CK c (CX l k x)))|_=>False
  |_=>False) ?_ λt A9 H1 s1 g q=>?_
 .exact Cf (FI.go K a w) nofun
 .obtain ⟨x0,e0,q⟩:=q
  exact⟨x0,T.Ic e0,Cf (io.go K (a.go g) q) nofun⟩
theorem ad6(io:B4 X C A o c u)(ik:B4 X C A k c q)(FI:B4 X C A e c v):Dv X C A (.Cv o k e) c (.Assign [.Subscript u q p] v pos):=by
 refine⟨λ{env ρ β A0 m s Q} K a w=>?_⟩;refine adF BI a (R:=λt h1=>opt t.Av λx=>Az X.G C o A1 ρ h1 λu h2=>Az X.G C k A1 ρ h2 λw h3=>opt w.Av λkv=>match u with
   |.v (.O si i)=>match(h3 si)[i]?,kv with
    |some (.A6 l),.B n=>0<=n/\n.toNat<I l/\Q .B0 ρ (Bf h3 si i (.A6 (l.set n.toNat x)))|some (.A6 _),_=>False|some o,kv=>opt (Ef X.G.AM o kv x) λo'=>Q .B0 ρ (Bf h3 si i o')|none,_=>False
   |_=>False) ?_ (λt A9 H1 s1 g q=>?_) λx0 u A9 H1 s1 g q=>Cf (ik.go K (a.go g) q) nofun
 .exact Cf (FI.go K a w) nofun
 .obtain ⟨x0,e0,q⟩:=q
  exact⟨x0,T.Ic e0,Cf (io.go K (a.go g) q) nofun⟩
set_option tactic.hygienic true in
omit BI in
theorem ad7(FI:B4 X C A e c v)(h1:c.Bt.lookup i=H nm)(h2:c.Bc.lookup nm=H .local\/c.Bc.lookup nm=H .cell):Dv X C A (.X_ i .Cu e) c (.AugAssign (.Name nm p) .Add v pos):=by
 refine⟨λ{env ρ β A0 m s Q} K a w=>?_⟩;have w:(match BD ρ i with
  |.v x=>Az X.G C e _ ρ A0 λt h1=>opt (match x,t with|.B a,.v (.B b)=>Jz ..|_,_=>AB) λy=>Q _ _ h1|_=>False):=w
 cases hx:BD ρ i with
 |v x=>rw[hx] at w;exact adI K a h1 h2 hx (Cf (FI.go K a w) nofun)|_=>rw[hx] at w;exact w.elim
omit BI in
theorem ad8(FI:B4 X C A e c v)(h:i9 v=A1):Dv X C A (.Gj e) c (.Expr v pos):=by refine⟨λ{env ρ β A0 m s Q} K a w=>?_⟩;refine wpAny_Expr_any (BY (Cf (K9:=A1) (FI.go K a w) nofun) λvx s1 q=>?_) (sy K) (adl h);obtain⟨t,H1,A9,⟨v0,e0,q⟩,r,g,f⟩:=q;exact KB q (a.Gr g)
set_option tactic.hygienic true in
omit BI in
theorem ad9{nm:Str}(h1:nm="append")(h2:Ia ov=U)(h3:(ap.endLine==p.line)=U)(h4:D7 X c o ov=U)(h5:D7 X c e ev=U)(io:B4 X C A o c ov)(FI:B4 X C A e c ev):Dv X C A (.Bl o e) c (.Expr (.Call (.Attribute ov nm ap) [ev] [] p) pos):=by
 refine⟨λ{env ρ β A0 m s Q} K a w=>?_⟩;have gen:(Az X.G C o _ ρ A0 λt h1=>opt _ λx0=>Ep h1 x0=U/\Az X.G C e _ ρ h1 λu h2=>opt _ λx=>J' h2 x0 x λh3=>Q _ ρ h3)->wpAny X.M A (exec (.Expr _ pos) env) _ AP s:=λw=>
  adM K a h1 h2 h3 (J5 h5) (Cf (io.go K a w) nofun) λx0 A9 H1 s1 g q=>Cf (FI.go K (a.go g) q) nofun
 cases o<;>try exact gen w
 rename_i i;have w:(match BD ρ i with
   |.Al _=>Az X.G C e _ ρ A0 λu h2=>opt _ λx=>match BD ρ i with
    |.Al l=>I l<BU/\Q _ _ h2|_=>False
   |.v x0=>Ep A0 x0=U/\Az X.G C e _ ρ A0 λu h2=>opt _ λx=>J' h2 x0 x λh3=>Q _ ρ h3|_=>False):=w
 cases hl:BD ρ i with
 |AQ=>rw[hl] at w;exact w.elim|DT l=>rw[hl] at w;exact w.elim|Al BE=>
  rw[hl] at w;refine HF (P:=λov=>wpAny X.M A (exec (.Expr (.Call (.Attribute ov nm ap) _ [] p) pos) env) _ AP s) h4 λn2 p2 h4=>?_;refine adJ K a h1 h3 (J5 h5) (beq_iff_eq.mp (AJ h4).1) (VK (AJ (AJ h4).2).2) hl ?_;exact BY (Cf (K9:=A1) (FI.go K a w) nofun) λy y p=>p.Bo (λt h q=>q) λe=>e
 |v x0=>
  rw[hl] at w;refine gen ?_;show(match BD ρ i with|.AQ=>False|t=>Cp _ (λt h1=>opt _ λx0=>Ep h1 x0=U/\Az X.G C e _ ρ h1 λu h2=>opt _ λx=>J' h2 x0 x λh3=>Q _ ρ h3) t A0);rw[hl];exact⟨x0,rfl,w⟩
omit BI in
theorem aea(FI:B4 X C A e c a')(i1:Qv X C A CP c l)(i2:Qv X C A CG c k):Dv X C A (.Ay e CP CG) c (.If a' l k p):=by
 refine⟨λ{env ρ β A0 m s Q} K a w=>?_⟩;refine wpAny_If (BY (Me (FI.go K a w)) λb s1 q=>?_);obtain⟨H1,A9,q,g⟩:=q;cases b with
 |true=>exact BY (i1.go K (a.go g) q) λx x p=>p.Bd (a.Gr g)|false=>exact BY (i2.go K (a.go g) q) λx x p=>p.Bd (a.Gr g)
theorem aeb(h1:Je X C A c ik e1 e2 y)(h2:SE c Ac t=U)(h3:∀n∈JW t,c.Bc.lookup n=H .local\/c.Bc.lookup n=H .cell)(ib:Qv X C A body c l):Dv X C A (.Cm Ac ik e1 e2 body) c (.For t y l [] p):=by refine⟨λ{env ρ β A0 m s Q} K a w=>?_⟩;exact adR BI.2.2 K a (h_ h1) h2 h3 (i0 h1 K a w) λDt A9 H1 m1 s1 Q' a1 w1=>ib.go K a1 w1
omit BI in
theorem aec(FI:B4 X C A e c a')(ib:Qv X C A body c l):Dv X C A (.while e body) c (.While a' l [] p):=by refine⟨λ{env ρ β A0 m s Q} K a w=>?_⟩;obtain⟨k,w⟩:=w;exact adX K a (λDt A9 H1 m1 s1 Q' a1 w1=>Me (FI.go K a1 w1)) (λDt A9 H1 m1 s1 Q' a1 w1=>ib.go K a1 w1) w
omit BI in
theorem aed(FI:B4 X C A e c v):Dv X C A (.Ag e) c (.Return (H v) p):=by refine⟨λ{env ρ β A0 m s Q} K a w=>?_⟩;refine wpAny_Return_some (BY (Cf (K9:=A1) (FI.go K a w) nofun) λvx s1 q=>?_);obtain⟨t,H1,A9,⟨v0,e0,q⟩,r,g,f⟩:=q;obtain rfl:=T.Ic e0;exact⟨_,ρ,H1,A9,m,q,a.Gr g,.Ag r⟩
omit BI in
theorem aee{S:S}(i:Dv X C A S c x)(is:Qv X C A r c xs):Qv X C A (.AR S r) c (x::xs):=by
 refine⟨λ{env ρ β A0 m s Q} K a w=>?_⟩;refine wpAny_execs_cons (BY (i.go K a w) λf s1 p=>?_);obtain⟨fl,Dt,H1,A9,m1,q,g,fr⟩:=p;cases fr with
 |B0=>exact BY (is.go K g.at q) λy y p=>p.Bd g|Ag fr=>exact⟨_,Dt,H1,A9,m1,q,g,.Ag fr⟩
inductive iP:E->Prop
 |c (elt:E) (Ac:List Nat) (ik:FG) (e1 e2 cond:E):iP (.Ez elt Ac ik e1 e2 cond)|a (si:Nat) (elt:E) (Ac:List Nat) (ik:FG) (e1 e2 cond:E):iP (.CH si (.Ez elt Ac ik e1 e2 cond))
omit BI in
theorem aef(h:iA e=U):iP e:=by
 cases e with
 |Ez=>exact .c ..|CH si e=>cases e with
  |Ez=>exact .a ..|_=>exact Bp h
 |_=>exact Bp h
variable(cs:NW X C n)
include cs
theorem aeg(h1:c.Bt.lookup i=H nm)(h2:c.Bc.lookup nm=H .local)(h3:D7 X c e v=U)(h4:(!Km c v nm p||iA e)=U):Dv X C A (.Ak i e) c (.Assign [.Name nm p] v pos):=by
 have sx:=sG BI cs;cases hsw:Km c v nm p with
 |false=>exact ad2 (sx e c v h3) h1 h2 hsw|true=>
  rw[hsw] at h4;cases aef h4 with
  |c elt Ac ik e1 e2 cond=>
   exact i7 (P:=λv=>Km c v nm p=U->Dv X C A _ c (.Assign _ v pos)) h3 (sx _) (sx _) (sx _) (sx _) (λy t it ifs sc pp D hsw=>(tN BI D h1 h2 hsw).1) hsw
  |a si elt Ac ik e1 e2 cond=>
   exact i7 (P:=λv=>Km c v nm p=U->Dv X C A _ c (.Assign _ v pos)) h3 (sx _) (sx _) (sx _) (sx _) (λy t it ifs sc pp D hsw=>(tN BI D h1 h2 hsw).2 si) hsw
def aeh(X:Cfg)(C:Cl)(A:I_)(s:S):Prop:=∀(c:CY) (x:CA),adj X c s x=U->Dv X C A s c x
def aei(X:Cfg)(C:Cl)(A:I_)(s:Cb):Prop:=∀(c:CY) (x:List CA),VM X c s x=U->Qv X C A s c x
omit BI cs in
theorem tO{n:Str}(h:Sq c n=U):c.Bc.lookup n=H .local\/c.Bc.lookup n=H .cell:=YB h
theorem aej:∀s:Cb,aei X C A s:=by
 have sx:=sG BI cs;have no:∀{b:Bool},(!b)=U->b=A1:=λ{b} h=>by cases b<;>first|rfl|cases h
 exact@Cb.rec (aeh X C A) _
  (λi e c x h=>VL h λl v q h=>GU (P:=λl=>Dv X C A _ c (.Assign l v q)) h λt h=>HF (P:=λt=>Dv X C A _ c (.Assign [t] v q)) h λn p h=>aeg BI cs (beq_iff_eq.mp (AJ h).1) (beq_iff_eq.mp (AJ (AJ h).2).1) (AJ (AJ (AJ h).2).2).1 (AJ (AJ (AJ h).2).2).2)
  (λi e c x h=>VL h λl v q h=>GU (P:=λl=>Dv X C A _ c (.Assign l v q)) h λt h=>HF (P:=λt=>Dv X C A _ c (.Assign [t] v q)) h λn p h=>ad3 (sx e c v (AJ (AJ h).2).2) (beq_iff_eq.mp (AJ h).1) (beq_iff_eq.mp (AJ (AJ h).2).1) (AJ (AJ h).2).2)
  (λis e c x h=>VL h λl v q h=>GU (P:=λl=>Dv X C A _ c (.Assign l v q)) h λt h=>Y7 (P:=λt=>Dv X C A _ c (.Assign [t] v q)) h λr k p h=>ad4 BI (sx e c v (AJ h).1) (AJ (AJ h).2).1 (no (AJ (AJ h).2).2))
  (λo k e c x h=>VL h λl v q h=>GU (P:=λl=>Dv X C A _ c (.Assign l v q)) h λt h=>Y5 (P:=λt=>Dv X C A _ c (.Assign [t] v q)) h λu a p h=>ad5 (sx o c u (AJ h).1) (beq_iff_eq.mp (AJ (AJ h).2).1) (sx e c v (AJ (AJ h).2).2))
  (λo k e c x h=>VL h λl v q h=>GU (P:=λl=>Dv X C A _ c (.Assign l v q)) h λt h=>Ug (P:=λt=>Dv X C A _ c (.Assign [t] v q)) h λu r p h=>ad6 BI (sx o c u (AJ h).1) (sx k c r (AJ (AJ h).2).1) (sx e c v (AJ (AJ h).2).2))
  (λi op e c x h=>adb h λt o v q h=>HF (P:=λt=>Dv X C A _ c (.AugAssign t o v q)) h λn p h=>by
   have h3:=AJ (AJ (AJ h).2).2;have e:op=.Cu:=by have:=h3.1;cases op<;>first|rfl|cases this
   subst e;exact Oh (P:=λo=>Dv X C A _ c (.AugAssign _ o v q)) (AJ h3.2).1 (ad7 (sx e c v (AJ h3.2).2) (beq_iff_eq.mp (AJ h).1) (tO (AJ (AJ h).2).1)))
  (λe c x h=>sO h λv p h=>ad8 (sx e c v (AJ h).1) (no (AJ h).2))
  (λo e c x h=>sO h λv p h=>Um (P:=λv=>Dv X C A _ c (.Expr v p)) h λu nm l ap p2 h3 h2 h=>GU (P:=λl=>Dv X C A _ c (.Expr (.Call _ l [] p2) p)) h λy h=>
   ad9 (beq_iff_eq.mp (AJ h).1) h2 h3 (AJ (AJ h).2).1 (AJ (AJ h).2).2 (sx o c u (AJ (AJ h).2).1) (sx e c y (AJ (AJ h).2).2))
  (λe CP CG i1 i2 c x h=>adg h λt l k p h=>aea (sx e c t (AJ h).1) (i1 c l (AJ (AJ h).2).1) (i2 c k (AJ (AJ h).2).2))
  (λAc ik e1 e2 body ib c x h=>ade h λt y l k p h=>ID (P:=λk=>Dv X C A _ c (.For t y l k p)) (AJ h).1 (by
   have h2:=AJ (AJ h).2;have h3:=AJ h2.2;have h4:=AJ h3.2;exact aeb BI (sC h2.1 (sx e1) (sx e2)) h3.1 (λn hn=>tO (Gm.mp h4.1 n hn)) (ib c l h4.2)))
  (λe body ib c x h=>adf h λt l k p h=>ID (P:=λk=>Dv X C A _ c (.While t l k p)) (AJ h).1 (aec (sx e c t (AJ (AJ h).2).1) (ib c l (AJ (AJ h).2).2)))
  (λe c x h=>sI h λo p h=>Ui (P:=λo=>Dv X C A _ c (.Return o p)) h λv h=>aed (sx e c v h))
  (λc x h=>sI h λo p h=>Uj (P:=λo=>Dv X C A _ c (.Return o p)) h ⟨λ{env ρ β A0 m s Q} K a w=>wpAny_Return_none ⟨_,ρ,A0,β,m,w,.BO a.S a.F,.Ag rfl⟩⟩)
  (λc x h=>adh h λp z=>⟨λ{env ρ β A0 m s Q} K a w=>wpAny_Pass (KB w (.BO a.S a.F))⟩)
  (λc x h=>⟨λK a w=>w.elim⟩)
  (λc l h=>ID h ⟨λ{env ρ β A0 m s Q} K a w=>wpAny_execs_nil (KB w (.BO a.S a.F))⟩)
  (λs r i is c l h=>K5 h λx l h=>aee (i c x (AJ h).1) (is c l (AJ h).2))
theorem aek(S:Cb){A0:A0}(ag:VM X c S xs=U)(K:CL c env)(a:Du X c env ρ β A0 m s)(w:Ae X.G C S ρ A0 Q):wpAny X.M A (execs xs env) (Fp X c env β ρ m s Q) AP s:=(aej BI cs S c xs ag).go K a w
end
structure Nh(X:Cfg)(a:BJ)(F:Fn)(o:Obj)(fd:OM)(body:List CA)(ps:List Str)(c:CY):Prop where
 DE:X.h₀.get? a=H o
 iQ:o.data=.func fd
 tP:X.h₀.CodeRec fd.code fd.qualname
 tQ:fd.body=.stmts body
 Hx:fd.closure=[]
 co:fd.scope.isCoroutine=A1
 gen:fd.scope.isGenerator=A1
 GV:fd.scope.kind=.function
 AW:fd.globals=mainGlobals
 tR:fd.builtins=builtinsNs
 tS:∀vals:List AG,I vals=F.np->bindArgs fd ⟨vals,[]⟩=pure (ps.zip vals)
 iR:I ps=F.np
 iS:Ht ps=U
 pin:∀x∈ps,c.Bc.lookup x=H .local\/c.Bc.lookup x=H .cell
 Bc:c.Bc=fd.scope.names
 ns:c.ns=F.ns
 le:F.np<=F.ns
 Ib:Ht (c.Bt.map (·.2))=U
 LU:QN (c.Bt.map (·.1))=U
 lt:∀i x,(i,x)∈c.Bt->i<c.ns
 Ol:∀i x,(i,x)∈c.Bt->c.Bc.lookup x=H .local\/c.Bc.lookup x=H .cell
 iT:∀i x,(i,x)∈c.Bt->i<F.np->ps[i]?=H x
 iU:∀i x,(i,x)∈c.Bt->F.np<=i->x∉ps
 tT:VM X c F.BL body=U
theorem tU:∀{l:List (Str×AG)} {m:Str->Option AG},x∉l.map (·.1)->bindL k l m x=m x:=by
 intro BE;induction BE with
 |nil=>
  rintro m _;exact rfl
 |cons hd0 r ih=>
  rintro m h;simp only[Hw,D4,not_or] at h;rw[ih h.2];split
  .dsimp only;rw[if_neg h.1]
  .rfl
theorem tV:∀{l:List (Str×AG)} {m:Str->Option AG},x∉l.map (·.1)->bindC k l m x=m x:=by
 intro BE;induction BE with
 |nil=>
  rintro m _;exact rfl
 |cons hd0 r ih=>
  rintro m h;simp only[Hw,D4,not_or] at h;rw[ih h.2];split
  .rfl
  .dsimp only;rw[if_neg h.1]
theorem iV{ps:List Str}{vals:List AG}(h:I vals=I ps):(ps.zip vals).map (·.1)=ps:=by rw[List.map_fst_zip];exact BG 1 A2 A7 A2 A7 A4 [I ps,I vals] (BQ h.symm)
theorem VP(h:Ht (x::r)=U):x∉r/\Ht r=U:=by
 simp only[Ht,Gq] at h;refine⟨λm=>?_,h.2⟩
 have:=VA.mpr m;rw[this] at h;cases h.1
theorem tW(hk:k x=H .local):∀{ps:List Str} {vals:List AG} {i:Nat} {m:Str->Option AG},I vals=I ps->Ht ps=U->ps[i]?=H x->bindL k (ps.zip vals) m x=vals[i]?
 |[],_,i,m,_,_,e=>by simp at e|p::ps,[],i,m,h,_,_=>by simp at h|p::ps,v::vals,0,m,h,nd,e=>by
  obtain⟨n1,n2⟩:=VP nd;have e:p=x:=by simpa using e
  subst e;show bindL k (ps.zip vals) _ p=_;rw[tU (by rw[iV (by simpa using h)];exact n1),if_pos hk];simp
 |p::ps,v::vals,i+1,m,h,nd,e=>by obtain⟨n1,n2⟩:=VP nd;rw[tW hk (by simpa using h) n2 (by simpa using e)];simp
theorem tX(hk:k x≠H .local):∀{ps:List Str} {vals:List AG} {i:Nat} {m:Str->Option AG},I vals=I ps->Ht ps=U->ps[i]?=H x->bindC k (ps.zip vals) m x=vals[i]?
 |[],_,i,m,_,_,e=>by simp at e|p::ps,[],i,m,h,_,_=>by simp at h|p::ps,v::vals,0,m,h,nd,e=>by
  obtain⟨n1,n2⟩:=VP nd;have e:p=x:=by simpa using e
  subst e;show bindC k (ps.zip vals) _ p=_;rw[tV (by rw[iV (by simpa using h)];exact n1),if_neg hk];simp
 |p::ps,v::vals,i+1,m,h,nd,e=>by obtain⟨n1,n2⟩:=VP nd;rw[tX hk (by simpa using h) n2 (by simpa using e)];simp
set_option tactic.hygienic true in
theorem tY:∀{l:List (Str×JV)} {n:Nat} {acc:List (Str×BJ)},((x,JV.cell)∈l\/(acc.lookup x).isSome=U)->((cellsFrom n l acc).lookup x).isSome=U:=by
 intro BE;induction BE with
 |nil=>
  rintro n acc h;rcases h with h|h
  .cases h
  .exact h
 |cons hd0 r ih=>
  rcases hd0 with⟨k,d⟩;rintro n acc h;unfold cellsFrom;split
  .refine ih ?_
   rcases h with h|h
   .rcases D4.mp h with e|e
    .cases e;right;simp
    .exact .inl e
   .right
    rw[Qh];cases hx:x==k with
    |true=>rfl|false=>exact h
  .rename_i hk
   refine ih ?_;rcases h with h|h
   .rcases D4.mp h with e|e
    .cases e;exact absurd rfl hk
    .exact .inl e
   .exact .inr h
theorem iW:∀{l:List (Str×JV)},l.lookup x=H k->(x,k)∈l
 |(n,d)::r,h=>by
  rw[Qh] at h;cases hb:x==n with
  |true=>rw[hb] at h;cases h;rw[beq_iff_eq.mp hb];exact D0
  |false=>rw[hb] at h;exact DV _ (iW h)
theorem VQ(h:i<I vs):BD (vs++E3 k .AQ) i=vs[i]:=by
 induction vs generalizing i with
 |nil=>simp at h|cons v r ih=>
  cases i with
  |zero=>rfl|succ i=>exact ih (by simpa using h)
theorem ael:BD (E3 k .AQ) i=.AQ:=by
 induction k generalizing i with
 |zero=>rfl|succ k ih=>cases i with
  |zero=>rfl|succ i=>exact ih
theorem VR(h:I vs<=i):BD (vs++E3 k .AQ) i=.AQ:=by
 induction vs generalizing i with
 |nil=>exact ael|cons v r ih=>
  cases i with
  |zero=>simp at h|succ i=>exact ih (by simpa using h)
section
variable{A0:A0}
theorem Nh.env(f:Nh X a F o fd body ps c)(L:BJ):CL c (callEnvC fd L a):=⟨f.Bc.symm,f.GV,f.AW,f.tR,f.Ib,λi x y=>gU f.LU,f.lt,f.Ol⟩
structure Given(X:Cfg)(c:CY)(β:Af)(h:Ca)(ts:List T)(xs:List AG):Prop where
 Aj:I xs=I ts
 rel:∀i (hi:i<I ts),∃x,xs[i]?=H x/\DH X β h ts[i] x
 t_:∀i (hi:i<I ts),ts[i]≠.AQ
 tg:∀i (hi:i<I ts),MP ts[i]=A1
 aem:∀i (hi:i<I ts) x,(i,x)∈c.Bt->c.Bc.lookup x=H .cell->Fo ts[i]=A1
theorem tn(n:t≠.AQ)(r:DH X β h t x):JS X β h t (H x):=by
 cases t with
 |AQ=>exact absurd rfl n|v w=>exact⟨x,rfl,r⟩|Al l=>exact⟨x,rfl,r⟩|DT l=>exact⟨x,rfl,r⟩
theorem Nh.aen(f:Nh X a F o fd body ps c)(S:Bh X β A0 s.heap)(r:Given X c β s.heap vs xs)(hl:I vs=F.np)
  (x:InCallC s (callEnvC fd s.heap.objs.size a).locals (bindL (callEnvC fd s.heap.objs.size a).kindOf (ps.zip xs) λu=>AB) (callEnvC fd s.heap.objs.size a).cells (bindC (callEnvC fd s.heap.objs.size a).kindOf (ps.zip xs) λu=>AB) s1)
  (up:∀b o,s.heap.get? b=H o->s1.heap.get? b=H o)(hn:s1.heap.Ns (callEnvC fd s.heap.objs.size a).locals (bindL (callEnvC fd s.heap.objs.size a).kindOf (ps.zip xs) λu=>AB)):
  DW X c (callEnvC fd s.heap.objs.size a) (vs++E3 (F.ns-F.np) .AQ) β s1.heap (bindL (callEnvC fd s.heap.objs.size a).kindOf (ps.zip xs) λu=>AB):=by
 have K:=f.env s.heap.objs.size;have xl:I xs=I ps:=by rw[r.Aj,hl,f.iR]
 have Sv:∀{b},s.heap.objs.size<=b->s.heap.get? b=AB:=λ{b} h=>by
  cases e:s.heap.get? b with
  |none=>rfl|some o=>exact absurd (NQ e) (NT.mpr h)
 have nm:∀{b},s.heap.get? b=AB->¬β.mut b:=λ{b} e q=>by obtain⟨ob,e',_⟩:=S.LR q;rw[e] at e';cases e'
 have tu:=(S.AX up).2;have tw:∀{y:Str},y∉ps->y∉(ps.zip xs).map _:=λ{y} h=>by rw[iV xl];exact h
 have u0:(callEnvC fd s.heap.objs.size a).locals=s.heap.objs.size:=rfl;refine⟨hn,nm (Sv (BQ u0.symm)),LM S.G1 (Sv (BQ u0.symm)),λi y hy hk=>?_,λi y hy hk=>?_,λy z b hy hz ey aeo=>?_,λi y j z b hi hj li=>?_,?_⟩
 .by_cases hi:i<F.np
  .rw [VQ (By 1 AI A7 1 A7 Aa AI Aa A4 [i,F.np,I vs] hi (BQ hl.symm)),tW (by rw[K.HG];exact hk) xl f.iS (f.iT i y hy hi)]
   obtain⟨v,e,rv⟩:=r.rel i (By 1 AI A7 1 A7 Aa AI Aa A4 [i,F.np,I vs] hi (BQ hl.symm));rw[e];exact tn (r.t_ i _) (rv.B5 S tu)
  .rw [VR (By 1 A2 A7 1 A7 Aa A2 Aa A4 [I vs,F.np,i] (BQ hl) (J1 hi)),tU (tw (f.iU i y hy (BG 1 A2 A7 A2 A7 A4 [F.np,i] (J1 hi))))]
   rfl
 .have hs:((cellsFrom (s.heap.objs.size+1) fd.scope.names []).lookup y).isSome=U:=tY (.inl (iW (by rw[<-f.Bc];exact hk)))
  obtain⟨b,hb⟩:=Yr.mp hs;have ab:=x.above y b (iX hb);have Cc:(callEnvC fd s.heap.objs.size a).kindOf y≠H .local:=by rw[K.HG,hk];nofun
  refine⟨b,_,hb,x.cell y b hb,LM S.G1 (Sv (MS ab)),?_,?_⟩
  .by_cases hi:i<F.np
   .rw [VQ (By 1 AI A7 1 A7 Aa AI Aa A4 [i,F.np,I vs] hi (BQ hl.symm)),tX Cc xl f.iS (f.iT i y hy hi)]
    obtain⟨v,e,rv⟩:=r.rel i (By 1 AI A7 1 A7 Aa AI Aa A4 [i,F.np,I vs] hi (BQ hl.symm));rw[e];exact tn (r.t_ i _) (rv.B5 S tu)
   .rw [VR (By 1 A2 A7 1 A7 Aa A2 Aa A4 [I vs,F.np,i] (BQ hl) (J1 hi)),tV (tw (f.iU i y hy (BG 1 A2 A7 A2 A7 A4 [F.np,i] (J1 hi))))]
    rfl
  .by_cases hi:i<F.np
   .rw [VQ (By 1 AI A7 1 A7 Aa AI Aa A4 [i,F.np,I vs] hi (BQ hl.symm))];exact r.aem i _ y hy hk
   .rw [VR (By 1 A2 A7 1 A7 Aa A2 Aa A4 [I vs,F.np,i] (BQ hl) (J1 hi))];rfl
 .exact name_of_addr x.apart (iX ey) (iX aeo)
 .exfalso
  by_cases h:i<F.np
  .rw [VQ (aG h hl.symm),r.tg i (aG h hl.symm)] at li;cases li
  .rw [VR (by exact By 1 A2 A7 1 A7 Aa A2 Aa A4 [I vs,F.np,i] (BQ hl) (J1 h))] at li;cases li
 .rw [El,List.length_replicate,hl,f.ns]
  have:=f.le;exact Fl (BG 1 (.a A2 A7) Aa (.a A7 A2) Aa A4 [F.ns-F.np,F.np,F.ns] (K3 (BG 1 A2 A7 A2 A7 A4 [F.np,F.ns] this))) (BG 1 A2 (.a A7 Aa) A2 (.a Aa A7) A4 [F.ns,F.ns-F.np,F.np] (LN (F.ns) _))
theorem Ek.aep(R:Ek A (n+2)):Ek (A.deeper env) (n+1):=by
 obtain⟨r1,r2,r3⟩:=R;refine⟨?_,?_,r3⟩
 .exact BG 1 (.a (.a A2 (.m 3 (.a A7 (.k 2)))) (.k 5)) Aa (.a (.a AI (.m 3 BB)) (.k 5)) Aa A4 [A.depth,n,recursionLimit] r1
 .exact BG 1 (.a (.a A2 (.m 12 (.a A7 (.k 2)))) (.k 400)) Aa (.a (.a (.a A2 (.k 3)) (.m 12 BB)) (.k 400)) Aa A4 [A.units,n,cLine] r2
theorem u5(f:Nh X a F o fd body ps c)(cs:NW X C n)(R:Ek A (n+2))(S:Bh X β A0 s.heap)(r:Given X c β s.heap vs xs)(hl:I vs=F.np)
  (w:Ae X.G C F.BL (vs++E3 (F.ns-F.np) .AQ) A0 λfl u h'=>Q fl.Av h'):
  codeAny X.M A (.call (.ref a) ⟨xs,[]⟩) (λr s'=>match r with|.ok (.ret x)=>YC X β s Q x s'|_=>False) s:=by
 have K:=f.env s.heap.objs.size;have xl:I xs=I ps:=by rw[r.Aj,hl,f.iR]
 refine codeAny_call_cells (by have:=R.1;exact BG 1 (.a (.a A2 (.m 3 (.a A7 (.k 2)))) (.k 5)) Aa AI Aa A4 [A.depth,n,recursionLimit] this) (S.G1 _ _ f.DE) f.iQ (X.nh.keeps S.G1) (f.tP.keeps S.G1) f.tQ (f.tS xs (by rw[r.Aj,hl])) f.Hx (λy hy=>?_) (λs1 x=>?_) f.co f.gen f.GV
 .have hm:=(gg hy).1
  rcases f.pin _ hm with e|e
  .exact .inl (by rw[<-f.Bc];exact e)
  .exact .inr ⟨by rw[<-f.Bc];exact e,tY (.inl (iW (by rw[<-f.Bc];exact e)))⟩
 .obtain ⟨h1,tk,e1,up⟩:=x.done
  have g0:Go X β s β A0 s1:=by rw[e1];exact(Go.BO S).AX up tk
  have up':∀b o,s.heap.get? b=H o->s1.heap.get? b=H o:=by rw[e1];exact up
  have aeq:=f.aen S r hl x up' x.toInCall.ns;have aer:Du X c _ _ β A0 _ s1:=⟨g0.st,aeq⟩;have Sv:∀{b},s.heap.objs.size<=b->s.heap.get? b=AB:=λ{b} h=>by
   cases e:s.heap.get? b with
   |none=>rfl|some o=>exact absurd (NQ e) (NT.mpr h)
  refine LV (aek R.aep cs _ f.tT K aer w) λfl s' p=>?_;obtain⟨u6,ρ',H',β',m',q,g,fr⟩:=p;have go:Go X β s β' H' s':=by
   refine⟨g.st,⟨g.le,λb o e n=>?_,λb hb=>?_⟩,?_⟩
   .refine g.AX b o (up' b o e) n (λAA=>?_) λhh=>?_
    .rcases AA with rfl|⟨i,y,hy,hk,hc⟩
     .rw [Sv (BQ (show(callEnvC fd s.heap.objs.size a).locals=s.heap.objs.size from rfl).symm)] at e;cases e
     .rw [Sv (MS (x.above y b (iX hc)))] at e;cases e
    .obtain ⟨i,y,hy,li,_⟩:=hh
     by_cases h:i<F.np
     .rw [VQ (aG h hl.symm),r.tg i (aG h hl.symm)] at li;cases li
     .rw [VR (by exact By 1 A2 A7 1 A7 Aa A2 Aa A4 [I vs,F.np,i] (BQ hl) (J1 h))] at li;cases li
   .rcases g.IC b hb with z|z
    .exact .inl z
    .exact .inr (LM up' z)
   .have:=g.Hu;rw[this,e1]
  cases fr with
  |B0=>exact⟨_,H',β',q,rfl,go⟩|Ag fr=>exact⟨_,H',β',q,fr,go⟩
theorem aes(r:C5 X.G.AM β h vs xs):Given X c β h (vs.map T.v) xs:=by
 refine⟨by rw[r.Cy,Ce],λi hi=>?_,λi hi=>?_,λi hi=>?_,λi hi x z z=>?_⟩
 .have hi':i<I vs:=by simpa using hi
  obtain⟨y,e,Dz⟩:=r.Dh (DP hi');refine⟨y,e,?_⟩;rw[iY];exact Dz
 .rw [iY];nofun
 .rw [iY];rfl
 .rw [iY];rfl
theorem u7(hf:∀f F,X.G.UO f=H F->∃o fd body ps c,Nh X (X.LQ f) F o fd body ps c):∀d,NW X (AL X.G d) (2*d)
 |0=>λf vs A0 Q h=>h.elim|d+1=>λf vs A0 Q h A β s xs R S r=>by
  obtain⟨P,m,F,aet,hl,w⟩:=h;obtain⟨o,fd,body,ps,c,ok⟩:=hf f F aet;exact f_ (u5 ok (u7 hf d) R S (aes r) (by rw[Ce];exact hl) w) λr s' z=>by rcases r with e|(_|_|_|v)<;>first|exact z.elim|exact(by obtain⟨v,H',β',q,r,g⟩:=z;exact⟨v,H',β',m _ _ q,r,g⟩)
end
end
section
open PySem
def aeu:Fn:=⟨1,3,#v[.B3 (J 0) 0 (.CH 1 (.A6 .AH)),.B3 (J 0) 1 (.Dm .td 2 .AH),.B3 (J 0) 2 (.CH 3 (.A6 .AH)),.B3 (J 0) 3 (.CH 4 (.A6 .AH)),.B3 (J 0) 4 (.CH 5 (.A6 .AH)),.Cm [1] .DU (.AW 0 (.B 16)) (.AO .AV) #v[.Ak 2 (.A3 #v[.AW 1 (.B 1),J 1]),.Bl (.AN (J 0) 0) (J 2),.Cv (.AN (J 0) 1) (J 2) (J 1),.Bl (.AN (J 0) 2) (eI 1),.Bl (.AN (J 0) 3) (eI 1),.Bl (.AN (J 0) 4) (eI 0)]]⟩
def aev:Fn:=⟨2,2,#v[.Ay (.CF A1 #v[.AS .lt (J 1) (eI 0),.AS .ge (J 1) (.Aj (.AN (J 0) 0))]) #v[.C0] .AH,.Ag (.AE (.AN (J 0) 0) (J 1))]⟩
def aew:Fn:=⟨2,9,#v[.Ak 2 (.H8 (.AN (J 0) 1) (J 1) (eI (-1))),.Ay (.AS .ge (J 2) (eI 0)) #v[.Ag (J 2)] .AH,.Gj (.Ab 6 #v[J 0,J 1]),.Ak 3 (eI 1),.Ak 4 (eI 1),.Ak 5 (eI 0),.Ay (.CF A1 #v[.AS .eq (.AE (J 1) (eI 0)) (.AW 2 (.B 6)),.AS .eq (.AE (J 1) (eI 0)) (.AW 3 (.B 7))]) #v[.Ak 5 (eI 1)] .AH,.Ak 6 (.Ab 4 #v[.AE (J 1) (eI 0)]),.Cm [7] .Ci (.Ab 3 #v[J 1]) (.AO .AV) #v[.Ay (.AS .gt (.C9 .Cu (.AE (.AN (J 0) 2) (J 7)) (J 6)) (J 3)) #v[.Ak 3 (.C9 .Cu (.AE (.AN (J 0) 2) (J 7)) (J 6))] .AH,.X_ 4 .Cu (.AE (.AN (J 0) 3) (J 7)),.Ay (.AS .eq (.AE (.AN (J 0) 4) (J 7)) (eI 1)) #v[.Ak 5 (eI 1)] .AH],.Ay (.AS .gt (J 3) (.AW 4 (.B 24))) #v[.C0] .AH,.Ay (.AS .gt (J 4) (.AW 5 (.B 4096))) #v[.C0] .AH,.Ak 8 (.Aj (.AN (J 0) 0)),.Bl (.AN (J 0) 0) (J 1),.Cv (.AN (J 0) 1) (J 1) (J 8),.Bl (.AN (J 0) 2) (J 3),.Bl (.AN (J 0) 3) (J 4),.Bl (.AN (J 0) 4) (J 5),.Ag (J 8)]⟩
def aex:Fn:=⟨1,2,#v[.Ak 1 (.AE (J 0) (eI 0)),.Ay (.CF A1 #v[.AS .eq (J 1) (.AW 6 (.B 2)),.AS .eq (J 1) (.AW 7 (.B 3))]) #v[.Ag (.AE (J 0) (eI 2))] .AH,.Ay (.CF A1 #v[.AS .eq (J 1) (.AW 8 (.B 4)),.AS .eq (J 1) (.AW 9 (.B 5)),.AS .eq (J 1) (.AW 10 (.B 8)),.AS .eq (J 1) (.AW 11 (.B 9)),.AS .eq (J 1) (.AW 12 (.B 11))]) #v[.C0] .AH,.Ay (.AS .eq (J 1) (.AW 13 (.B 10))) #v[.C0] .AH,.Ag (.A3 .AH)]⟩
def aey:Fn:=⟨1,1,#v[.Ay (.CF A1 #v[.AS .eq (J 0) (.AW 6 (.B 2)),.AS .eq (J 0) (.AW 7 (.B 3)),.AS .eq (J 0) (.AW 8 (.B 4))]) #v[.Ag (eI 1)] .AH,.Ag (eI 0)]⟩
def aez:Fn:=⟨1,1,#v[.Ay (.CF A1 #v[.AS .eq (J 0) (.AW 6 (.B 2)),.AS .eq (J 0) (.AW 7 (.B 3))]) #v[.Ag (eI 3)] .AH,.Ay (.AS .eq (J 0) (.AW 13 (.B 10))) #v[.C0] .AH,.Ag (eI 2)]⟩
def aeA:Fn:=⟨2,4,#v[.Ay (.CF A1 #v[.AS .eq (.Aj (J 1)) (eI 0),.AS .le (.AE (J 1) (eI 0)) (.AW 1 (.B 1)),.AS .gt (.AE (J 1) (eI 0)) (.AW 12 (.B 11))]) #v[.C0] .AH,.Ak 2 (.AE (J 1) (eI 0)),.Ay (.AS .ne (.Aj (J 1)) (.Ab 5 #v[J 2])) #v[.C0] .AH,.Cm [3] .Ci (.Ab 3 #v[J 1]) (.AO .AV) #v[.Gj (.EB (J 0) 5 #v[J 3])],.Ay (.CF A1 #v[.AS .eq (J 2) (.AW 6 (.B 2)),.AS .eq (J 2) (.AW 7 (.B 3))]) #v[.Gj (.Ab 7 #v[J 0,J 1])] #v[.Ay (.CF A1 #v[.AS .eq (J 2) (.AW 2 (.B 6)),.AS .eq (J 2) (.AW 3 (.B 7))]) #v[.Ay (.AS .lt (.AE (J 1) (eI 1)) (eI 0)) #v[.C0] .AH] #v[.C0]]]⟩
def aeB:Fn:=⟨2,2,#v[.Ay (.CF A1 #v[.AS .le (.AE (J 1) (eI 1)) (eI 0),.Q6 (.AE (J 1) (eI 1))]) #v[.C0] .AH,.Gj (.Ab 8 #v[J 0,.AE (J 1) (eI 2)])]⟩
def aeC:Fn:=⟨2,3,#v[.Cm [2] .Ci (J 1) (.AO .AV) #v[.Ay (.NH (.Ab 9 #v[J 0,J 2])) #v[.C0] .AH]]⟩
def aeD:Fn:=⟨2,3,#v[.Ay (.CF A1 #v[.AS .eq (J 1) (.AW 14 (.B 0)),.AS .eq (J 1) (.AW 15 (.B 14))]) #v[.C0] .AH,.Ak 2 (.AE (.EB (J 0) 5 #v[J 1]) (eI 0)),.Ag (.CF A1 #v[.AS .le (J 2) (.AW 8 (.B 4)),.AS .eq (J 2) (.AW 2 (.B 6)),.AS .eq (J 2) (.AW 3 (.B 7))])]⟩
def aeE:Fn:=⟨3,3,#v[.Ay (.Q6 (J 1)) #v[.C0] .AH,.Ag (.EB (J 0) 6 #v[.A3 #v[.AW 6 (.B 2),J 1,J 2]])]⟩
def aeF:Fn:=⟨2,2,#v[.Ag (.EB (J 0) 6 #v[.A3 #v[.AW 2 (.B 6),J 1]])]⟩
def aeG:Fn:=⟨2,2,#v[.Ag (.EB (J 0) 6 #v[.A3 #v[.AW 3 (.B 7),J 1]])]⟩
def aeH:Fn:=⟨2,2,#v[.Ay (.CF U #v[.AS .le (.AW 16 (.B 1)) (J 1),.AS .le (J 1) (.AW 17 (.B 11))]) #v[.C0] .AH,.Ag (.AS .eq (.AE (.EB (J 0) 5 #v[J 1]) (eI 0)) (.AW 7 (.B 3)))]⟩
def u8:Fn:=⟨4,4,#v[.Gj (.EB (J 0) 5 #v[J 1]),.Ay (.AS .eq (.AE (.AN (J 0) 4) (J 1)) (eI 0)) #v[.Ag (J 1)] .AH,.Ag (.Ab 15 #v[J 0,J 1,J 2,J 3,.Dm .id 6 .AH])]⟩
def u9:Fn:=⟨5,8,#v[.Ay (.AS .eq (.AE (.AN (J 0) 4) (J 1)) (eI 0)) #v[.C0] .AH,.Ay (.A8 (J 1) (J 4)) #v[.C0] .AH,.Ak 5 (.AE (.AN (J 0) 0) (J 1)),.Ay (.AS .eq (.AE (J 5) (eI 0)) (.AW 2 (.B 6))) #v[.Ag (.Ab 17 #v[J 2,.AE (J 5) (eI 1),J 1])] .AH,.Ay (.AS .eq (.AE (J 5) (eI 0)) (.AW 3 (.B 7))) #v[.Ag (.Ab 17 #v[J 3,.AE (J 5) (eI 1),J 1])] .AH,.Ak 6 (.A6 .AH),.Cm [7] .Ci (.Ab 3 #v[J 5]) (.AO .AV) #v[.Bl (J 6) (.Ab 15 #v[J 0,J 7,J 2,J 3,J 4])],.Cv (J 4) (J 1) (.Ab 16 #v[J 0,J 5,.FH (J 6)]),.Ag (.AE (J 4) (J 1))]⟩
def aeI:Fn:=⟨3,4,#v[.Ak 3 (.AE (J 1) (eI 0)),.Ay (.CF A1 #v[.AS .eq (J 3) (.AW 6 (.B 2)),.AS .eq (J 3) (.AW 7 (.B 3))]) #v[.Ag (.EB (J 0) 6 #v[.A3 #v[J 3,.AE (J 1) (eI 1),J 2]])] .AH,.C0,.C0,.C0]⟩
def aeJ:Fn:=⟨3,3,#v[.Ay (.AS .lt (J 1) (.Aj (J 0))) #v[.Ag (.AE (J 0) (J 1))] .AH,.Ag (J 2)]⟩
def aeK:Fn:=⟨4,6,#v[.Ak 4 (.A6 .AH),.Cm [5] .Ci (J 1) (.AO .AV) #v[.C0],.Ag (.FH (J 4))]⟩
def aeL:Fn:=⟨1,1,#v[.B3 (J 0) 0 (.CH 7 (.A6 .AH))]⟩
def aeM:Fn:=⟨6,6,#v[.B3 (J 0) 7 (J 1),.B3 (J 0) 8 (J 2),.B3 (J 0) 9 (J 3),.B3 (J 0) 10 (J 4),.B3 (J 0) 11 (J 5),.B3 (J 0) 12 (eI (-1)),.B3 (J 0) 13 (eI 0)]⟩
def aeN:Fn:=⟨5,5,#v[.B3 (J 0) 14 (J 1),.B3 (J 0) 15 (J 2),.B3 (J 0) 16 (.CH 8 (.A6 .AH)),.B3 (J 0) 17 (.CH 9 (.A6 .AH)),.B3 (J 0) 18 (eI (-1)),.B3 (J 0) 19 (eI 0),.B3 (J 0) 20 (.AO .AV),.B3 (J 0) 21 (J 3),.B3 (J 0) 22 (.AW 18 (.B 0)),.B3 (J 0) 23 (eI (-1)),.B3 (J 0) 24 (J 4)]⟩
def aeO:Fn:=⟨3,3,#v[.B3 (J 0) 25 (J 1),.B3 (J 0) 26 (J 2),.B3 (J 0) 27 (.CH 10 (.A6 #v[.AO .AV])),.B3 (J 0) 28 (.CH 11 (.A6 #v[.AO .AV])),.B3 (J 0) 29 (.Dm .id 12 .AH),.B3 (J 0) 30 (.FS 1 13 .AH),.B3 (J 0) 31 (.Dm .id 14 .AH),.B3 (J 0) 32 (.Dm .id 15 .AH),.B3 (J 0) 33 (.Dm .id 16 .AH)]⟩
def aeP:Fn:=⟨4,5,#v[.Ak 4 (.Aj (.AN (J 0) 27)),.Bl (.AN (J 0) 27) (.FS 3 17 #v[J 4,J 1,J 2,J 3]),.Ay (J 1) #v[.Cv (.AN (J 0) 29) (J 1) (J 4)] .AH,.Ag (J 4)]⟩
def aeQ:Fn:=⟨5,6,#v[.Ak 5 (.Aj (.AN (J 0) 28)),.Bl (.AN (J 0) 28) (.FS 2 18 #v[J 5,J 2,J 3,J 4,J 1]),.Ay (J 1) #v[.Bl (.AN (.AE (.AN (J 0) 27) (J 1)) 16) (J 5)] .AH,.Ag (J 5)]⟩
def aeR:Fn:=⟨8,9,#v[.B3 (J 0) 34 (J 1),.B3 (J 0) 8 (J 2),.B3 (J 0) 22 (J 3),.B3 (J 0) 10 (J 4),.B3 (J 0) 35 (J 5),.B3 (J 0) 36 (.CH 19 (.A6 .AH)),.B3 (J 0) 17 (.CH 20 (.A6 .AH)),.B3 (J 0) 37 (.CH 21 (.A6 .AH)),.B3 (J 0) 38 (.CH 22 (.A6 .AH)),.Cm [8] .Ci (J 6) (.AO .AV) #v[.Bl (.AN (J 0) 17) (J 8),.Bl (.AN (J 0) 37) (.AW 19 (.B 0)),.Bl (.AN (J 0) 38) (.A3 #v[eI 0,.A3 .AH])],.B3 (J 0) 39 (.CH 23 (.A6 .AH)),.B3 (J 0) 40 (.CH 24 (.A6 .AH)),.B3 (J 0) 26 (J 7),.B3 (J 0) 41 (eI 0),.B3 (J 0) 42 (eI (-1)),.B3 (J 0) 43 (.CH 25 (.A6 .AH)),.B3 (J 0) 44 (.CH 26 (.A6 .AH)),.B3 (J 0) 45 (.CH 27 (.A6 .AH)),.B3 (J 0) 46 (eI 0),.B3 (J 0) 47 (eI 0)]⟩
def aeS:Fn:=⟨7,7,#v[.B3 (J 0) 48 (J 1),.B3 (J 0) 11 (J 2),.B3 (J 0) 8 (J 3),.B3 (J 0) 9 (J 4),.B3 (J 0) 49 (J 5),.B3 (J 0) 10 (J 6),.B3 (J 0) 50 (.AO .AV)]⟩
def aeT:Fn:=⟨8,8,#v[.B3 (J 0) 15 (J 1),.B3 (J 0) 11 (J 2),.B3 (J 0) 8 (J 3),.B3 (J 0) 49 (J 4),.B3 (J 0) 10 (J 5),.B3 (J 0) 51 (eI 0),.B3 (J 0) 52 (.CH 28 (.A6 .AH)),.B3 (J 0) 53 (.CH 29 (.A6 .AH)),.B3 (J 0) 19 (J 6),.B3 (J 0) 17 (.FH (J 7)),.B3 (J 0) 54 (.Ab 30 #v[.Aj (J 7)]),.B3 (J 0) 55 (.C9 .UJ (.A3 #v[eI 0]) (.Aj (J 7))),.B3 (J 0) 20 (.AO .AV),.B3 (J 0) 56 (eI 0)]⟩
def aeU:Fn:=⟨5,5,#v[.B3 (J 0) 57 (J 1),.B3 (J 0) 58 (J 2),.B3 (J 0) 59 (J 3),.B3 (J 0) 60 (J 4)]⟩
def aeV:Fn:=⟨1,1,#v[.B3 (J 0) 61 (.FS 0 30 .AH),.B3 (J 0) 62 (.CH 31 (.A6 #v[.AO .AV])),.B3 (J 0) 63 (.CH 32 (.A6 #v[.AO .AV])),.B3 (J 0) 40 (.CH 33 (.A6 #v[.AO .AV])),.B3 (J 0) 64 (.Dm .td 34 .AH),.B3 (J 0) 65 (.CH 35 (.A6 .AH)),.B3 (J 0) 66 (eI 0)]⟩
def aeW:Fn:=⟨1,3,#v[.Ak 1 (.A6 .AH),.Cm [2] .DU (J 0) (.AO .AV) #v[.C0],.Ag (.FH (J 1))]⟩
def aeX:Fn:=⟨2,2,#v[.Ay (.AS .eq (J 0) (.AW 20 (.B 3))) #v[.C0] .AH,.Ay (.AS .eq (J 0) (.AW 21 (.B 1))) #v[.Ag (J 1)] .AH,.C0]⟩
def aeY:Fn:=⟨7,9,#v[.Ay (.AS .lt (J 5) (eI 0)) #v[.C0] .AH,.Ak 7 (.Aj (.AN (J 0) 62)),.Bl (.AN (J 0) 62) (.FS 5 36 #v[J 7,J 2,J 3,.Ab 31 #v[J 3,J 4],J 5,J 6,J 1]),.Ak 8 (.A3 #v[J 1,J 2,.Aj (J 6)]),.Ay (.LK (J 8) (.AN (J 0) 64)) #v[.Cv (.AN (J 0) 64) (J 8) (J 7)] .AH,.Ag (J 7)]⟩
def ae0:Fn:=⟨3,3,#v[.B3 (.AE (.AN (J 0) 62) (J 1)) 47 (J 2)]⟩
def ae1:Fn:=⟨5,5,#v[.Cv (.AN (.AE (.AN (J 0) 62) (J 1)) 38) (J 2) (.A3 #v[J 3,J 4])]⟩
def ae2:Fn:=⟨6,8,#v[.Ak 6 (.AE (.AN (J 0) 62) (J 1)),.Ak 7 (.Aj (.AN (J 0) 63)),.Bl (.AN (J 0) 63) (.FS 6 37 #v[J 7,J 1,J 2,J 3,J 4,J 5]),.Bl (.AN (J 6) 39) (J 7),.Ag (J 7)]⟩
def ae3:Fn:=⟨1,1,#v[.Ay (.CF U #v[.AS .ne (.C9 .UK (J 0) (.C9 .Cu (.AW 22 (.B 32)) (.AW 23 (.B 64)))) (eI 0),.AS .ne (.C9 .UK (J 0) (.AW 24 (.B 128))) (eI 0)]) #v[.C0] .AH,.Ag (J 0)]⟩
def ae4:Fn:=⟨7,9,#v[.Ak 7 (.AE (.AN (J 0) 62) (J 1)),.Ak 8 (.Aj (.AN (J 0) 40)),.Bl (.AN (J 0) 40) (.FS 7 38 #v[J 8,J 1,J 2,J 3,.Ab 36 #v[J 4],J 5,J 6]),.Bl (.AN (J 7) 40) (J 8),.Gj (.Ab 38 #v[J 0,J 8]),.Ag (J 8)]⟩
def ae5:Fn:=⟨2,4,#v[.Ak 2 (.AE (.AN (J 0) 40) (J 1)),.Ak 3 (.AE (.AN (J 0) 62) (.AN (J 2) 11)),.Ay (.AS .ne (.C9 .UK (.AN (J 2) 10) (.AW 23 (.B 64))) (eI 0)) #v[.C0] .AH,.Ay (.CF U #v[.AS .eq (.AN (J 2) 8) (Bq 67),.Ab 40 #v[J 2],.AS .eq (.Aj (.AN (J 2) 17)) (eI 0),.AS .eq (.AN (J 2) 19) (.AW 14 (.B 0))]) #v[.C0] .AH]⟩
def ae6:Fn:=⟨6,10,#v[.Ak 6 (.CH 39 (.A6 .AH)),.Cm [7] .Ci (J 4) (.AO .AV) #v[.Bl (J 6) (J 7)],.Ak 8 (.CH 40 (.A6 .AH)),.Cm [9] .Ci (J 5) (.AO .AV) #v[.C0],.B3 (.AE (.AN (J 0) 40) (J 1)) 20 (.FS 8 41 #v[.FH (J 2),J 3,J 6,J 8])]⟩
def ae7:Fn:=⟨1,1,#v[.C0]⟩
def ae8:Fn:=⟨5,5,#v[.B3 (J 0) 34 (J 1),.B3 (J 0) 9 (J 2),.B3 (J 0) 68 (J 3),.B3 (J 0) 69 (J 4),.B3 (J 0) 70 (eI 0)]⟩
def ae9:Fn:=⟨4,18,#v[.Ak 4 (.AN (J 0) 25),.OS 5 (.AN (J 4) 61),.Ak 6 (.AE (.AN (J 4) 62) (J 1)),.Ak 7 (.CH 42 (.UN (.AN (J 6) 17))),.Ak 8 (.UN (.AN (J 6) 38)),.Ak 10 (.Ez (.Ab 11 #v[J 5,J 9]) [9] .DU (.Aj (J 7)) (.AO .AV) (.AO (.Au U))),.Ak 11 (.CH 43 (.A6 .AH)),.Ay (J 2) #v[.Ak 12 (.AE (.AN (J 4) 40) (J 2)),.Cm [13] .DU (.AN (J 12) 51) (.AO .AV) #v[.Bl (J 11) (.Ab 11 #v[J 5,.Aj (J 7)]),.Bl (J 7) (.C9 .Cu (Bq 71) (.AE (.AN (J 12) 52) (J 13))),.Bl (J 8) (.AE (.AN (J 12) 53) (J 13)),.Bl (J 10) (.Ab 12 #v[J 5,J 13])]] .AH,.Ak 11 (.FH (J 11)),.Ak 14 (.C9 .Ru (.C9 .Ru (.AW 25 (.B 8)) (.AW 26 (.B 2))) (.AW 27 (.B 16))),.Ak 15 (.Ab 32 #v[J 4,.AN (J 0) 26,.C9 .Cu (J 3) (.An (.Aj (.AN (J 4) 62))),.AW 21 (.B 1),J 14,.AW 28 (.B 12),J 7]),.Cm [13] .DU (.Aj (J 8)) (.AO .AV) #v[.Gj (.Ab 34 #v[J 4,J 15,J 13,.AE (.AE (J 8) (J 13)) (eI 0),.Ab 18 #v[J 5,.AE (.AE (J 8) (J 13)) (eI 1),.A3 .AH,J 11]])],.Gj (.Ab 33 #v[J 4,J 15,.CF A1 #v[.AN (J 6) 47,J 1]]),.Ak 16 (.Ab 10 #v[J 5,J 15,.FH (J 10)]),.Ak 17 (.FS 10 44 #v[J 15,J 16,.Ab 14 #v[J 5,J 16,.A3 .AH,J 11],J 11]),.B3 (J 17) 70 (.Ab 43 #v[J 4,J 15]),.Ag (J 17)]⟩
def afa:Fn:=⟨2,4,#v[.Ak 2 (.Ab 37 #v[J 0,J 1,Bq 72,.AW 29 (.B 6),.AW 22 (.B 32),.AW 14 (.B 0),.A3 .AH]),.Ak 3 (.CH 45 (.A6 #v[.A3 #v[.AW 30 (.B 42),eI 0]])),.Ay (.MG (.AE (.AN (J 0) 40) (.AW 31 (.B 1)))) #v[.C0] .AH,.Gj (.Ab 39 #v[J 0,J 2,.A3 .AH,eI 1,J 3,.A3 .AH]),.Ag (J 2)]⟩
def afb:Fn:=⟨4,4,#v[.Ag (.Ab 35 #v[.AN (J 0) 25,.AN (J 1) 34,J 2,.Ab 14 #v[.AN (.AN (J 0) 25) 61,J 3,.A3 .AH,.AN (J 1) 69],.AW 29 (.B 6),eI 0])]⟩
def afc:Fn:=⟨2,2,#v[.Ag (.A3 #v[.AW 32 (.B 1),.A3 #v[.AW 33 (.B 22),.AE (J 0) (eI 1),J 0,J 1]])]⟩
def afd:Fn:=⟨5,5,#v[.B3 (J 0) 73 (J 1),.B3 (J 0) 25 (.AN (J 1) 25),.B3 (J 0) 61 (.AN (.AN (J 1) 25) 61),.B3 (J 0) 74 (J 2),.B3 (J 0) 75 (J 3),.B3 (J 0) 76 (J 4),.B3 (J 0) 77 (.AO .AV),.B3 (J 0) 78 (.CH 46 (.A6 .AH)),.B3 (J 0) 79 (.CH 47 (.A6 .AH)),.B3 (J 0) 80 (eI 0),.B3 (J 0) 81 (.Dm .id 48 .AH),.B3 (J 0) 82 (.Dm .id 49 .AH),.B3 (J 0) 83 (.Dm .id 50 .AH),.B3 (J 0) 84 (.FS 13 51 .AH),.B3 (J 0) 85 (eI 0),.B3 (J 0) 86 (eI 0),.B3 (J 0) 87 (eI 0)]⟩
def afe:Fn:=⟨1,1,#v[.B3 (J 0) 76 (.C9 .Cu (.AN (J 0) 76) (eI 1)),.Ag (.AN (J 0) 76)]⟩
def afg:Fn:=⟨1,1,#v[.Ag (.A3 #v[.AW 34 (.B 3),.AN (.AN (J 0) 75) 68])]⟩
def afh:Fn:=⟨2,2,#v[.Ag (.A3 #v[.AW 35 (.B 4),.AN (.AE (.AN (.AN (J 0) 25) 63) (J 1)) 9,.Ab 48 #v[J 0],.A3 #v[.AN (.AN (J 0) 75) 68,J 1]])]⟩
def afi:Fn:=⟨4,4,#v[.Ag (.A3 #v[.AW 35 (.B 4),J 3,J 1,.A3 #v[.AN (.AN (J 0) 75) 9,J 2]])]⟩
def afj:Fn:=⟨2,2,#v[.Ag (.Ab 45 #v[.Ab 49 #v[J 0,.AN (J 0) 85],.A3 #v[.AW 36 (.B 1),.AW 37 (.B 7),J 1]])]⟩
def afk:Fn:=⟨2,2,#v[.Ag (.A3 #v[.AW 38 (.B 14),.AW 16 (.B 1),Bq 88,.Ab 49 #v[J 0,.AN (J 0) 85],.A3 #v[.AW 36 (.B 1),.AW 37 (.B 7),J 1],eI 0])]⟩
def afl:Fn:=⟨2,4,#v[.Ak 2 (.Rv (.AN (J 0) 81) (J 1)),.Ay (.LJ (J 2)) #v[.Ak 3 (.AE (.AN (.AN (J 0) 73) 28) (J 1)),.Ak 2 (.Ab 44 #v[.AN (J 0) 73,.AN (J 0) 75,.Q4 (.AN (J 3) 8) 89 (J 1) 90,.AN (J 3) 9]),.Cv (.AN (J 0) 81) (J 1) (J 2)] .AH,.Ag (J 2)]⟩
def afm:Fn:=⟨1,1,#v[.Ag (.A3 #v[.AW 39 (.B 9),.AN (.AN (J 0) 75) 68,.A3 #v[.AN (.AN (J 0) 75) 68,.AN (.AN (J 0) 75) 70,.A3 .AH],.A3 .AH])]⟩
def afn:Fn:=⟨4,6,#v[.Ak 4 (.Ab 37 #v[.AN (J 0) 25,.AN (.AN (J 0) 75) 34,J 1,.AW 29 (.B 6),J 2,J 3,.A3 .AH]),.Ak 5 (.AE (.AN (.AN (J 0) 73) 27) (.Ab 23 #v[.AN (J 0) 73,J 4,eI 0,.AN (.AN (J 0) 74) 24])),.B3 (J 5) 18 (.AN (.AN (J 0) 75) 68),.B3 (J 5) 19 (J 3),.Ag (J 5)]⟩
def afo:Fn:=⟨3,3,#v[.Ag (.Ab 55 #v[J 0,J 1,.C9 .Ru (.C9 .Ru (.AW 40 (.B 2)) (.AW 41 (.B 16))) (.AW 42 (.B 4)),J 2])]⟩
def afp:Fn:=⟨3,3,#v[.Ag (.A3 #v[.AW 43 (.B 2),J 2,.Ab 24 #v[.AN (J 0) 73,.AN (J 1) 14,Bq 91,J 2,.AW 44 (.B 32)]])]⟩
def afq:Fn:=⟨1,1,#v[.Ag (.A3 #v[.AW 45 (.B 20),J 0])]⟩
def afr:Fn:=⟨3,8,#v[.Ak 3 (.CH 52 (.A6 #v[.Ab 45 #v[J 1,.A3 #v[.AW 39 (.B 9),.AN (.AN (J 0) 75) 9,.A3 #v[.AN (.AN (J 0) 75) 9,.AN (.AN (J 0) 75) 70,.A3 .AH],.A3 .AH]]])),.Ak 4 (.AN (J 0) 74),.Ay (.AS .ge (.AN (J 4) 18) (eI 0)) #v[.Bl (J 3) (.Ab 45 #v[.Ab 50 #v[J 0,J 1,.AN (J 0) 86,.AN (J 4) 18],.A3 #v[.AW 34 (.B 3),.AN (J 4) 18]])] .AH,.Cm [5] .DU (.Aj (.AN (J 4) 17)) (.AO .AV) #v[.Ak 6 (.AE (.AN (J 4) 17) (J 5)),.Ak 7 (.AN (.AE (.AN (.AN (J 0) 73) 28) (J 6)) 9),.Bl (J 3) (.Ab 45 #v[.Ab 50 #v[J 0,J 1,.AE (J 2) (J 5),J 7],.A3 #v[.AW 43 (.B 2),J 7,J 6]])],.Ag (J 3)]⟩
def afs:Fn:=⟨2,2,#v[.B3 (J 0) 92 (J 1),.B3 (J 0) 93 (eI (-1)),.B3 (J 0) 94 (.CH 53 (.A6 .AH)),.B3 (J 0) 95 (.CH 54 (.A6 .AH)),.B3 (J 0) 96 (.CH 55 (.A6 .AH))]⟩
def aft:Fn:=⟨2,2,#v[.Ag (.A3 #v[.AW 32 (.B 1),.A3 #v[.AW 46 (.B 8),.AN (J 1) 19,.Ab 48 #v[J 0],.A3 #v[.AN (.AN (J 0) 75) 68,.AN (J 1) 15,.A3 .AH],.A3 .AH,eI 0]])]⟩
def afu:Fn:=⟨3,5,#v[.Ak 3 (.A3 #v[.AW 47 (.B 3),.A3 #v[.Ab 61 #v[J 0,.AE (.AN (J 1) 95) (J 2)]],eI 0]),.Ay (.AS .lt (.AE (.AN (J 1) 94) (J 2)) (eI 0)) #v[.Ag (J 3)] .AH,.Ak 4 (.A3 #v[.AW 47 (.B 3),.A3 #v[.Ab 62 #v[J 0,J 1,.AE (.AN (J 1) 94) (J 2)]],eI 0]),.Ag (.A3 #v[.AW 48 (.B 14),J 3,.A3 .AH,J 4])]⟩
def uA:Fn:=⟨3,15,#v[.Ak 3 (.A6 .AH),.Ak 4 (.EB (J 0) 97 .AH),.OS 6 (.CH 56 (.Ez (.EB (J 0) 97 .AH) [5] .Ci (.AN (J 1) 94) (.AO .AV) (.AO (.Au U)))),.Ay (J 6) #v[.Ak 7 (.Ab 49 #v[J 0,.AN (J 0) 85]),.OS 8 (.Aj (J 6)),.Ak 9 (.A3 #v[.AW 38 (.B 14),.AW 37 (.B 7),Bq 98,J 7,.A3 #v[.AW 36 (.B 1),.AW 37 (.B 7),.C9 .AE (.C9 .AE (J 8) (eI 1)) (.AW 49 (.B (-3)))],eI 0]),.Bl (J 3) (.A3 #v[.AW 50 (.B 23),J 9,.FH (.Ez (.AE (J 6) (.C9 .AE (.C9 .AE (J 8) (eI 1)) (J 10))) [10] .DU (J 8) (.AO .AV) (.AO (.Au U)))]),.Ak 11 (.A6 #v[J 4]),.Cm [12,13] .Ci (.AN (J 1) 96) (.AO .AV) #v[.Ay (.AS .lt (J 13) (eI 0)) #v[.Bl (J 11) (J 4)] #v[.Bl (J 11) (.AE (J 6) (J 13))]],.Bl (J 3) (.A3 #v[.AW 50 (.B 23),J 7,.FH (J 11)]),.Bl (J 3) (.A3 #v[.AW 51 (.B 21),J 4])] .AH,.Cm [14] .DU (.Aj (J 6)) (.AO .AV) #v[.Bl (J 3) (.Ab 58 #v[.AE (J 6) (J 14)]),.Bl (J 3) (.Ab 62 #v[J 0,J 1,J 14]),.Bl (J 3) (.A3 #v[.AW 51 (.B 21),J 4])],.Bl (J 3) (.Ab 58 #v[J 4]),.Bl (J 3) (.Ab 51 #v[J 0,.AW 52 (.B (-1))]),.Bl (J 3) (.A3 #v[.AW 53 (.B 12),.AO .AV]),.B3 (J 2) 20 (.A3 #v[.AW 47 (.B 3),.FH (J 3),eI 0])]⟩
def afv:Fn:=⟨3,5,#v[.Ak 3 (.EB (J 0) 97 .AH),.Ak 4 (.A3 #v[.AW 38 (.B 14),.AW 16 (.B 1),Bq 89,.Ab 49 #v[J 0,.AN (J 0) 85],.A3 #v[.AW 36 (.B 1),.AW 37 (.B 7),.AW 54 (.B (-2))],eI 0]),.B3 (J 1) 20 (.A3 #v[.AW 47 (.B 3),.A3 #v[.A3 #v[.AW 55 (.B 22),J 4,eI 1,J 3],.A3 #v[.AW 55 (.B 22),.Ab 52 #v[J 0,.AW 52 (.B (-1))],eI 1,J 3],.Ab 61 #v[J 0,J 2],.Ab 58 #v[J 3],.A3 #v[.AW 53 (.B 12),.AO .AV]],eI 0])]⟩
def afw:Fn:=⟨3,4,#v[.Ak 3 (.Ab 56 #v[J 0,Bq 99,J 2]),.B3 (J 3) 20 (.A3 #v[.AW 47 (.B 3),.A3 #v[.A3 #v[.AW 53 (.B 12),.Ab 49 #v[J 0,J 1]]],eI 0])]⟩
def afx:Fn:=⟨3,10,#v[.Ak 3 (.Ab 56 #v[J 0,Bq 100,J 2]),.Ak 4 (.Ab 57 #v[J 0,J 3,.AN (.AN (J 0) 75) 68]),.Ak 5 (.EB (J 0) 97 .AH),.Ak 6 (.EB (J 0) 97 .AH),.Ak 7 (.A6 #v[.A3 #v[.AW 55 (.B 22),.Ab 52 #v[J 0,.AW 54 (.B (-2))],eI 0,J 5],.Ab 51 #v[J 0,eI 0],.Ab 45 #v[J 4,.Ab 48 #v[J 0]],.A3 #v[.AW 51 (.B 21),J 6],.Ab 58 #v[J 5],.Ab 45 #v[J 4,.Ab 54 #v[J 0]]]),.Cm [8] .Ci (J 1) (.AO .AV) #v[.Bl (J 7) (.Ab 45 #v[.Ab 67 #v[J 0,J 4,J 8],.Ab 49 #v[J 0,J 8]])],.Ay (.AN (J 0) 87) #v[.Bl (J 7) (.Ab 45 #v[.Ab 67 #v[J 0,J 4,.AN (J 0) 87],.Ab 49 #v[J 0,.AN (J 0) 87]])] #v[.Ay (.AN (J 0) 86) #v[.Bl (J 7) (.Ab 45 #v[.Ab 67 #v[J 0,J 4,.AN (J 0) 86],.Ab 49 #v[J 0,.AN (J 0) 86]])] .AH],.Bl (J 7) (.Ab 58 #v[J 6]),.Ay (.AN (J 0) 87) #v[.Bl (J 7) (.Ab 45 #v[.Ab 67 #v[J 0,J 4,.AN (J 0) 86],.Ab 49 #v[J 0,.AN (J 0) 87]])] .AH,.Cm [9] .DU (.Aj (J 1)) (.AO .AV) #v[.Ak 8 (.Ab 53 #v[J 0,.AE (.AN (.AN (J 0) 74) 17) (J 9)]),.Bl (J 7) (.Ab 45 #v[.Ab 67 #v[J 0,J 4,J 8],.Ab 49 #v[J 0,.AE (J 1) (J 9)]])],.Bl (J 7) (.A3 #v[.AW 53 (.B 12),.A3 #v[.AW 56 (.B 19),J 2,J 4,.AW 57 (.B 2),eI 0]]),.B3 (J 3) 20 (.A3 #v[.AW 47 (.B 3),.FH (J 7),eI 0])]⟩
def afy:Fn:=⟨3,3,#v[.Ag (.A3 #v[.AW 35 (.B 4),.AN (.AE (.AN (.AN (J 0) 25) 63) (J 2)) 9,J 1,.A3 #v[.AN (.AN (J 0) 75) 68,J 2]])]⟩
def afz:Fn:=⟨2,4,#v[.Ak 2 (.CH 57 (.A6 .AH)),.Cm [3] .Ci (.AN (.AN (J 0) 74) 17) (.AO .AV) #v[.Ay (J 1) #v[.Bl (J 2) (.Ab 44 #v[.AN (J 0) 73,.AN (J 0) 75,.C9 .Cu (Bq 101) (.An (.Aj (J 2))),.AN (.AE (.AN (.AN (J 0) 73) 28) (J 3)) 9])] #v[.C0]],.Ag (J 2)]⟩
def afA:Fn:=⟨2,2,#v[.Ay (.CF U #v[J 1,.AN (J 0) 86,.Ab 13 #v[.AN (J 0) 61,.AN (.AN (J 0) 74) 18]]) #v[.Ag (.Ab 44 #v[.AN (J 0) 73,.AN (J 0) 75,Bq 102,.AN (.AN (J 0) 74) 18])] .AH,.Ag (eI 0)]⟩
def afB:Fn:=⟨3,6,#v[.Ak 3 (.AN (J 0) 74),.Ak 4 (.Ab 57 #v[J 0,J 3,.AN (.AN (J 0) 75) 9]),.Ak 5 (.Ab 59 #v[J 0,J 4,J 1]),.Ay (.AN (J 0) 87) #v[.Bl (J 5) (.Ab 45 #v[.Ab 50 #v[J 0,J 4,.AN (J 0) 87,.AN (J 3) 18],.A3 #v[.AW 34 (.B 3),.AN (J 3) 18]])] .AH,.Ay (J 2) #v[.Bl (J 5) (.Ab 45 #v[.Ab 50 #v[J 0,J 4,.AN (J 0) 85,.AW 37 (.B 7)],.A3 #v[.AW 36 (.B 1),.AW 37 (.B 7),.AW 54 (.B (-2))]])] .AH,.Bl (J 5) (.A3 #v[.AW 53 (.B 12),.A3 #v[.AW 56 (.B 19),.AN (J 3) 19,J 4,.AW 57 (.B 2),eI 0]]),.B3 (J 3) 20 (.A3 #v[.AW 47 (.B 3),.FH (J 5),eI 0]),.B3 (J 3) 22 (.AW 18 (.B 0))]⟩
def uB:Fn:=⟨2,4,#v[.Ak 2 (Bk 0 24),.Cv (J 0) (Bq 24) (.C9 .Cu (J 2) (eI 1)),.Ak 3 (.C9 .Cu (.C9 .UJ (eI 5) (J 2)) (eI 3)),.Ay (.AS .lt (J 2) (.Aj (Bk 0 103))) #v[.Ak 3 (.AE (Bk 0 103) (J 2))] #v[.Ay (.AS .lt (J 2) (.Aj (.AW 58 (.A3 [.B 1,.B 1,.B 2,.B 2,.B 3,.B 2,.B 3,.B 0,.B 2,.B 1,.B 1,.B 2,.B 0,.B 2,.B 3,.B 0,.B 7,.B 8,.B 9,.B 0,.B 0,.B 0,.B 4,.B 5,.B 11,.B 12,.B 13,.B 14,.B 0,.B 1,.B 0,.B 2,.B 0,.B 2,.B 1,.B 0])))) #v[.Ak 3 (.AE (.AW 58 (.A3 [.B 1,.B 1,.B 2,.B 2,.B 3,.B 2,.B 3,.B 0,.B 2,.B 1,.B 1,.B 2,.B 0,.B 2,.B 3,.B 0,.B 7,.B 8,.B 9,.B 0,.B 0,.B 0,.B 4,.B 5,.B 11,.B 12,.B 13,.B 14,.B 0,.B 1,.B 0,.B 2,.B 0,.B 2,.B 1,.B 0])) (J 2))] .AH],.Ag (.C9 .XX (J 3) (J 1))]⟩
def uC:Fn:=⟨2,3,#v[.Ay (.AS .eq (.AE (J 0) (eI 0)) (.AW 47 (.B 3))) #v[.Cm [2] .Ci (.AE (J 0) (eI 1)) (.AO .AV) #v[.Gj (.Ab 72 #v[J 2,J 1])]] #v[.Ay (.AS .eq (.AE (J 0) (eI 0)) (.AW 48 (.B 14))) #v[.Ay (.CF A1 #v[.AS .ne (.AE (J 0) (eI 2)) (.A3 .AH),.LJ (.AE (J 0) (eI 3))]) #v[.C0] #v[.Bl (J 1) (.A3 #v[.AW 48 (.B 14),.Ab 73 #v[.AE (J 0) (eI 1)],.Ab 73 #v[.AE (J 0) (eI 3)]])]] #v[.Bl (J 1) (J 0)]]]⟩
def uD:Fn:=⟨1,4,#v[.Ak 1 (.CH 58 (.A6 .AH)),.Gj (.Ab 72 #v[J 0,J 1]),.Ak 2 (.Dm .id 59 .AH),.Cm [3] .DU (.Aj (J 1)) (.AO .AV) #v[.Ay (.AS .eq (.AE (.AE (J 1) (J 3)) (eI 0)) (.AW 45 (.B 20))) #v[.Cv (J 2) (.AE (.AE (J 1) (J 3)) (eI 1)) (J 3)] .AH],.Ag (.A3 #v[J 1,J 2])]⟩
def afC:Fn:=⟨4,5,#v[.Ay (.AS .eq (.AE (J 1) (eI 0)) (.AW 43 (.B 2))) #v[.Ag (.A3 #v[J 3,.AE (J 1) (eI 2)])] .AH,.Ak 4 (.AE (.AE (J 1) (eI 3)) (eI 1)),.Ay (.CF A1 #v[.AS .ne (.AE (J 1) (eI 1)) (.H8 (Bk 0 104) (J 4) (eI (-1))),.AS .ne (.AE (.AE (J 1) (eI 3)) (eI 0)) (Bk 0 105),.AS .ne (.AE (.AE (J 1) (eI 2)) (eI 1)) (Bk 0 105)]) #v[.C0] .AH,.Ag (.A3 #v[.AE (Bk 0 106) (.Ab 75 #v[J 0,.AE (J 1) (eI 2),J 2,J 3]),J 4])]⟩
def afD:Fn:=⟨4,8,#v[.Ay (.AS .eq (.AE (J 1) (eI 0)) (.AW 36 (.B 1))) #v[.Ag (.AE (J 1) (eI 2))] .AH,.Ay (.CF A1 #v[.AS .eq (.AE (J 1) (eI 0)) (.AW 35 (.B 4)),.AS .eq (.AE (J 1) (eI 0)) (.AW 43 (.B 2))]) #v[.NI [4,5] (.Ab 74 #v[J 0,J 1,J 2,J 3]),.Ag (.H8 (J 4) (J 5) (eI 0))] .AH,.Ay (.AS .eq (.AE (J 1) (eI 0)) (.AW 34 (.B 3))) #v[.Ay (.AS .ne (.AE (J 1) (eI 1)) (Bk 0 18)) #v[.C0] .AH,.Ag (J 2)] .AH,.Ay (.AS .eq (.AE (J 1) (eI 0)) (.AW 56 (.B 19))) #v[.Ay (.CF A1 #v[.AS .ne (.AE (J 1) (eI 1)) (Bk 0 107),.AS .ne (.AE (J 1) (eI 3)) (.AW 57 (.B 2))]) #v[.C0] .AH,.Ag (.Ab 75 #v[J 0,.AE (J 1) (eI 2),J 2,J 3])] .AH,.Ay (.AS .eq (.AE (J 1) (eI 0)) (.AW 39 (.B 9))) #v[.Ay (.CF A1 #v[.AS .ne (.AE (J 1) (eI 1)) (Bk 0 105),.AS .ne (.AE (J 1) (eI 2)) (.A3 #v[Bk 0 105,Bk 0 70,.A3 .AH]),.AS .ne (.AE (J 1) (eI 3)) (.A3 .AH)]) #v[.C0] .AH,.Bl (Bk 0 106) (.Dm .id 60 .AH),.Ag (.C9 .AE (.Aj (Bk 0 106)) (eI 1))] .AH,.Ak 6 (.Ab 75 #v[J 0,.AE (J 1) (eI 3),J 2,J 3]),.Ak 7 (.Ab 75 #v[J 0,.AE (J 1) (eI 4),J 2,J 3]),.Ay (.AS .eq (.AE (J 1) (eI 2)) (Bq 98)) #v[.Ag (.C9 .Cu (J 6) (J 7))] .AH,.Ay (.AS .eq (.AE (J 1) (eI 2)) (Bq 89)) #v[.Ag (.Ay (.AS .lt (J 6) (J 7)) (eI 1) (eI 0))] .AH,.Ag (.Ay (.AS .eq (J 6) (J 7)) (eI 1) (eI 0))]⟩
def afE:Fn:=⟨4,7,#v[.Ay (.AS .eq (.AE (J 1) (eI 0)) (.AW 33 (.B 22))) #v[.NI [4,5] (.Ab 74 #v[J 0,.AE (J 1) (eI 2),J 2,J 3]),.Cv (J 4) (J 5) (.Ab 75 #v[J 0,.AE (J 1) (eI 3),J 2,J 3])] #v[.Ay (.AS .eq (.AE (.AE (J 1) (eI 3)) (eI 1)) (.AW 59 (.B 1000))) #v[.Bl (Bk 0 108) (.Ab 75 #v[J 0,.AE (.AE (J 1) (eI 4)) (eI 0),J 2,J 3])] #v[.Ak 6 (.Ab 78 #v[J 0,.AE (.AE (J 1) (eI 3)) (eI 1),.Ab 75 #v[J 0,.AE (J 1) (eI 2),J 2,J 3]]),.Ay (.AS .gt (.AE (J 6) (eI 0)) (eI 2)) #v[.Ag (J 6)] .AH]],.Ag (.A3 #v[eI 0,eI 0])]⟩
def aH:Fn:=⟨4,11,#v[.NI [4,5] (J 1),.Ak 6 (eI 0),.while (.AS .lt (J 6) (.Aj (J 4))) #v[.Cv (J 0) (Bq 109) (.C9 .AE (Bk 0 109) (eI 1)),.Ay (.AS .lt (Bk 0 109) (eI 0)) #v[.C0] .AH,.Ak 7 (.AE (J 4) (J 6)),.Ak 6 (.C9 .Cu (J 6) (eI 1)),.Ak 8 (.A3 #v[eI 0,eI 0]),.Ay (.AS .eq (.AE (J 7) (eI 0)) (.AW 32 (.B 1))) #v[.Ak 8 (.Ab 76 #v[J 0,.AE (J 7) (eI 1),J 2,J 3])] #v[.Ay (.AS .eq (.AE (J 7) (eI 0)) (.AW 51 (.B 21))) #v[.Ak 8 (.A3 #v[eI 1,.AE (J 7) (eI 1)])] #v[.Ay (.AS .eq (.AE (J 7) (eI 0)) (.AW 55 (.B 22))) #v[.Ay (.AS .eq (.Ab 75 #v[J 0,.AE (J 7) (eI 1),J 2,J 3]) (.AE (J 7) (eI 2))) #v[.Ak 8 (.A3 #v[eI 1,.AE (J 7) (eI 3)])] .AH] #v[.Ay (.AS .eq (.AE (J 7) (eI 0)) (.AW 50 (.B 23))) #v[.Ak 9 (.Ab 75 #v[J 0,.AE (J 7) (eI 1),J 2,J 3]),.Ay (.CF U #v[.AS .le (eI 0) (J 9),.AS .lt (J 9) (.Aj (.AE (J 7) (eI 2)))]) #v[.Ak 8 (.A3 #v[eI 1,.AE (.AE (J 7) (eI 2)) (J 9)])] .AH] #v[.Ay (.AS .eq (.AE (J 7) (eI 0)) (.AW 53 (.B 12))) #v[.Ak 8 (.A3 #v[eI 2,.Ay (.LJ (.AE (J 7) (eI 1))) (eI 0) (.Ab 75 #v[J 0,.AE (J 7) (eI 1),J 2,J 3])])] #v[.Ay (.AS .eq (.AE (J 7) (eI 0)) (.AW 60 (.B 13))) #v[.Ak 8 (.A3 #v[eI 3,.Ab 75 #v[J 0,.AE (J 7) (eI 1),J 2,J 3]])] #v[.Ay (.CF U #v[.AS .eq (.AE (J 7) (eI 0)) (.AW 48 (.B 14)),.MG (.AE (J 7) (eI 1))]) #v[.Ak 8 (.Ab 77 #v[J 0,.AE (J 7) (eI 1),J 2,J 3]),.Ak 10 (.Ab 77 #v[J 0,.AE (J 7) (eI 2),J 2,J 3]),.Ay (.AE (J 10) (eI 0)) #v[.Ak 8 (J 10)] .AH] #v[.Ay (.AS .ne (.AE (J 7) (eI 0)) (.AW 45 (.B 20))) #v[.C0] .AH]]]]]]],.Ay (.CF U #v[.AS .eq (.AE (J 8) (eI 0)) (eI 1),.A8 (.AE (J 8) (eI 1)) (J 5)]) #v[.Ak 6 (.AE (J 5) (.AE (J 8) (eI 1)))] #v[.Ay (.AE (J 8) (eI 0)) #v[.Ag (J 8)] .AH]],.Ag (.A3 #v[eI 0,eI 0])]⟩
def uE:Fn:=⟨3,3,#v[.Ay (.LK (J 1) (Bk 0 110)) #v[.Cv (Bk 0 110) (J 1) (.Ab 73 #v[.AN (.AE (.AN (Bk 0 73) 27) (.AE (.AN (Bk 0 73) 29) (J 1))) 20])] .AH,.Ag (.Ab 77 #v[J 0,.AE (Bk 0 110) (J 1),J 2,.Dm .id 61 .AH])]⟩
def Sw:Fn:=⟨3,12,#v[.Ak 3 (.AN (J 2) 61),.Ak 4 (.Ab 71 #v[J 0,eI 2]),.Ak 5 (.Ab 71 #v[J 0,eI 2]),.Ak 6 (.Ab 71 #v[J 0,eI 3]),.Ak 7 (.FH (.IA (.A6 #v[.EB (J 3) 6 #v[.A3 #v[.AW 2 (.B 6),eI 0]]]) (J 4))),.B3 (J 2) 62 (.CH 62 (.C9 .Cu (.C9 .UJ (.A6 #v[.AO .AV]) (eI 64)) (.A6 #v[.FS 5 63 #v[eI 64,Bq 111,.Ay (.AS .eq (J 6) (eI 2)) (.AW 61 (.B 2)) (.AW 21 (.B 1)),eI 0,eI (-1),.IA (.A3 #v[Bq 112]) (J 4),eI 0]]))),.Ak 8 (.FS 7 64 #v[eI 2,eI 64,Bq 113,.AW 29 (.B 6),eI 0,.AW 14 (.B 0),.A3 .AH]),.B3 (J 8) 51 (J 5),.B3 (J 8) 52 (.CH 65 (.IA (.A6 #v[Bq 114]) (J 5))),.B3 (J 8) 53 (.CH 66 (.IA (.A6 #v[.A3 #v[eI 0,.A3 .AH]]) (J 5))),.B3 (J 2) 40 (.CH 67 (.A6 #v[.AO .AV,.AO .AV,J 8])),.Bl (.AN (.AE (.AN (J 2) 62) (eI 64)) 40) (eI 2),.Ak 9 (.AE (.AN (J 1) 27) (.Ab 23 #v[J 1,eI 2,eI 0,eI 0])),.Ay (J 6) #v[.B3 (J 9) 18 (.EB (J 3) 6 #v[.A3 #v[.Ay (.AS .eq (J 6) (eI 2)) (.AW 7 (.B 3)) (.AW 6 (.B 2)),eI 64,J 7]])] .AH,.B3 (J 9) 19 (.EB (J 3) 6 #v[.A3 #v[.AW 6 (.B 2),eI 35,.A3 #v[.AW 37 (.B 7)]]]),.Ak 10 (.C9 .Cu (.C9 .Cu (.A6 #v[.AW 37 (.B 7),.AW 62 (.B 13)]) (.IA (.A6 #v[.EB (J 3) 6 #v[.A3 #v[.AW 2 (.B 6),eI 0]]]) (J 4))) (.IA (.A6 #v[.EB (J 3) 6 #v[.A3 #v[.AW 3 (.B 7),eI 0]]]) (J 5))),.Cm [11] .DU (.Ab 71 #v[J 0,eI 4]) (.AO .AV) #v[.Bl (.AN (J 9) 17) (.Ab 24 #v[J 1,eI 1,Bq 101,.AE (J 10) (.C9 .XX (.Ab 71 #v[J 0,eI 4]) (.Aj (J 10))),eI 1])],.Ag (.A3 #v[J 9,J 4,J 5,J 6])]⟩
def uF:Fn:=⟨5,12,#v[.Ak 5 (.CH 68 (.A6 .AH)),.Cm [6] .DU (.Ab 71 #v[J 0,eI 4]) (.AO .AV) #v[.Bl (.AN (J 2) 94) (.C9 .AE (.Ab 71 #v[J 0,.C9 .Cu (J 6) (eI 1)]) (eI 1)),.Ak 7 (.Ab 71 #v[J 0,eI 4]),.Ak 8 (.Ab 55 #v[J 1,Bq 115,eI 0,.AW 14 (.B 0)]),.Ak 9 (.Ay (.AS .lt (.AE (.AN (J 2) 94) (J 6)) (eI 0)) (eI (-1)) (.C9 .AE (eI (-3)) (.AE (.AN (J 2) 94) (J 6)))),.Ak 10 (.A3 #v[.AW 34 (.B 3),Bk 3 68]),.Ak 11 (.A6 #v[.A3 #v[.AW 32 (.B 1),.A3 #v[.AW 33 (.B 22),.AW 37 (.B 7),.A3 #v[.AW 35 (.B 4),.AW 37 (.B 7),J 10,.A3 #v[Bk 3 68,.AN (J 1) 85]],.A3 #v[.AW 36 (.B 1),.AW 37 (.B 7),J 9]]],.A3 #v[.AW 32 (.B 1),.A3 #v[.AW 46 (.B 8),.AW 14 (.B 0),.AO .AV,.A3 #v[.AW 28 (.B 12),.AW 59 (.B 1000),.A3 .AH],.A3 #v[.A3 #v[.AW 36 (.B 1),.AW 37 (.B 7),J 6]],eI 0]]]),.Ay (.AS .eq (J 7) (eI 1)) #v[.Bl (J 11) (.A3 #v[.AW 60 (.B 13),.A3 #v[.AW 36 (.B 1),.AW 37 (.B 7),.C9 .Cu (eI 100) (J 6)]])] .AH,.Ay (.AS .eq (J 7) (eI 2)) #v[.Bl (J 11) (.A3 #v[.AW 32 (.B 1),.A3 #v[.AW 46 (.B 8),.AW 14 (.B 0),J 10,.A3 #v[Bk 3 68,.AN (J 4) 15,.A3 .AH],.A3 .AH,eI 0]])] .AH,.Bl (J 11) (.A3 #v[.AW 53 (.B 12),.AO .AV]),.B3 (J 8) 20 (.A3 #v[.AW 47 (.B 3),.FH (J 11),eI 0]),.Bl (.AN (J 2) 95) (J 8),.Bl (J 5) (J 7)],.Ag (J 5)]⟩
def aI:Fn:=⟨2,5,#v[.Ak 2 (eI (-1)),.Ay (.AS .lt (J 1) (eI (-2))) #v[.Ak 2 (.C9 .AE (eI (-3)) (J 1))] #v[.Ay (.AS .gt (J 1) (eI 0)) #v[.Ak 2 (.AE (Bk 0 116) (.C9 .AE (J 1) (eI 1)))] .AH],.Ak 3 (.CH 69 (.A6 .AH)),.Ak 4 (.A3 #v[eI 2,eI 0]),.while (.AS .ge (J 2) (eI 0)) #v[.Bl (J 3) (J 2),.Ay (.AS .eq (.AE (Bk 0 117) (J 2)) (eI 1)) #v[.Ak 4 (.A3 #v[eI 3,.C9 .Cu (eI 100) (J 2)])] .AH,.Ak 2 (.AE (Bk 0 94) (J 2))],.Ag (.A3 #v[J 3,J 4])]⟩
def uG:Fn:=⟨2,4,#v[.Ak 2 (.Dm .id 70 #v[Bk 0 118,Bk 1 118,Bk 0 92,Bk 1 92]),.Ay (Bk 0 119) #v[.Cv (J 2) (Bk 0 119) (Bk 1 119)] .AH,.Ay (Bk 0 102) #v[.Cv (J 2) (Bk 0 102) (Bk 1 102)] .AH,.Cm [3] .DU (.Aj (Bk 0 120)) (.AO .AV) #v[.Cv (J 2) (.AE (Bk 0 120) (J 3)) (.AE (Bk 1 120) (J 3)),.Cv (J 2) (.AE (Bk 0 121) (J 3)) (.AE (Bk 1 121) (J 3))],.Ag (J 2)]⟩
def uH:Fn:=⟨3,7,#v[.Ay (.CF A1 #v[.AS .ne (.Aj (Bk 1 106)) (.Aj (J 2)),Bk 1 122]) #v[.C0] .AH,.Cm [3] .H7 (eI 1) (.Aj (J 2)) #v[.Ak 4 (.Ab 82 #v[J 0,.AE (J 2) (J 3)]),.Ak 5 (.AE (Bk 1 106) (J 3)),.Cm [6] .Ci (.XY (Bk 1 104)) (.AO .AV) #v[.Ay (.AS .ne (.H8 (J 5) (J 6) (eI 0)) (.H8 (J 4) (J 6) (eI 0))) #v[.C0] .AH],.Ay (.AS .gt (.Q7 5 1 104) (eI 0)) #v[.C0] .AH],.Ag (.AO (.Au U))]⟩
def Lb:Fn:=⟨4,13,#v[.Ak 5 (.CH 71 (.Ez (.Ab 71 #v[J 0,eI 20]) [4] .Ci (Bk 1 16) (.AO .AV) (.AO (.Au U)))),.Ak 6 (.Ay (Bk 1 22) (.Ab 71 #v[J 0,eI 20]) (eI 0)),.Cv (J 2) (Bq 105) (Bk 2 94),.Cv (J 2) (Bq 18) (.AN (Bk 1 74) 18),.Cv (J 2) (Bq 107) (.AN (Bk 1 74) 19),.Ak 7 (Bk 2 104),.Cv (J 2) (Bq 104) (Bk 1 123),.Ak 8 (.Dm .id 72 .AH),.Cm [9] .DU (.Aj (J 5)) (.AO .AV) #v[.Cv (J 8) (.AE (Bk 1 16) (J 9)) (.AE (J 5) (J 9))],.Ak 10 (.Ab 77 #v[J 2,Bk 1 124,J 6,J 8]),.Cv (J 2) (Bq 105) (Bk 2 68),.Cv (J 2) (Bq 18) (Bk 2 68),.Cv (J 2) (Bq 107) (Bk 1 125),.Cv (J 2) (Bq 104) (J 7),.Ak 11 (.Ay (.AS .eq (Bk 1 22) (eI 2)) (J 6) (eI 0)),.Bl (J 3) (.Dm .OR 73 #v[Bq 118,eI (-2),Bq 120,J 5,Bq 121,.CH 74 (.Ez (eI 0) [12] .Ci (J 5) (.AO .AV) (.AO (.Au U))),Bq 119,J 6,Bq 102,J 11,Bq 92,eI 0]),.Ag (.CF U #v[.AS .eq (J 10) (.A3 #v[eI 2,.C9 .AE (.Aj (J 3)) (eI 1)]),.Ab 83 #v[J 1,J 2,J 3]])]⟩
def Lc:Fn:=⟨4,12,#v[.Ak 4 (.C9 .Cu (eI 1) (.Ab 71 #v[J 0,.C9 .AE (.Aj (J 3)) (eI 1)])),.Ak 5 (.AE (J 3) (J 4)),.Ak 6 (.Ab 71 #v[J 0,eI 8]),.Cv (J 2) (Bq 108) (.CH 75 (.A6 .AH)),.Ay (.AS .eq (J 6) (eI 7)) #v[.Ag (.Ab 84 #v[J 0,J 1,J 2,J 3])] .AH,.Ay (.CF A1 #v[.AS .eq (J 6) (eI 4),.AS .eq (J 6) (eI 5)]) #v[.Cv (J 5) (Bq 118) (.AE (Bk 1 126) (.Ab 71 #v[J 0,.Aj (Bk 1 126)])),.Cv (J 5) (Bq 121) (.CH 76 (.Ez (.Ab 71 #v[J 0,eI 20]) [7] .Ci (Bk 5 121) (.AO .AV) (.AO (.Au U)))),.Ay (.AS .eq (Bk 1 22) (eI 2)) #v[.Cv (J 5) (Bq 119) (.Ab 71 #v[J 0,eI 20])] .AH,.Cv (J 5) (Bq 92) (.Ab 71 #v[J 0,eI 20]),.Cm [8,9] .Ci (.Q5 (.Ab 82 #v[J 1,J 5])) (.AO .AV) #v[.Cv (.AE (Bk 2 106) (J 4)) (J 8) (J 9)],.Ag (.AO (.Au U))] .AH,.Ay (.AS .eq (J 6) (eI 6)) #v[.Ag (.CF U #v[.AS .eq (.Ab 78 #v[J 2,.AE (Bk 1 127) (Bq 99),J 4]) (.A3 #v[eI 2,Bk 5 92]),.Ab 83 #v[J 1,J 2,J 3]])] .AH,.Ay (.AS .lt (J 6) (eI 2)) #v[.Ak 10 (J 4),.Ay (.AS .ne (Bk 5 118) (eI (-2))) #v[.Ak 10 (.Aj (J 3)),.Bl (J 3) (.Dm .OR 77 #v[Bq 120,Bk 5 120,Bq 119,Bk 5 119,Bq 102,Bk 5 102,Bq 92,eI 0])] .AH,.Cv (.AE (J 3) (J 10)) (Bq 118) (eI 0),.Cv (.AE (J 3) (J 10)) (Bq 121) (Bk 5 120),.Ay (.AS .eq (Bk 1 22) (eI 2)) #v[.Cv (.AE (J 3) (J 10)) (Bq 119) (Bk 5 102)] .AH,.Ag (.CF U #v[.AS .eq (.Ab 78 #v[J 2,.AE (Bk 1 127) (Bq 100),J 4]) (.A3 #v[eI 2,J 10]),.Ab 83 #v[J 1,J 2,J 3]])] .AH,.Ak 11 (.A3 #v[.CH 78 (.A6 .AH),.A3 #v[eI 2,eI 0]]),.Ay (.CF A1 #v[.AS .eq (J 6) (eI 3),.AS .eq (Bk 5 118) (eI (-2)),.AS .ge (Bk 5 118) (eI 0)]) #v[.Ak 11 (.Ab 81 #v[J 1,Bk 5 118]),.Cv (J 5) (Bq 118) (eI (-1))] .AH,.Ak 10 (.Ab 78 #v[J 2,.AE (Bk 1 127) (.Ay (.AS .eq (J 6) (eI 2)) (Bq 128) (Bq 129)),J 4]),.Ag (.CF U #v[.AS .eq (.A3 #v[Bk 2 108,J 10]) (J 11),.Ab 83 #v[J 1,J 2,J 3]])]⟩
def Di:Fn:=⟨1,40,#v[.Ak 1 (.CH 79 (.IA (J 0) (eI 40))),.Ak 2 (.Dm .OR 80 #v[Bq 103,J 1,Bq 24,eI 0]),.Ak 3 (.FS 9 81 .AH),.OS 4 (.AN (J 3) 61),.Ak 5 (.FS 4 82 #v[J 3,eI 0]),.NI [6,7,8,9] (.Ab 79 #v[J 2,J 5,J 3]),.Ak 11 (.CH 83 (.Ez (J 10) [10] .Ci (.AN (J 6) 17) (.AO .AV) (.AO (.Au U)))),.OS 12 (.FS 11 84 #v[J 5,J 6,.Ab 42 #v[J 5,eI 64,eI 2,Bq 130],eI 0]),.B3 (J 12) 85 (.Ab 44 #v[J 5,.AN (J 12) 75,Bq 118,.AW 37 (.B 7)]),.Ay (J 9) #v[.B3 (J 12) 86 (.Ab 44 #v[J 5,.AN (J 12) 75,Bq 119,.AN (J 6) 18])] .AH,.Ak 13 (.Ab 68 #v[J 12,.AO (.Au U)]),.B3 (J 12) 87 (.Ab 69 #v[J 12,.AO (.Au U)]),.Ak 14 (.Ab 44 #v[J 5,.AN (J 12) 75,Bq 92,.AW 37 (.B 7)]),.Ak 16 (.EB (J 4) 6 #v[.A3 #v[.AW 6 (.B 2),eI 65,.FH (.Ez (.EB (J 4) 6 #v[.A3 #v[.AW 2 (.B 6),J 15]]) [15] .DU (.C9 .Cu (J 7) (J 8)) (.AO .AV) (.AO (.Au U)))]]),.Ak 17 (.EB (J 4) 6 #v[.A3 #v[.AW 6 (.B 2),eI 65,.FH (.C9 .Cu (.IA (.A6 #v[.EB (J 4) 6 #v[.A3 #v[.AW 2 (.B 6),eI 0]]]) (J 7)) (.IA (.A6 #v[.EB (J 4) 6 #v[.A3 #v[.AW 3 (.B 7),eI 0]]]) (J 8)))]]),.Ak 18 (.Dm .OR 85 #v[Bq 73,J 5,Bq 106,.CH 86 (.A6 #v[.Dm .id 87 .AH]),Bq 108,.CH 88 (.A6 .AH),Bq 110,.Dm .id 89 .AH,Bq 109,eI 4000,Bq 122,eI 0,Bq 68,J 16,Bq 94,J 17,Bq 70,.AE (.AN (.AE (.AN (J 3) 62) (eI 65)) 40) (eI 0)]),.Ak 19 (.FS 12 90 #v[J 14]),.Ak 20 (.Ab 56 #v[J 12,Bq 128,.AW 14 (.B 0)]),.Ak 21 (.Ab 55 #v[J 12,Bq 129,eI 0,.AW 14 (.B 0)]),.Ak 22 (.Ab 80 #v[J 2,J 12,J 19,J 18,J 20]),.Cm [23] .H7 (eI 1) (.C9 .Cu (eI 1) (.Ab 71 #v[J 2,eI 4])) #v[.Bl (.AN (J 19) 96) (.A3 #v[J 23,.C9 .AE (.Ab 71 #v[J 2,.C9 .Cu (.Aj (J 22)) (eI 1)]) (eI 1)])],.Gj (.Ab 63 #v[J 12,J 19,J 21]),.Gj (.Ab 64 #v[J 12,J 20,J 21]),.Ak 24 (.EB (J 4) 6 #v[.A3 #v[.AW 6 (.B 2),eI 36,.A3 #v[.AW 37 (.B 7)]]]),.Gj (.Ab 66 #v[J 12,J 13,J 24]),.Gj (.Ab 65 #v[J 12,J 14,.AW 37 (.B 7)]),.Gj (.Ab 70 #v[J 12,J 13,.AO (.Au U)]),.Ay (.CF A1 #v[.AS .ne (.AN (J 6) 22) (.AW 18 (.B 0)),.AS .ne (.Aj (J 13)) (.Aj (J 11)),.AS .ne (.AS .ne (.AN (J 12) 87) (eI 0)) (.AS .eq (J 9) (eI 2))]) #v[.C0] .AH,.Ak 25 (.Dm .OR 91 .AH),.Cm [26] .Ci (.AN (.AE (.AN (J 3) 62) (eI 65)) 40) (.AO .AV) #v[.Cv (J 25) (.AN (.AE (.AN (J 3) 40) (J 26)) 8) (J 26)],.Ak 33 (.Dm .OR 92 #v[Bq 74,J 6,Bq 22,J 9,Bq 16,J 11,Bq 120,J 13,Bq 121,.CH 93 (.Ez (.H8 (.AN (J 12) 81) (J 27) (eI 0)) [27] .Ci (J 11) (.AO .AV) (.AO (.Au U))),Bq 118,.AN (J 12) 85,Bq 119,.AN (J 12) 86,Bq 102,.AN (J 12) 87,Bq 92,J 14,Bq 127,J 25,Bq 124,.Ab 73 #v[.AN (J 6) 20],Bq 125,J 24,Bq 117,J 22,Bq 94,.AN (J 19) 94,Bq 116,.CH 94 (.Ez (J 29) [28,29] .Ci (.AN (J 19) 96) (.AO .AV) (.AO (.Au U))),Bq 126,.CH 95 (.C9 .Cu (.C9 .Cu (.A6 #v[eI 0,eI (-1)]) (.Ez (.C9 .AE (eI (-3)) (J 30)) [30] .DU (.Aj (J 22)) (.AO .AV) (.AO (.Au U)))) (.Ez (J 31) [31,32] .Ci (.AN (J 19) 96) (.AO .AV) (.AO (.Au U)))),Bq 123,.Dm .id 96 .AH]),.Cv (J 18) (Bq 104) (.Dm .id 97 .AH),.Ak 34 (.EB (J 4) 6 #v[.A3 #v[.AW 2 (.B 6),J 7]]),.Cm [35,36] .Ci (.A6 #v[.A3 #v[Bk 33 118,.AW 37 (.B 7)],.A3 #v[J 14,.AW 37 (.B 7)],.A3 #v[Bk 33 119,.AN (J 6) 18],.A3 #v[Bk 33 102,.AN (J 6) 18]]) (.AO .AV) #v[.Ay (J 35) #v[.Cv (Bk 33 123) (J 35) (J 36),.Cv (Bk 18 104) (J 35) (J 36)] .AH],.Cm [37] .DU (.Aj (J 11)) (.AO .AV) #v[.Ak 36 (.AN (.AE (.AN (J 5) 28) (.AE (J 11) (J 37))) 9),.Cm [35] .Ci (.A3 #v[.AE (J 13) (J 37),.AE (Bk 33 121) (J 37)]) (.AO .AV) #v[.Cv (Bk 33 123) (J 35) (J 36),.Cv (Bk 18 104) (J 35) (.Ay (.CF U #v[J 8,.AS .eq (J 36) (.EB (J 4) 6 #v[.A3 #v[.AW 3 (.B 7),eI 0]])]) (J 34) (J 36))]],.Ak 38 (.CH 98 (.A6 #v[.Dm .id 99 .AH])),.Ay (.NH (.Ab 84 #v[J 2,J 33,J 18,J 38])) #v[.C0] .AH,.Cm [39] .DU (.C9 .Cu (eI 6) (.C9 .eV (.Aj (J 1)) (eI 5))) (.AO .AV) #v[.Ay (.NH (.Ab 85 #v[J 2,J 33,J 18,J 38])) #v[.C0] .AH],.Ag (.AO (.Au U))]⟩
def Qw:List Fn:=[aeu,aev,aew,aex,aey,aez,aeA,aeB,aeC,aeD,aeE,aeF,aeG,aeH,u8,u9,aeI,aeJ,aeK,aeL,aeM,aeN,aeO,aeP,aeQ,aeR,aeS,aeT,aeU,aeV,aeW,aeX,aeY,ae0,ae1,ae2,ae3,ae4,ae5,ae6,ae7,ae8,ae9,afa,afb,afc,afd,afe,afg,afh,afi,afj,afk,afl,afm,afn,afo,afp,afq,afr,afs,aft,afu,uA,afv,afw,afx,afy,afz,afA,afB,uB,uC,uD,afC,afD,afE,aH,uE,Sw,uF,aI,uG,uH,Lb,Lc,Di]
def Ni:List String:=["rows","index","depths","weights","opens","row","put","lid","name","kind","flags","owner","arg","block","fnid","mid","lids","params","this_kind","ret","body","up","sort","elem","at","store","asm","fns","vars","of_mid","diags","inits","sinits","consts","tid","base","ifaces","variances","bounds","fields","methods","cctor","under","impls","props","events","finaliser","home","fid","access","value","ngen","gnames","gbounds","pnames","pflags","native","locals_","maxstack","code","clauses","kt","types","fields_","names","asms","entry","Finalize","inner","margs","ctor","<>",".ctor","unit","fn","made","labels","style","out","goals","count","fids","plain","stubs","bases","state_fid","this_fid","first_this","==","<",">","","current","region_now","outer","last","paused","label","+","get_Current","GetEnumerator","p","this0","nums","kinds","own","things","gives","log","fuel","flats","O","A","m","B","F","regions","ways","state","this","first","work","odd","open","stub","enumerator","states","mids","Dispose","<>E","<>I"]
def uI:List (Option Nat):=[H 0,H 19,H 20,H 21,H 22,H 25,H 26,H 27,H 28,H 29,H 41,H 46,H 60,AB]
def Sx(c:Nat):Option Nat:=uI.getD c AB
def i_:List (Nat×Nat×Nat):=[(0,5,1),(0,6,2),(11,97,47)]
def uJ(c n:Nat):Option Nat:=(i_.find? λp=>Ct p.1 c&&Ct p.2.1 n).map (·.2.2)
def afF:List (List Nat):=[[0,1,2,3,4],[0],[7,8,9,10,11,12,13],[14,15,16,17,18,19,20,21,22,23,24],[25,26,27,28,29,30,31,32,33],[8,10,17,22,26,34,35,36,37,38,39,40,41,42,43,44,45,46,47],[8,9,10,11,48,49,50],[8,10,11,15,17,19,20,49,51,52,53,54,55,56],[57,58,59,60],[40,61,62,63,64,65,66],[9,34,68,69,70],[25,61,73,74,75,76,77,78,79,80,81,82,83,84,85,86,87],[92,93,94,95,96],[]]
def VS(c:Nat):List Nat:=afF.getD c []
def Ld(n:Nat):Str:=match Ni[n]? with|some s=>O_ s|none=>⟨(E3 (1000+n) 0).toArray⟩
def A5:Env where
 AM:=Ld
 S1:=[20,9,10,11,12,13,14,15,16,17,18,19,1,4]
 QB:=uJ
 NP:=Sx
 MI:=λc n=>(VS c).contains n
 UO:=λf=>Qw[f]?
end
section
open PySem PySem.W PySem.Calls PyProof.Rows PySem.SeqAt
def uK(v:AG):Bool:=match v with|.none=>U|_=>A1
def uL(fd:OM):Bool:=fd.params.posonlyargs.isEmpty&&fd.params.kwonlyargs.isEmpty&&fd.params.vararg.isNone&&fd.params.kwarg.isNone&&uK fd.defaults
theorem afG{ps:List Str}{vals:List AG}(hl:I vals=I ps):∀n∈ps,((ps.zip vals).lookup n).isSome=U:=by
 induction ps generalizing vals with
 |nil=>intro n h;cases h
 |cons p r ih=>
  cases vals with
  |nil=>simp at hl|cons v t=>
   intro n h;rw[Qh];cases hb:n==p with
   |true=>rfl|false=>
    rcases D4.mp h with e|e
    .clear h hl;subst e;simp at hb
    .exact ih (by simpa using hl) n e
theorem afH{α γ:Type}{f g:α->Option γ}:∀{l:List α},(∀n∈l,f n=g n)->l.filterMap f=l.filterMap g:=by
 intro BE;induction BE with
 |nil=>
  rintro _;exact rfl
 |cons a r ih=>
  rintro h;rw[uM,uM,h a D0,ih λn hn=>h n (DV _ hn)]
theorem afI:∀{vals:List AG},Ht ps=U->I vals=I ps->(ps.filterMap λn=>((ps.zip vals).lookup n).map λx=>(n,x))=ps.zip vals:=by
 induction ps with
 |nil=>intro vals _ _;rfl|cons p r ih=>
  intro vals nd hl;cases vals with
  |nil=>simp at hl|cons v t=>
   obtain⟨n1,n2⟩:=VP nd;have e:(r.filterMap λn=>(((p::r).zip (v::t)).lookup n).map λx=>(n,x))=r.filterMap λn=>((r.zip t).lookup n).map λx=>(n,x):=by
    refine afH λn hn=>?_;rw[List.zip_cons_cons,Qh]
    have:(n==p)=A1:=beq_eq_false_iff_ne.mpr λe=>n1 (e▸hn);rw[this]
   rw[uM,e,ih n2 (by simpa using hl)];simp
theorem afJ
  (g:¬(decide (I vals>I (as.map Ih))&&U)=U)
  (ms:¬(!((List.take (I (as.map Ih)-(I (aJ (0-(I (as.map Ih))) ([]:List AG)))) (as.map Ih)).filter λn=>(List.lookup n ((as.map Ih).zip vals)).isNone).isEmpty)=U)
  (afK:(aJ (I (as.map Ih)-(I (aJ (0-(I (as.map Ih))) ([]:List AG)))) (as.map Ih)).zip (aJ (0-(I (as.map Ih))) ([]:List AG))=[])
  (afL:(as.map Ih++[]).filterMap (λn=>(((as.map Ih).zip vals).lookup n).map λx=>(n,x))=(as.map Ih).zip vals):
  bindArgs ⟨nm,afM,⟨[],as,AB,[],kd,AB,de⟩,body,sc,gl,cl,.none,kw,ia,pm,an,cd,ct,afN⟩ ⟨vals,[]⟩=pure ((as.map Ih).zip vals):=by
 refine(if_neg g).trans ((if_neg ms).trans ?_);refine(congrArg (λl=>Bind.bind (forIn l ((as.map Ih).zip vals) _) _) afK).trans ?_;exact congrArg (λx=>(pure x:Sem _)) afL
theorem afO(nd:Ht (as.map Ih)=U)(hl:I vals=I as):
  bindArgs ⟨nm,afM,⟨[],as,AB,[],kd,AB,de⟩,body,sc,gl,cl,.none,kw,ia,pm,an,cd,ct,afN⟩ ⟨vals,[]⟩=pure ((as.map Ih).zip vals):=by
 have hl':I vals=I (as.map Ih):=by rw[hl,Ce]
 have dn:∀k,aJ k ([]:List AG)=[]:=λk=>List.drop_nil;refine afJ (by simp[hl]) ?_ (by rw[dn,List.zip_nil_right]) (by rw[Oc];exact afI nd hl');rw[dn,List.take_length,List.filter_eq_nil_iff.mpr]
 .exact rU
 .intro n hn e
  have:=afG hl' n hn;rw[uN.mp e] at this;cases this
def uO(fd:OM)(po Hp:List Arg)(va Qx:Option Arg)(df:AG):OM:=⟨fd.name,fd.qualname,⟨po,fd.params.args,va,Hp,fd.params.kw_defaults,Qx,fd.params.defaults⟩,fd.body,fd.scope,fd.globals,fd.closure,df,fd.kwdefaults,fd.doc,fd.pyModule,fd.annotations,fd.code,fd.closureTuple,fd.builtins⟩
theorem afP(h1:fd.params.posonlyargs=[])(h2:fd.params.kwonlyargs=[])(h3:fd.params.vararg=AB)(h4:fd.params.kwarg=AB)(h5:fd.defaults=.none):fd=uO fd [] [] AB AB .none:=
 Eq.trans (show fd=uO fd fd.params.posonlyargs fd.params.kwonlyargs fd.params.vararg fd.params.kwarg fd.defaults by obtain⟨_,_,⟨_,_,_,_,_,_,_⟩,_⟩:=fd;rfl) (by rw[h1,h2,h3,h4,h5])
theorem afQ(e:uK v=U):v=.none:=by
 cases v with
 |none=>rfl|_=>exact nomatch(show A1=U from e)
theorem afR(h:uL fd=U)(nd:Ht (fd.params.args.map (·.arg))=U)(hl:I vals=I fd.params.args):bindArgs fd ⟨vals,[]⟩=pure ((fd.params.args.map (·.arg)).zip vals):=
 (congrArg (bindArgs · ⟨vals,[]⟩) (afP (iF.mp (AJ (AJ (AJ (AJ h).1).1).1).1) (iF.mp (AJ (AJ (AJ (AJ h).1).1).1).2) (uN.mp (AJ (AJ (AJ h).1).1).2) (uN.mp (AJ (AJ h).1).2) (afQ (AJ h).2))).trans (afO nd hl)
def aK:List (List Nat)->Bool
 |[]=>U|x::r=>!r.contains x&&aK r
def ic:List (List Nat):=Ni.map λs=>(O_ s).cps.toList
theorem afS:aK ic=U:=by decide+kernel
theorem afT:(ic.all λl=>decide (I l<1000))=U:=by decide+kernel
theorem afU:∀{l:List (List Nat)} {i j:Nat} {x:List Nat},aK l=U->l[i]?=H x->l[j]?=H x->i=j:=by
 intro BE;induction BE with
 |nil=>
  rintro i j x _ e _;simp at e
 |cons y r ih=>
  rintro i j x h e f;have h:(!r.contains y)=U/\aK r=U:=EF.mp h;have no:∀{k:Nat},r[k]?=H y->False:=λ{k} m=>by have:=VA.mpr (HE m);rw[this] at h;cases h.1
  cases i with
  |zero=>
   cases j with
   |zero=>rfl|succ j=>
    have e:y=x:=by simpa using e
    subst e;exact(no (by simpa using f)).elim
  |succ i=>
   cases j with
   |zero=>
    have f:y=x:=by simpa using f
    subst f;exact(no (by simpa using e)).elim
   |succ j=>exact congrArg _ (ih h.2 (by simpa using e) (by simpa using f))
theorem aL(h:Ni[n]?=H s):Ld n=O_ s:=by unfold Ld;rw[h]
theorem aM(h:Ni[n]?=AB):Ld n=⟨(E3 (1000+n) 0).toArray⟩:=by unfold Ld;rw[h]
theorem ie{n:Nat}(h:Ni[n]?=H s):ic[n]?=H (O_ s).cps.toList:=by rw[GY,h];rfl
theorem uP{n:Nat}(h:Ni[n]?=H s):(O_ s).cps.toList.length<1000:=by have:=Gm.mp afT _ (HE (ie h));simpa using this
theorem afV(a b:Nat)(e:Ld a=Ld b):a=b:=by
 cases ha:Ni[a]? with
 |some s=>
  cases hb:Ni[b]? with
  |some t=>
   rw[aL ha,aL hb] at e;have h1:=ie ha;have h2:=ie hb;rw[<-e] at h2;exact afU afS h1 h2
  |none=>
   exfalso;rw[aL ha,aM hb] at e
   have:=uP ha;rw[e] at this;simp at this;exact K4 (BG 1 (.a (.a (.k 1000) A2) AF) (.k 1000) AF AK A4 [b] this)
 |none=>
  cases hb:Ni[b]? with
  |some t=>
   exfalso;rw[aM ha,aL hb] at e
   have:=uP hb;rw[<-e] at this;simp at this;exact K4 (BG 1 (.a (.a (.k 1000) A2) AF) (.k 1000) AF AK A4 [a] this)
  |none=>
   rw[aM ha,aM hb] at e;have h:=congrArg (λs:Str=>s.cps.size) e;simp at h;exact h
def afW:List String:=["KindTable.__init__","KindTable.row","KindTable.put","inner_kinds","row_level","row_length","check_kind_row","check_named","check_args","may_stand","class_kind","var_kind","mvar_kind","is_value","close","close_in","with_inner","pick_arg","close_all","Diags.__init__","Var.__init__","Fn.__init__","Unit.__init__","new_fn","new_var","TypeDef.__init__","FieldDef.__init__","MethodDef.__init__","Body.__init__","Store.__init__","plain_names","sort_flags","add_type","set_home","set_bounds","add_field","kept_flags","add_method","note_method","set_body","is_virtual","Made.__init__","make_made","made_ctor","made_field","assign","Cutter.__init__","Cutter.label","self_of","own_field","field_at","set_state","state_is","field_of_lid","new_self","machine_fn","member_fn","local_in","label_at","make_statements","YieldStyle.__init__","call_own","finish","make_dispose","make_end","make_current","make_enumerator","other_field","first_fields","first_this_field","make_iter_stub","_law_take","_law_rows","_law_flat","_law_cell","_law_value","_law_effect","_law_exec","_law_run","_law_method","_law_finals","_law_closing","_law_shown","_law_same","_law_stub","_law_use","law"]
def afX:List Nat:=[74,81,88,102,109,116,123,130,137,144,151,165,172,193,207,214,221,235,242,256,413,434,455,469,476,511,532,553,574,595,609,623,630,637,644,651,658,665,672,679,686,759,771,778,785,792,855,869,883,890,897,904,911,918,925,960,967,974,981,988,1009,1035,1103,1108,1115,1122,1129,1136,1143,1150,1157,1165,1172,1179,1186,1193,1200,1207,1214,1221,1228,1235,1242,1247,1252,1257,1262]
def afY:List String:=["KindTable","Diags","Var","Fn","Unit","TypeDef","FieldDef","MethodDef","Body","Store","Made","Cutter","YieldStyle","NoBase"]
def af0:List Nat:=[91,278,416,437,458,514,535,556,577,598,762,872,1026,809]
def af1:List (String×V):=[("PRIM_END",(.B 16)),("R_PRIM",(.B 1)),("R_VAR",(.B 6)),("R_MVAR",(.B 7)),("DEEPEST_KIND",(.B 24)),("HEAVIEST_KIND",(.B 4096)),("R_CLASS",(.B 2)),("R_VALUE",(.B 3)),("R_ARRAY",(.B 4)),("R_BYREF",(.B 5)),("R_BOXED",(.B 8)),("R_ROREF",(.B 9)),("R_RAW",(.B 11)),("R_FTN",(.B 10)),("VOID",(.B 0)),("NULLK",(.B 14)),("BOOL",(.B 1)),("NINT",(.B 11)),("FN_PLAIN",(.B 0)),("VA_NONE",(.B 0)),("S_IFACE",(.B 3)),("S_CLASS",(.B 1)),("MF_CTOR",(.B 32)),("MF_CCTOR",(.B 64)),("MF_SPECIAL",(.B 128)),("TF_INTERNAL",(.B 8)),("TF_SEALED",(.B 2)),("TF_MADE",(.B 16)),("OBJECT",(.B 12)),("A_PUBLIC",(.B 6)),("OP_RET",(.B 42)),("CM_OBJ_CTOR",(.B 1)),("S_EXPR",(.B 1)),("X_ASSIGN",(.B 22)),("X_THIS",(.B 3)),("X_FIELD",(.B 4)),("X_CONST",(.B 1)),("I4",(.B 7)),("X_BIN",(.B 14)),("X_NEW",(.B 9)),("MF_VIRTUAL",(.B 2)),("MF_FINAL",(.B 16)),("MF_NEWSLOT",(.B 4)),("X_LOCAL",(.B 2)),("VF_TEMP",(.B 32)),("S_LABEL",(.B 20)),("X_CALL",(.B 8)),("S_BLOCK",(.B 3)),("S_TRY",(.B 14)),("FIRST_TRY",(.B (-3))),("S_TABLE",(.B 23)),("S_GOTO",(.B 21)),("RUNNING",(.B (-1))),("S_RETURN",(.B 12)),("FRESH",(.B (-2))),("S_CGOTO",(.B 22)),("X_CONV",(.B 19)),("CV_REF",(.B 2)),("_law_FIRST",(.A3 [(.B 1),(.B 1),(.B 2),(.B 2),(.B 3),(.B 2),(.B 3),(.B 0),(.B 2),(.B 1),(.B 1),(.B 2),(.B 0),(.B 2),(.B 3),(.B 0),(.B 7),(.B 8),(.B 9),(.B 0),(.B 0),(.B 0),(.B 4),(.B 5),(.B 11),(.B 12),(.B 13),(.B 14),(.B 0),(.B 1),(.B 0),(.B 2),(.B 0),(.B 2),(.B 1),(.B 0)])),("_law_LOG",(.B 1000)),("S_THROW",(.B 13)),("S_STRUCT",(.B 2)),("STRING",(.B 13))]
def kA:List Nat:=[3,0,90,91,277,278,415,416,436,437,457,458,513,514,534,535,555,556,576,577,597,598,761,762,808,809,836,837,871,872,1025,1026,60,1158,74,81,88,102,109,116,123,130,137,144,151,165,172,193,207,214,221,235,242,256,413,434,455,469,476,511,532,553,574,595,609,623,630,637,644,651,658,665,672,679,686,759,771,778,785,792,855,869,883,890,897,904,911,918,925,960,967,974,981,988,1009,1035,1103,1108,1115,1122,1129,1136,1143,1150,1157,1165,1172,1179,1186,1193,1200,1207,1214,1221,1228,1235,1242,1247,1252,1257,1262,1,73,80,87,101,108,115,122,129,136,143,150,164,171,192,206,213,220,234,241,255,412,433,454,468,475,510,531,552,573,594,608,622,629,636,643,650,657,664,671,678,685,758,770,777,784,791,854,868,882,889,896,903,910,917,924,959,966,973,980,987,1008,1034,1102,1107,1114,1121,1128,1135,1142,1149,1156,1164,1171,1178,1185,1192,1199,1206,1213,1220,1227,1234,1241,1246,1251,1256,1261]
def uQ:List (List (Nat×String)):=[[(0,"self"),(1,"number"),(2,"row")],[(0,"self"),(1,"k")],[(0,"self"),(1,"row"),(2,"found"),(3,"depth"),(4,"weight"),(5,"opened"),(6,"level"),(7,"inner"),(8,"k")],[(0,"row"),(1,"sort")],[(0,"sort")],[(0,"sort")],[(0,"kt"),(1,"row"),(2,"sort"),(3,"inner")],[(0,"kt"),(1,"row")],[(0,"kt"),(1,"args"),(2,"arg")],[(0,"kt"),(1,"k"),(2,"sort")],[(0,"kt"),(1,"tid"),(2,"args")],[(0,"kt"),(1,"i")],[(0,"kt"),(1,"i")],[(0,"kt"),(1,"k")],[(0,"kt"),(1,"k"),(2,"targs"),(3,"margs")],[(0,"kt"),(1,"k"),(2,"targs"),(3,"margs"),(4,"seen"),(5,"row"),(6,"inner"),(7,"part")],[(0,"kt"),(1,"row"),(2,"inner"),(3,"sort")],[(0,"args"),(1,"place"),(2,"k")],[(0,"kt"),(1,"ks"),(2,"targs"),(3,"margs"),(4,"out"),(5,"k")],[(0,"self")],[(0,"self"),(1,"lid"),(2,"name"),(3,"kind"),(4,"flags"),(5,"owner")],[(0,"self"),(1,"fnid"),(2,"mid"),(3,"up"),(4,"at")],[(0,"self"),(1,"store"),(2,"asm")],[(0,"unit"),(1,"mid"),(2,"up"),(3,"at"),(4,"fnid")],[(0,"unit"),(1,"fnid"),(2,"name"),(3,"kind"),(4,"flags"),(5,"lid")],[(0,"self"),(1,"tid"),(2,"name"),(3,"sort"),(4,"flags"),(5,"base"),(6,"params"),(7,"asm"),(8,"word")],[(0,"self"),(1,"fid"),(2,"owner"),(3,"name"),(4,"kind"),(5,"access"),(6,"flags")],[(0,"self"),(1,"mid"),(2,"owner"),(3,"name"),(4,"access"),(5,"flags"),(6,"ret"),(7,"params")],[(0,"self"),(1,"locals_"),(2,"maxstack"),(3,"code"),(4,"clauses")],[(0,"self")],[(0,"count"),(1,"out"),(2,"place")],[(0,"sort"),(1,"flags")],[(0,"store"),(1,"asm"),(2,"name"),(3,"sort"),(4,"flags"),(5,"base"),(6,"params"),(7,"tid"),(8,"key")],[(0,"store"),(1,"tid"),(2,"home")],[(0,"store"),(1,"tid"),(2,"i"),(3,"flags"),(4,"kinds")],[(0,"store"),(1,"tid"),(2,"name"),(3,"kind"),(4,"access"),(5,"flags"),(6,"t"),(7,"fid")],[(0,"flags")],[(0,"store"),(1,"tid"),(2,"name"),(3,"access"),(4,"flags"),(5,"ret"),(6,"params"),(7,"t"),(8,"mid")],[(0,"store"),(1,"mid"),(2,"m"),(3,"t")],[(0,"store"),(1,"mid"),(2,"locals_"),(3,"maxstack"),(4,"code"),(5,"clauses"),(6,"rows"),(7,"ins"),(8,"edges"),(9,"clause")],[(0,"m")],[(0,"self"),(1,"tid"),(2,"kind"),(3,"inner"),(4,"margs")],[(0,"unit"),(1,"owner"),(2,"mid"),(3,"prefix"),(4,"store"),(5,"kt"),(6,"t"),(7,"names"),(8,"bounds"),(10,"seen"),(11,"margs"),(12,"m"),(13,"place"),(14,"flags"),(15,"tid"),(16,"kind"),(17,"maker")],[(0,"store"),(1,"tid"),(2,"mid"),(3,"code")],[(0,"unit"),(1,"maker"),(2,"name"),(3,"kind")],[(0,"goal"),(1,"value")],[(0,"self"),(1,"unit"),(2,"fn"),(3,"maker"),(4,"labels")],[(0,"self")],[(0,"cc")],[(0,"cc"),(1,"fid")],[(0,"cc"),(1,"obj"),(2,"fid"),(3,"kind")],[(0,"cc"),(1,"n")],[(0,"cc"),(1,"n")],[(0,"cc"),(1,"lid"),(2,"fid"),(3,"var")],[(0,"cc")],[(0,"cc"),(1,"name"),(2,"flags"),(3,"ret"),(4,"mid"),(5,"fn")],[(0,"cc"),(1,"name"),(2,"ret")],[(0,"cc"),(1,"fn"),(2,"kind")],[(0,"n")],[(0,"cc"),(1,"machine"),(2,"first"),(3,"out"),(4,"fn"),(5,"place"),(6,"lid"),(7,"kind")],[(0,"self"),(1,"current")],[(0,"cc"),(1,"fn")],[(0,"cc"),(1,"style"),(2,"place"),(3,"first"),(4,"last")],[(0,"cc"),(1,"style"),(2,"fn"),(3,"out"),(4,"end"),(6,"goals"),(7,"state"),(8,"count"),(9,"running"),(11,"row"),(12,"n"),(13,"region"),(14,"place")],[(0,"cc"),(1,"fn"),(2,"ender"),(3,"skip"),(4,"within_try")],[(0,"cc"),(1,"current"),(2,"elem"),(3,"fn")],[(0,"cc"),(1,"first"),(2,"kind"),(3,"fn"),(4,"found"),(5,"other"),(6,"behind"),(7,"out"),(8,"fid"),(9,"place")],[(0,"cc"),(1,"obj"),(2,"fid")],[(0,"cc"),(1,"again"),(2,"out"),(3,"lid")],[(0,"cc"),(1,"again")],[(0,"cc"),(1,"first"),(2,"again"),(3,"fn"),(4,"machine"),(5,"out")],[(0,"d"),(1,"count"),(2,"at"),(3,"n")],[(0,"s"),(1,"out"),(2,"one")],[(0,"s"),(1,"rows"),(2,"marks"),(3,"at")],[(0,"m"),(1,"e"),(2,"this"),(3,"local"),(4,"fid")],[(0,"m"),(1,"e"),(2,"this"),(3,"local"),(4,"row"),(5,"key"),(6,"left"),(7,"right")],[(0,"m"),(1,"e"),(2,"this"),(3,"local"),(4,"row"),(5,"key"),(6,"got")],[(0,"m"),(1,"laid"),(2,"this"),(3,"local"),(4,"rows"),(5,"marks"),(6,"at"),(7,"s"),(8,"got"),(9,"n"),(10,"last")],[(0,"m"),(1,"mid"),(2,"this")],[(0,"d"),(1,"unit"),(2,"store"),(3,"kt"),(4,"wide"),(5,"ngen"),(6,"sort"),(7,"own"),(8,"m"),(9,"fn"),(10,"words"),(11,"one")],[(0,"d"),(1,"cc"),(2,"style"),(3,"m"),(4,"dispose"),(5,"ways"),(6,"place"),(7,"way"),(8,"fn"),(9,"state"),(10,"me"),(11,"rows")],[(0,"u"),(1,"state"),(2,"at"),(3,"log"),(4,"got")],[(0,"u"),(1,"row"),(2,"out"),(3,"at")],[(0,"u"),(1,"m"),(2,"table"),(3,"at"),(4,"want"),(5,"have"),(6,"fid")],[(0,"d"),(1,"u"),(2,"m"),(3,"table"),(5,"args"),(6,"this"),(7,"kept"),(8,"local"),(9,"at"),(10,"got"),(11,"this0")],[(0,"d"),(1,"u"),(2,"m"),(3,"table"),(4,"which"),(5,"row"),(6,"op"),(8,"fid"),(9,"value"),(10,"got"),(11,"want")],[(0,"script"),(1,"nums"),(2,"d"),(3,"store"),(4,"kt"),(5,"unit"),(6,"fn"),(7,"wide"),(8,"ngen"),(9,"sort"),(11,"lids"),(12,"cc"),(13,"first"),(14,"current"),(16,"inner"),(17,"outer"),(18,"m"),(19,"style"),(20,"dispose"),(21,"ender"),(22,"ways"),(23,"n"),(24,"enumerator"),(25,"mids"),(26,"mid"),(33,"u"),(34,"own"),(35,"fid"),(36,"k"),(37,"at"),(38,"table"),(39,"one")]]
def uR:List Bool:=[A1,A1,A1,U,U,U,U,U,U,U,U,U,U,U,U,U,U,U,U,A1,A1,A1,A1,U,U,A1,A1,A1,A1,A1,U,U,U,U,U,U,U,U,U,U,U,A1,U,U,U,U,A1,A1,U,U,U,U,U,U,U,U,U,U,U,U,A1,U,U,U,U,U,U,U,U,U,U,U,U,U,U,U,U,U,U,U,U,U,U,U,U,U,U]
def Qy(P:FF)(a:BJ):Obj:=((XU P 245 1263).get a).getD default
def EC(P:FF):Frag:=kA.map λa=>(a,Qy P a)
def uS(o:Obj):Bool:=match o.data with|.freed=>U|_=>A1
theorem af2(l:a<1263)(n:uS (Qy P a)=A1):(Hh P).get? a=H (Qy P a):=by have:=absHeap_at (XU P 245 1263) 1263 {} a;rw[if_pos l] at this;unfold Ca.get?;rw[this];show(match H (Qy P a) with|some ⟨_,_,.freed,_⟩=>AB|o=>o)=_;generalize Qy P a=x at n;obtain⟨c,d,dt,sl⟩:=x;cases dt<;>first|rfl|cases n
theorem af3(P:FF):(kA.all λa=>Nj a 1263&&!uS (Qy P a))=U:=#v[]
theorem af4{β:Type}{f:BJ->β}:∀{l:List BJ} {a:BJ} {o:β},(l.map λa=>(a,f a)).lookup a=H o->a∈l/\o=f a:=by
 intro BE;induction BE with
 |nil=>
  rintro a o e;cases e
 |cons b l ih=>
  rintro a o e;rw[Hw,Qh] at e;cases q:a==b with
  |true=>rw[q] at e;cases e;rw[beq_iff_eq.mp q];exact⟨D0,rfl⟩
  |false=>rw[q] at e;exact⟨DV _ (ih e).1,(ih e).2⟩
theorem Sy(y:YP w h):(EC w.params).In h:=λa o e=>by obtain⟨m,rfl⟩:=af4 e;have z:=Gm.mp (af3 w.params) a m;rw[Gq,Bool.not_eq_true'] at z;exact y _ _ (af2 (PA.mp z.1) z.2)
def S'(s:String):Str:=O_ s
def Kn(c:Nat):BJ:=af0.getD c 0
def Jg(f:Nat):BJ:=afX.getD f 0
def ig(f:Nat):Str:=S' (afW.getD f "")
def aN(f:Nat):Bool:=uR.getD f A1
def uT(c:Nat):Str:=S' (afY.getD c "")
def af5(c:Nat):Bool:=Nj c 14
def uU:List (Str×V):=af1.map λp=>(S' p.1,p.2)
def ir(k:AG)(n:Str):Bool:=match k with|.str s _=>Fast.sEq s n|_=>A1
theorem af6:k.isStr n=ir k n:=by
 cases k with
 |str s t=>exact Bool.eq_iff_iff.mpr (beq_iff_eq.trans Fast.sEq_iff.symm)|_=>rfl
def iu(es:List Fz)(n:Str):Option AG:=List.rec AB (λe x ih=>Bool.rec ih (H e.val) (ir e.key n)) es
theorem af7:∀{es:List Fz},iu es n=H v->∃e,es.find? (·.key.isStr n)=H e/\e.val=v:=by
 intro BE;induction BE with
 |nil=>
  rintro e;cases e
 |cons x es ih=>
  rintro e;have e:Bool.rec (iu es n) _ _=H v:=e;rw[fT,af6];cases q:ir _ n with
  |true=>rw[q] at e;clear ih;cases e;exact⟨x,rfl,rfl⟩
  |false=>rw[q] at e;exact ih e
def af8(o:Option Obj):List Fz:=@Option.rec Obj (λx=>List Fz) [] (λo=>match o.data with|.dict es _=>es.toList|_=>[]) o
def Le(K:Frag)(ns:BJ)(n:Str):Option AG:=iu (af8 (K.lookup ns)) n
inductive af9(o:Option Obj)(n:Str)(v:AG):Prop
 |mk (c:AG) (d:Option BJ) (es:Array Fz) (ep:Nat) (sl:Array (Option AG)) (x:Fz) (e:o=H ⟨c,d,.dict es ep,sl⟩) (f:es.toList.find? (·.key.isStr n)=H x) (g:x.val=v)
theorem uV{K:Frag}(e:Le K ns n=H v):af9 (K.lookup ns) n v:=by
 unfold Le at e;revert e;generalize K.lookup ns=x;intro e;cases x with
 |none=>exact nomatch(show AB=H v from e)
 |some o=>
  obtain⟨c,d,dt,sl⟩:=o;cases dt with
  |dict es ep=>obtain⟨x,h1,h2⟩:=af7 e;exact⟨_,_,_,_,_,x,rfl,h1,h2⟩
  |_=>exact nomatch(show AB=H v from e)
theorem VT{K:Frag}(e:Le K ns n=H v):nsIn K ns n=H (H v):=by obtain⟨c,d,es,ep,sl,x,e,f,g⟩:=uV e;unfold nsIn;rw[e];dsimp only;rw[f,<-g]
def aO(x:Option AG)(a:BJ):Bool:=decide (x=H (.ref a))
theorem aP(e:aO x a=U):x=H (.ref a):=of_decide_eq_true e
def iw(x:Option (Option AG)):Bool:=decide (x=H AB)
theorem iy(e:iw x=U):x=H AB:=of_decide_eq_true e
def iz(x:Option (Option AG))(n:String):Bool:=decide (x=H (H (.builtin n)))
theorem uW(e:iz x n=U):x=H (H (.builtin n)):=of_decide_eq_true e
def j0(x:Option (Option AG))(a:BJ):Bool:=decide (x=H (H (.ref a)))
theorem uX(e:j0 x a=U):x=H (H (.ref a)):=of_decide_eq_true e
def j3(y:AG):Option Int:=match y with|.int i _=>H i|_=>AB
theorem uY(e:j3 y=H i):∃t,y=.int i t:=by
 cases y with
 |int j t=>exact⟨t,congrArg (Un · t) (BR e)⟩|_=>exact nomatch(show AB=H i from e)
def u_(v:V)(y:AG):Bool:=match v with
 |.B i=>decide (j3 y=H i)|_=>A1
def j4:List V->List AG->Bool
 |[],[]=>U|v::l,y::r=>u_ v y&&j4 l r|_,_=>A1
def j5(K:Frag)(x:AG):Option (List AG):=match x with
 |.ref a=>@Option.rec Obj (λy=>Option (List AG)) AB (λo=>match o with
  |⟨.type c,AB,.seq xs 0,sl⟩=>if(decide (c="tuple")&&(sl.size==0&&decide (xs.size<1000)))=U then H xs.toList else AB|_=>AB) (K.lookup a)
 |_=>AB
def j6(K:Frag)(v:V)(x:AG):Bool:=match v with
 |.B i=>decide (j3 x=H i)|.A3 l=>@Option.rec (List AG) (λy=>Bool) A1 (λr=>j4 l r) (j5 K x)|_=>A1
theorem aga(e:u_ v y=U):BN tab β h v y:=by
 cases v with
 |B i=>exact uY (of_decide_eq_true e)|_=>exact Bp e
theorem ua:∀{l:List V} {r:List AG},j4 l r=U->C5 tab β h l r
 |[],[],_=>rfl|[],_::_,e=>Bp e|_::_,[],e=>Bp e|v::l,y::r,e=>⟨_,_,rfl,aga (AJ e).1,ua (AJ e).2⟩
theorem agb{K:Frag}(e:j5 K x=H r):∃a,x=.ref a/\K.lookup a=H (Fg r)/\I r<1000:=by
 cases x with
 |ref a=>
  refine⟨a,rfl,?_⟩;revert e;show@Option.rec Obj (λy=>Option _) AB ..=H r->_;generalize K.lookup a=o;intro e;cases o with
  |none=>exact nomatch(show AB=H r from e)
  |some o=>
   obtain⟨c,d,dt,sl⟩:=o;cases c with
   |type c=>
    cases d with
    |some d=>exact nomatch(show AB=H r from e)
    |none=>
     cases dt with
     |seq xs n=>
      cases n with
      |succ n=>exact nomatch(show AB=H r from e)
      |zero=>
       have e:(if(decide _&&(sl.size==0&&decide _))=U then H _ else AB)=H r:=e;by_cases q:(decide (c="tuple")&&(sl.size==0&&decide (xs.size<1000)))=U
       .rw [if_pos q] at e
        cases e;rw[of_decide_eq_true (AJ q).1,Array.eq_empty_of_size_eq_zero (beq_iff_eq.mp (AJ (AJ q).2).1)];exact⟨rfl,of_decide_eq_true (AJ (AJ q).2).2⟩
       .rw [if_neg q] at e;cases e
     |_=>exact nomatch(show AB=H r from e)
   |_=>exact nomatch(show AB=H r from e)
 |_=>exact nomatch(show AB=H r from e)
theorem agc{K:Frag}(x:K.In h)(e:j6 K v y=U):BN tab β h v y:=by
 cases v with
 |B i=>exact uY (of_decide_eq_true e)|A3 l=>
  cases q:j5 K y with
  |none=>exact Bp ((congrArg _ q).symm.trans e)|some r=>
   obtain⟨a,e1,e2,e3⟩:=agb q;exact⟨a,r,e1,x _ _ e2,MS (Hq e3 ()),ua ((congrArg _ q).symm.trans e)⟩
 |_=>exact Bp e
theorem agd(P:FF):(uU.all λp=>@Option.rec AG (λy=>Bool) A1 (λx=>j6 (EC P) p.2 x) (Le (EC P) 3 p.1))=U:=#v[]
theorem uc(P:FF):((Ey 87).all λf=>!aN f||(aO (Le (EC P) 3 (ig f)) (Jg f)&&keepIn (EC P) (.ref (Jg f))))=U:=#v[]
theorem age(P:FF):((Ey 14).all λc=>aO (Le (EC P) 3 (uT c)) (Kn c)&&(keepIn (EC P) (.ref (Kn c))&&makesIn (EC P) (Kn c)))=U:=#v[]
theorem ud(P:FF):((Ey 14).all λc=>@Option.rec Nat (λx=>Bool) (iz (findIn (EC P) (.ref (Kn c)) "__init__") "object.__init__") (λf=>j0 (findIn (EC P) (.ref (Kn c)) "__init__") (Jg f)&&isFn (EC P) (.ref (Jg f))) (Sx c))=U:=#v[]
theorem j7(P:FF):((Ey 14).all λc=>plainGet (EC P) (Kn c) ""&&(hasDictIn (EC P) (Kn c)&&(plainOver (EC P) (Kn c)&&(iz (findIn (EC P) (.ref (Kn c)) "__setattr__") "object.__setattr__"&&(VS c).all λn=>iw (findIn (EC P) (.ref (Kn c)) (Ld n))))))=U:=#v[]
theorem agf(P:FF):(i_.all λp=>Nj p.1 14&&(j0 (findIn (EC P) (.ref (Kn p.1)) (Ld p.2.1)) (Jg p.2.2)&&(isFn (EC P) (.ref (Jg p.2.2))&&keepIn (EC P) (.ref (Jg p.2.2)))))=U:=#v[]
theorem agg(P:FF):aO (Le (EC P) 3 "TID_PRIM") 60=U:=rfl
def aQ:List (Nat×Nat×Nat×Nat):=[(20,341,0,254),(9,342,1,256),(10,343,2,258),(11,344,3,260),(12,345,4,262),(13,346,5,264),(14,347,6,266),(15,348,7,268),(16,349,8,270),(17,350,9,272),(18,351,10,274),(19,352,11,276),(1,353,12,278),(4,354,13,280)]
theorem agh(P:FF):(EC P).lookup 60=H (eN 14 aQ):=rfl
theorem Nk{p:Nat->Bool}(e:((Ey n).all p)=U){i:Nat}(h:i<n):p i=U:=Gm.mp e i (Xh.mpr h)
theorem j8{α:Type}{l:List α}{d:α}(e:l.getD c d≠d):c<I l:=qj λh=>e (by rw[Lf,SA h];rfl)
theorem agi(e:Sx c=H f):c<14:=j8 (by rw[show uI.getD c AB=H f from e];nofun)
theorem ue(e:(VS c).contains n=U):c<14/\n∈VS c:=
 have m:=VA.mp e
 ⟨j8 (d:=[]) λq=>Hz (show n∈[] from q▸m),m⟩
theorem agj(e:uJ c n=H f):(c,n,f)∈i_:=by obtain⟨⟨a,b,d⟩,e1,rfl⟩:=SP.mp e;have q:(Ct a c&&Ct b n)=U:=List.find?_some (p:=λp:Nat×Nat×Nat=>Ct p.1 c&&Ct _ n) e1;cases HC (C4 q);cases HC (AD q);exact ac8 e1
theorem agk(e:aN f=U):f<87:=j8 (by rw[show uR.getD f _=U from e];nofun)
def uf:List (Str×AG):=[("len",.builtin "len"),("range",.type "range"),("tuple",.type "tuple"),("list",.type "list"),("str",.type "str"),("sorted",.builtin "sorted")]
theorem agl{α β:Type} [BEq α] [LawfulBEq α]{n:α}{v:β}{l:List (α×β)}(e:l.lookup n=H v):(n,v)∈l:=by obtain⟨_,_,q,_⟩:=List.lookup_eq_some_iff.mp e;rw[q];exact IG _ D0
theorem agm(P:FF):(uf.all λp=>decide (Le (EC P) 0 p.1=H p.2)&&iw (nsIn (EC P) 3 p.1))=U:=#v[]
theorem agn:∀l:List (Nat×Nat×Nat×Nat),Pairs (intKind prog w) (l.map λ(a,b,c,d)=>(⟨Dl a,.int (Dl a) b,.int (Dl c) d⟩:Fz)) (l.map λp=>(Dl p.1,.int (Dl p.2.2.1) p.2.2.2)):=by
 intro BE;induction BE with
 |nil=>
  exact .nil
 |cons hd0 l ih=>
  exact .cons (YI prog w ..) rfl ih
theorem ago:∀p∈aQ,Dl p.1=hashInt (Dl p.1):=by decide+kernel
theorem agp(e:@Option.rec AG (λz=>Bool) A1 (λx=>j6 (EC P) c x) (Le (EC P) 3 n)=U):∃x,nsIn (EC P) mainGlobals n=H (H x)/\∀h,(EC P).In h->BN A5.AM (λz=>[]) h c x:=by
 cases q:Le _ 3 n with
 |none=>exact Bp ((congrArg _ q).symm.trans e)|some x=>exact⟨x,VT q,λh y=>agc y ((congrArg _ q).symm.trans e)⟩
theorem agq{K:Frag}(e:findIn K (.ref c) n=H AB):takerIn K c n=H AB:=by unfold takerIn;rw[e];rfl
def PB(w:CO)(h:Ca)(y:YP w h)(nl:h.NoLimit):Cfg where
 Gn:=Cx
 w:=w
 G:=A5
 h₀:=h
 K:=EC w.params
 Fj:=Kn
 LQ:=Jg
 UY:=afV
 HD:=Sy y
 nh:=nl
 ni:=by have:(EC w.params).lookup sysModules=H (Qy w.params 1):=#v[];rw[Sy y _ _ this];rfl
 U_:=uU
 Xq:=ig
 Xr:=aN
 Xs:=uT
 Ua:=af5
 nj:=λk n c e=>agp (Gm.mp (agd w.params) _ (HE e))
 nk:=λf e=>
  have q:=AJ (((congrArg (!·||_) e).symm.trans (Nk (uc w.params) (agk e))))
  ⟨VT (aP q.1),q.2⟩
 nq:=λc e=>
  have q:=AJ (Nk (age w.params) (PA.mp e))
  ⟨VT (aP q.1),(AJ q.2).1,(AJ q.2).2⟩
 nt:=λc f e=>
  have q:=AJ ((congrArg (@Option.rec Nat (λz=>Bool) _ _) (show Sx c=H f from e)).symm.trans (Nk (ud w.params) (agi e)))
  ⟨uX q.1,q.2⟩
 nu:=λc e q=>uW ((congrArg (@Option.rec Nat (λz=>Bool) _ _) (show Sx c=AB from q)).symm.trans (Nk (ud w.params) (PA.mp e)))
 f7:=λc n e=>
  have l:=ue e;have q:=Nk (j7 w.params) l.1
  ⟨C4 q,C4 (AD q),iy (Gm.mp (AD (AD (AD (AD q)))) n l.2)⟩
 nv:=λc n e=>
  have l:=ue e;have q:=Nk (j7 w.params) l.1
  ⟨C4 (AD (AD q)),agq (iy (Gm.mp (AD (AD (AD (AD q)))) n l.2)),uW (C4 (AD (AD (AD q))))⟩
 ny:=λc n f e=>
  have q:=Gm.mp (agf w.params) _ (agj e)
  ⟨uX (C4 (AD q)),C4 (AD (AD q)),C4 (Nk (j7 w.params) (PA.mp (C4 q))),AD (AD (AD q))⟩
 o4:=λn v e=>
  have b:=AJ (Gm.mp (agm w.params) _ (agl (l:=uf) e))
  ⟨iy b.2,VT (of_decide_eq_true b.1)⟩
 Xu:=60
 o5:=VT (aP (agg w.params))
 o6:=rfl
 o7:=λh' x=>by
  have e:=x _ _ (agh w.params);refine⟨aQ.map λp=>(Dl p.1,.int (Dl p.2.2.1) p.2.2.2),⟨_,_,_,e,?_,rfl,?_,?_,by decide⟩,by decide⟩
  .exact ⟨rfl,rfl,rfl⟩
  .intro e he
   obtain⟨p,hp,rfl⟩:=Eh.mp (List.mem_toArray.mp he);exact⟨Dl p.1,YI _ _ _ _,ago p hp⟩
  .exact agn aQ
def aR(x:Option JV):Bool:=decide (x=H .local)||decide (x=H .cell)
theorem ug(e:aR x=U):x=H .local\/x=H .cell:=(QL.mp e).imp of_decide_eq_true of_decide_eq_true
def agr(K:Frag)(cd:AG):Option (Array AG):=match cd with
 |.ref c=>@Option.rec Obj (λx=>Option (Array AG)) AB (λo=>match o.data with|.fields vs=>H vs|_=>AB) (K.lookup c)|_=>AB
def uh(K:Frag)(cd:AG)(q:Str):Bool:=@Option.rec (Array AG) (λx=>Bool) A1 (λvs=>match(vs.toList[1]?:Option AG) with|some (.str s _)=>s==q|_=>A1) (agr K cd)
theorem ags{K:Frag}(x:K.In h)(e:uh K cd q=U):h.CodeRec cd q:=by
 cases cd with
 |ref c=>
  cases z:K.lookup c with
  |none=>exact Bp ((congrArg (λo=>@Option.rec _ (λy=>Bool) _ _ (@Option.rec Obj (λy=>Option _) AB _ o)) z).symm.trans e)|some o=>
   have e:=(congrArg (λo=>@Option.rec _ (λy=>Bool) _ _ (@Option.rec Obj (λy=>Option _) AB _ o)) z).symm.trans e;obtain⟨c,d,dt,sl⟩:=o;cases dt with
   |fields vs=>
    have e:(match(vs.toList[1]?:Option AG) with|some (.str s _)=>s==q|_=>A1)=U:=e;cases hs:vs.toList[1]? with
    |none=>rw[hs] at e;exact Bp e|some v=>
     rw[hs] at e;cases v with
     |str s t=>
      cases beq_iff_eq.mp e;exact⟨_,_,_,_,rfl,x _ _ z,rfl,Array.getElem?_toList.symm.trans hs⟩
     |_=>exact Bp e
   |_=>exact Bp e
 |_=>exact Bp e
def aS(f:Nat):List (Nat×Str):=(uQ.getD f []).map λp=>(p.1,S' p.2)
def um(x:ScopeKind):Bool:=match x with|.function=>U|_=>A1
theorem agt(e:um x=U):x=.function:=by
 cases x with
 |function=>rfl|_=>exact Bp e
def uo(ps:List Str)(np:Nat)(p:Nat×Str):Bool:=if p.1<np then decide (ps[p.1]?=H p.2) else !ps.contains p.2
def uq(K:Frag)(F:Fn)(fd:OM)(ps:List Str)(c:CY):Bool:=
 uh K fd.code fd.qualname&&(fd.closure.isEmpty&&(!fd.scope.isCoroutine&&(!fd.scope.isGenerator&&(um fd.scope.kind&&(Ct fd.globals 3&&(Ct fd.builtins 0&&(uL fd&&(Ct (I ps) F.np&&(Ht ps&&(ps.all (λx=>aR (c.Bc.lookup x))&&
 (Rt F.np F.ns&&(Ht (c.Bt.map (·.2))&&(QN (c.Bt.map (·.1))&&c.Bt.all λp=>Nj p.1 c.ns&&(aR (c.Bc.lookup p.2)&&uo ps F.np p))))))))))))))
theorem agu(ho:(EC w.params).lookup a=H ⟨cl,ia,.func fd,sl⟩)(hb:fd.body=.stmts body)
  (e:uq (EC w.params) F fd (fd.params.args.map (·.arg)) ⟨fd.scope.names,ss,F.ns⟩=U)(ag:VM (PB w h y nl) ⟨fd.scope.names,ss,F.ns⟩ F.BL body=U):
  Nh (PB w h y nl) a F ⟨cl,ia,.func fd,sl⟩ fd body (fd.params.args.map (·.arg)) ⟨fd.scope.names,ss,F.ns⟩:=by
 have z:=AD (AD (AD (AD (AD (AD (AD (AD e)))))));have pl:=HC (C4 z);have sl:∀i x,(i,x)∈ss->(Nj i F.ns&&(aR (fd.scope.names.lookup x)&&uo ..))=U:=λi x m=>Gm.mp (AD (AD (AD (AD (AD (AD z)))))) _ m;exact{
  DE:=Sy y _ _ ho
  iQ:=rfl
  tP:=ags (Sy y) (C4 e)
  tQ:=hb
  Hx:=iF.mp (C4 (AD e))
  co:=NJ (C4 (AD (AD e)))
  gen:=NJ (C4 (AD (AD (AD e))))
  GV:=agt (C4 (AD (AD (AD (AD e)))))
  AW:=HC (C4 (AD (AD (AD (AD (AD e))))))
  tR:=HC (C4 (AD (AD (AD (AD (AD (AD e)))))))
  tS:=λvals hl=>afR (C4 (AD (AD (AD (AD (AD (AD (AD e)))))))) (C4 (AD z)) (hl.trans (pl.symm.trans (Ce _)))
  iR:=pl
  iS:=C4 (AD z)
  pin:=λx m=>ug (Gm.mp (C4 (AD (AD z))) x m)
  Bc:=rfl
  ns:=rfl
  le:=LO (C4 (AD (AD (AD z))))
  Ib:=C4 (AD (AD (AD (AD z))))
  LU:=C4 (AD (AD (AD (AD (AD z)))))
  lt:=λi x m=>PA.mp (C4 (sl i x m))
  Ol:=λi x m=>ug (C4 (AD (sl i x m)))
  iT:=λi x m li=>of_decide_eq_true ((if_pos li).symm.trans (AD (AD (sl i x m))))
  iU:=λi x m li hm=>Bp ((NJ ((if_neg (NT.mpr li)).symm.trans (AD (AD (sl i x m))))).symm.trans (VA.mpr hm))
  tT:=ag}
def aT(o:Option Obj):Option (AG×Option BJ×OM×Array (Option AG)):=@Option.rec Obj (λx=>Option (AG×Option BJ×OM×Array (Option AG))) AB (λo=>match o.data with|.func fd=>H (o.cls,o.dict,fd,o.slots)|_=>AB) o
theorem ur(e:aT o=H x):o=H ⟨x.1,x.2.1,.func x.2.2.1,x.2.2.2⟩:=by
 cases o with
 |none=>exact nomatch(show AB=H x from e)
 |some o=>
  obtain⟨c,d,dt,sl⟩:=o;cases dt with
  |func fd=>cases e;rfl
  |_=>exact nomatch(show AB=H x from e)
def uu(b:FuncBody):Option (List CA):=match b with|.stmts b=>H b|_=>AB
theorem agv(e:uu b=H l):b=.stmts l:=by
 cases b with
 |stmts b=>cases e;rfl
 |_=>exact nomatch(show AB=H l from e)
def agw(X:Cfg)(f:Nat):Bool:=@Option.rec _ (λy=>Bool) A1 (λx=>@Option.rec _ (λy=>Bool) A1 (λF=>@Option.rec _ (λy=>Bool) A1 (λb=>uq X.K F x.2.2.1 (x.2.2.1.params.args.map (·.arg)) ⟨x.2.2.1.scope.names,aS f,F.ns⟩&&VM X ⟨x.2.2.1.scope.names,aS f,F.ns⟩ F.BL b) (uu x.2.2.1.body)) Qw[f]?) (aT (X.K.lookup (Jg f)))
theorem agx:((Ey 87).all λf=>agw (PB w h y nl) f)=U:=#v[]
theorem aU{α:Type}{o:Option α}{f:α->Bool}(e:@Option.rec α (λy=>Bool) A1 f o=U):∃x,o=H x/\f x=U:=by
 cases o with
 |none=>exact Bp e|some x=>exact⟨x,rfl,e⟩
end
section
open PySem
inductive B9(α:Type):Type 1 where
 |C0|ok (a:α) (h:A0)|I0 (c:Int) (k:Int->B9 α)|aV (k:List A_->B9 α)|VU (p:Prop) (k:B9 α)
namespace B9
def C2{α β:Type}(t:B9 α)(f:α->A0->B9 β):B9 β:=B9.rec (motive:=λx=>B9 β) .C0 (λa h=>f a h) (λc x ih=>.I0 c ih) (λx ih=>.aV ih) (λp x ih=>.VU p ih) t
def CD{α:Type}(P:α->A0->Prop)(t:B9 α):Prop:=B9.rec (motive:=λx=>Prop) False (λa h=>P a h) (λc x ih=>∀v,0<=v->v<c->ih v) (λx ih=>∀i,ih i) (λp x ih=>p/\ih) t
def op{α β:Type}(o:Option α)(k:α->B9 β):B9 β:=Option.rec (motive:=λx=>B9 β) .C0 (λa=>k a) o
def Dq{β:Type}(b:Bool)(k:B9 β):B9 β:=Bool.rec (motive:=λx=>B9 β) .C0 k b
variable{α β:Type}
theorem VV{f:α->A0->B9 β}:∀(t:B9 α),(t.C2 f).CD P->t.CD λa h=>(f a h).CD P
 |.C0,x=>x|.ok ..,x=>x|.I0 _ k,x=>λv a b=>VV _ (x v a b)|.aV k,x=>λi=>VV _ (x i)|.VU _ k,x=>⟨x.1,VV k x.2⟩
theorem Sz(m:∀a h,P a h->P' a h):∀(t:B9 α),t.CD P->t.CD P'
 |.C0,x=>x|.ok a h,x=>m a h x|.I0 _ k,x=>λv a b=>Sz m _ (x v a b)|.aV k,x=>λi=>Sz m _ (x i)|.VU _ k,x=>⟨x.1,Sz m k x.2⟩
theorem aoY(x:(op o k).CD P):opt o λa=>(k a).CD P:=by
 cases o with
 |none=>exact EQ x|some a=>exact⟨a,rfl,x⟩
theorem DY(x:(Dq b k).CD P):b=U/\k.CD P:=by
 cases b with
 |false=>exact EQ x|true=>exact⟨rfl,x⟩
end B9
def PC{α:Type}(l:List α):Nat->Option α:=List.rec (motive:=λx=>Nat->Option α) (λx=>AB) (λa x ih i=>Nat.rec (motive:=λx=>Option α) (H a) (λj x=>ih j) i) l
theorem T3:∀(l:List α) (i:Nat),PC l i=l[i]?
 |[],_=>rfl|a::l,0=>rfl|a::l,i+1=>(T3 l i).trans rfl
def PD{α:Type}(l:List α)(x:α):Nat->List α:=List.rec (motive:=λy=>Nat->List α) (λy=>[]) (λa r ih i=>Nat.rec (motive:=λy=>List α) (x::r) (λj y=>a::ih j) i) l
theorem uv(x:α):∀(l:List α) (i:Nat),PD l x i=l.set i x
 |[],_=>rfl|a::l,0=>rfl|a::l,i+1=>congrArg _ (uv x l i)
def Qz{α:Type}(l m:List α):List α:=List.rec (motive:=λx=>List α) m (λa x ih=>a::ih) l
theorem VW(m:List α):∀(l:List α),Qz l m=l++m:=by
 intro BE;induction BE with
 |nil=>
  exact rfl
 |cons a l ih=>
  exact congrArg _ ih
def Mj{α:Type}(l:List α):Nat:=List.rec (motive:=λx=>Nat) 0 (λx x ih=>Nat.succ ih) l
theorem PE:∀(l:List α),Mj l=I l:=by
 intro BE;induction BE with
 |nil=>
  exact rfl
 |cons a l ih=>
  exact congrArg _ ih
def PF(h:A0)(s:Nat)(l:List A_):A0:=λk=>Bool.rec (motive:=λx=>List A_) (h k) l (Ct k s)
theorem T4(h:A0)(s:Nat)(l:List A_):PF h s l=DA h s l:=by
 funext k;unfold PF DA;cases e:Ct k s with
 |true=>rw[if_pos (HC e)]|false=>rw[if_neg (VX e)]
def R0(h:A0)(s:Nat)(o:A_):A0:=PF h s (Qz (h s) [o])
theorem T5(h:A0)(s:Nat)(o:A_):R0 h s o=Bm h s o:=by unfold R0 Bm;rw[T4,VW]
def Lg(h:A0)(s i:Nat)(o:A_):A0:=PF h s (PD (h s) o i)
theorem aW(h:A0)(s i:Nat)(o:A_):Lg h s i o=Bf h s i o:=by unfold Lg Bf;rw[T4,uv]
def aX(r:List T):Nat->T:=List.rec (motive:=λx=>Nat->T) (λx=>.AQ) (λa x ih i=>Nat.rec (motive:=λx=>T) a (λj x=>ih j) i) r
theorem aY:∀(r:List T) (i:Nat),aX r i=BD r i
 |[],_=>rfl|a::l,0=>rfl|a::l,i+1=>aY l i
theorem T6(x:T):∀(r:List T) (i:Nat),PD r x i=Cq r i x
 |[],_=>rfl|a::l,0=>rfl|a::l,i+1=>congrArg _ (T6 x l i)
def a_(l:List (Nat×V))(n:Nat):Option V:=List.rec (motive:=λx=>Option V) AB (λa x ih=>Bool.rec (motive:=λx=>Option V) ih (H a.2) (Ct a.1 n)) l
theorem agy(n:Nat):∀(l:List (Nat×V)),a_ l n=Bw l n:=by
 intro BE;induction BE with
 |nil=>
  exact rfl
 |cons hd0 l ih=>
  rcases hd0 with⟨a,x⟩;show Bool.rec (motive:=λy=>Option V) (a_ l n) (H x) (Ct a n)=_;rw[ih];rw[OV];cases e:Ct a n with
  |true=>rw[if_pos (HC e)]|false=>rw[if_neg (VX e)]
def j9(l:List (Nat×V))(n:Nat)(x:V):List (Nat×V):=List.rec (motive:=λy=>List (Nat×V)) [(n,x)] (λa r ih=>Bool.rec (motive:=λy=>List (Nat×V)) (a::ih) ((a.1,x)::r) (Ct a.1 n)) l
theorem agz(n:Nat)(x:V):∀(l:List (Nat×V)),j9 l n x=CX l n x:=by
 intro BE;induction BE with
 |nil=>
  exact rfl
 |cons hd0 l ih=>
  rcases hd0 with⟨a,y⟩;show Bool.rec (motive:=λz=>List _) ((a,y)::j9 l n x) ((a,x)::l) (Ct a n)=_;rw[ih];rw[OW];cases e:Ct a n with
  |true=>rw[if_pos (HC e)]|false=>rw[if_neg (VX e)]
def jA(h:A0)(n:Nat)(v:V):Option V:=match v with
 |.O s i=>match PC (h s) i with
  |some (.CK _ l)=>a_ l n|_=>AB
 |_=>AB
theorem agA(h:A0)(n:Nat)(v:V):jA h n v=LL h n v:=by
 unfold jA LL;cases v with
 |O s i=>
  show(match PC (h s) i with|some (.CK _ l)=>a_ l n|_=>AB)=Xc n (h s)[i]?;rw[T3];cases(h s)[i]? with
  |none=>rfl|some o=>cases o with
   |CK c l=>exact agy ..|_=>rfl
 |_=>rfl
def T7{α:Type}(l:List α):Bool:=Nj (Mj l) 100000
theorem aa(x:T7 l=U):I l<BU:=by unfold T7 at x;rw[PE] at x;exact PA.mp x
abbrev Ga:=Nat->Bool
abbrev VY:=Ga->Nat->List V->A0->B9 V
inductive Fs where|B0 (r:List T)|Ag (v:V)
abbrev CV:=Ga->Bool->List T->A0->B9 T
structure Jh where
 es:Ga->List T->A0->B9 (List V)
 ds:Ga->Option V->A_->List T->A0->B9 A_
 bs:Ga->Bool->Bool->List T->A0->B9 T
 AH:Bool
def F2(m:Bool)(t:T)(h:A0):B9 T:=Bool.rec (motive:=λx=>B9 T) (.ok t h) (.op (Hj h t) λb=>.ok (.v (.Au b)) h) m
def T8{α:Type}(t:T)(k:Int->B9 α):B9 α:=match t with
 |.v (.B i)=>k i|_=>.C0
def V_{α:Type}(t:T)(k:Bool->B9 α):B9 α:=match t with
 |.v (.Au i)=>k i|_=>.C0
def uw{α:Type}(t:T)(k:List V->B9 α):B9 α:=match t with
 |.Al i=>k i|_=>.C0
def ux{α:Type}(t:T)(k:List V->B9 α):B9 α:=match t with
 |.v (.A3 i)=>k i|_=>.C0
def jB{α:Type}(t:T)(k:Nat->Nat->B9 α):B9 α:=match t with
 |.v (.O s i)=>k s i|_=>.C0
def R1{α:Type}(b:Bool)(x y:B9 α):B9 α:=Bool.rec (motive:=λz=>B9 α) y x b
def uy(w:Ga)(elt:CV)(con:CV)(Ac:List Nat)(l:List V):List T->A0->List V->B9 (List V):=
 List.rec (motive:=λz=>List T->A0->List V->B9 (List V)) (λz h acc=>.ok acc h)
  (λx z ih r h acc=>.Dq (T7 acc)<|.op (NO Ac x r) λr'=>(con w U r' h).C2 λt h1=>V_ t λb=>
   R1 b ((elt w A1 r' h1).C2 λt h2=>.op t.Av λy=>ih r h2 (Qz acc [y])) (ih r h1 acc)) l
def af(w:Ga)(ik:FG)(t:T):Ga:=match ik with
 |.Ci=>match t with
  |.v (.O s _)=>λk=>Bool.rec (motive:=λx=>Bool) (w k) A1 (Ct k s)|_=>w
 |_=>w
def Va(ik:FG)(t:T):Bool:=match ik with
 |.Ci=>match t with
  |.v (.O s _)=>!(Ct s 80)|_=>U
 |.Q3=>A1|_=>U
section
variable(G:Env)(C:VY)
def jC(i:Nat):CV:=λw m r h=>match aX r i with
 |.AQ=>.C0|.v x=>F2 m (.v x) h|.Al l=>F2 m (.Al l) h|.DT l=>F2 m (.DT l) h
def uz(o:CV)(n:Nat):CV:=λw m r h=>(o w A1 r h).C2 λt h1=>.op t.Av λx=>.op (jA h1 n x) λy=>F2 m (.v y) h1
def v5(o k:CV):CV:=λw m r h=>(o w A1 r h).C2 λt h1=>(k w A1 r h1).C2 λu h2=>.op u.Av λkv=>.op (Hl G.AM h2 t kv) λy=>F2 m (.v y) h2
def v7(o k:CV):CV:=λw m r h=>(o w A1 r h).C2 λt h1=>(k w A1 r h1).C2 λu h2=>.op u.Av λkv=>.op (Xa t kv) λy=>F2 m y h2
def v8(f:Nat)(as:Jh):CV:=λw m r h=>(as.es w r h).C2 λvs h1=>(C w f vs h1).C2 λx h2=>F2 m (.v x) h2
def v9(c s:Nat)(as:Jh):CV:=λw m r h=>.Dq (w s)<|(as.es w r h).C2 λvs h1=>match G.NP c with
  |some f=>(C w f (.O s (Mj (h1 s))::vs) (R0 h1 s (.CK c []))).C2 λx h2=>match x with
   |.AV=>F2 m (.v (.O s (Mj (h1 s)))) h2|_=>.C0
  |none=>match vs with
   |[]=>F2 m (.v (.O s (Mj (h1 s)))) (R0 h1 s (.CK c []))|_=>.C0
def vA(o:CV)(n:Nat)(as:Jh):CV:=λw m r h=>(o w A1 r h).C2 λt h1=>.op t.Av λx=>.op (S2 G h1 n x) λf=>(as.es w r h1).C2 λvs h2=>(C w f (x::vs) h2).C2 λy h3=>F2 m (.v y) h3
def vB(e:CV):CV:=λw m r h=>(e w A1 r h).C2 λt h1=>.op (OY h1 t) λk=>F2 m (.v (.B k)) h1
def vC(e:CV):CV:=λw m r h=>(e w A1 r h).C2 λt h1=>.op (IB h1 t) λl=>F2 m (.v (.A3 l)) h1
def vD(e:CV):CV:=λw m r h=>(e w A1 r h).C2 λt h1=>.op (IB h1 t) λl=>F2 m (.Al l) h1
def vE(e:CV):CV:=λw m r h=>(e w A1 r h).C2 λt h1=>T8 t λi=>.Dq (Dr i) (F2 m (.v (.Ed (NL i))) h1)
def vF(a:CV)(x:Nat)(b:CV)(y:Nat):CV:=λw m r h=>(a w A1 r h).C2 λt h1=>.op t.Av λu=>.op (KX G.AM u) λut=>.Dq (decide (ut.length<1000))<|(b w A1 r h1).C2 λt2 h2=>T8 t2 λi=>
 .Dq (Dr i) (F2 m (.v (.Ed (ut++G.AM x++NL i++G.AM y))) h2)
def vG(o k d:CV):CV:=λw m r h=>(o w A1 r h).C2 λt h1=>.op t.Av λx=>.Dq (K1 h1 x)<|(k w A1 r h1).C2 λu h2=>.op u.Av λkv=>(d w A1 r h2).C2 λw0 h3=>.op w0.Av λdv=>.op (EG G.AM h3 x kv) λy=>F2 m (.v (y.getD dv)) h3
def vH(o k:CV):CV:=λw m r h=>(o w A1 r h).C2 λt h1=>.op t.Av λx=>.Dq (K1 h1 x)<|(k w A1 r h1).C2 λu h2=>.op u.Av λkv=>.op (EG G.AM h2 x kv) λy=>F2 m (.v (y.getD .AV)) h2
def vI(op:LI)(a b:CV):CV:=λw m r h=>(a w A1 r h).C2 λt h1=>(b w A1 r h1).C2 λu h2=>.op (Jz G.AM op t u) λy=>F2 m y h2
def vJ(op:UL)(a b:CV):CV:=λw m r h=>(a w A1 r h).C2 λt h1=>.op t.Av λx=>(b w A1 r h1).C2 λu h2=>.op u.Av λy=>.op (Iz h2 op x y) λz=>.ok (.v (.Au z)) h2
def vK(e:CV):CV:=λw m r h=>(e w A1 r h).C2 λt h1=>.op t.Av λx=>.ok (.v (.Au (K0 x))) h1
def vL(e:CV):CV:=λw m r h=>(e w A1 r h).C2 λt h1=>.op t.Av λx=>.ok (.v (.Au (!K0 x))) h1
def vM(k d:CV):CV:=λw m r h=>(k w A1 r h).C2 λt h1=>.op t.Av λx=>(d w A1 r h1).C2 λu h2=>.op u.Av λy=>.op (EG G.AM h2 y x) λz=>.ok (.v (.Au z.isSome)) h2
def vN(k d:CV):CV:=λw m r h=>(k w A1 r h).C2 λt h1=>.op t.Av λx=>(d w A1 r h1).C2 λu h2=>.op u.Av λy=>.op (EG G.AM h2 y x) λz=>.ok (.v (.Au (!z.isSome))) h2
def vO(e:CV):CV:=λw m r h=>(e w A1 r h).C2 λt h1=>T8 t λi=>.ok (.v (.Au (decide (i∈G.S1)))) h1
def vP(e:CV):CV:=λw m r h=>.Dq m<|(e w U r h).C2 λt h1=>V_ t λb=>.ok (.v (.Au (!b))) h1
def vQ(c a b:CV):CV:=λw m r h=>(c w U r h).C2 λt h1=>V_ t λz=>R1 z (a w m r h1) (b w m r h1)
def vR(es:Jh):CV:=λw m r h=>(es.es w r h).C2 λvs h1=>F2 m (.v (.A3 vs)) h1
def vS(es:Jh):CV:=λw m r h=>(es.es w r h).C2 λvs h1=>F2 m (.Al vs) h1
def vU(k:UM)(s:Nat)(es:Jh):CV:=λw m r h=>.Dq (w s)<|(es.ds w AB (Gk k) r h).C2 λo h1=>F2 m (.v (.O s (Mj (h1 s)))) (R0 h1 s o)
def vV(s:Nat)(f:Bool)(e:CV):CV:=λw m r h=>.Dq (!m)<|.Dq (w s)<|.Dq f<|(e w A1 r h).C2 λt h1=>uw t λl=>.Dq (T7 l) (.ok (.v (.O s (Mj (h1 s)))) (R0 h1 s (.A6 l)))
def vW(elt:CV)(Ac:List Nat)(ik:FG)(a b con:CV):CV:=λw m r h=>(a w A1 r h).C2 λt h1=>(b w A1 r h1).C2 λu h2=>.op u.Av λbv=>.op (HA h2 ik t bv) λl=>
 .Dq (Va ik t)<|(uy (af w ik t) elt con Ac l r h2 []).C2 λvs h3=>F2 m (.Al vs) h3
def agC(e:CV)(es:Jh):Ga->List T->A0->B9 (List V):=λw r h=>(e w A1 r h).C2 λt h1=>.op t.Av λx=>(es.es w r h1).C2 λvs h2=>.ok (x::vs) h2
def agF(e:CV)(es:Jh):Ga->Option V->A_->List T->A0->B9 A_:=λw p o r h=>.Dq (Option.rec (motive:=λy=>Bool) (!es.AH) (λy=>U) p)<|(e w A1 r h).C2 λt h1=>.op t.Av λx=>Option.rec (motive:=λy=>B9 A_) (es.ds w (H x) o r h1) (λkv=>.op (Ef G.AM o kv x) λo'=>es.ds w AB o' r h1) p
def agG(e:CV)(es:Jh):Ga->Bool->Bool->List T->A0->B9 T:=λw al m r h=>R1 es.AH (e w m r h)<|(e w m r h).C2 λt h1=>.op (Hj h1 t) λb=>R1 (Bool.rec (motive:=λx=>Bool) (!b) b al) (es.bs w al m r h1) (.ok t h1)
def vX:Jh:=⟨λx x h=>.ok [] h,λx p o x h=>Option.rec (motive:=λx=>B9 A_) (.ok o h) (λx=>.C0) p,λx x x x x=>.C0,U⟩
def vY(e:CV)(es:Jh):Jh:=⟨agC e es,agF G e es,agG e es,A1⟩
def Gb(e:E):CV:=
 @E.rec (λz=>CV) (λz=>Jh) (λc z m z h=>F2 m (.v c) h) jC (λz c z m z h=>F2 m (.v c) h) (λz n o=>uz o n) (λz z=>v5 G) (λz z=>v7) (λf z=>v8 C f) (λc s z=>v9 G C c s) (λz n z o as=>vA G C o n as)
  (λz=>vB) (λz=>vC) (λz=>vD) (λz=>vE) (λz x z y a b=>vF G a x b y) (λz z z z z z=>.C0) (λz z z z z z=>.C0) (λz z z=>vG G) (λz z=>vH G) (λop z z=>vI G op) (λop z z=>vJ op)
  (λz=>vK) (λz=>vL) (λz z=>vM G) (λz z=>vN G) (λz=>vO G) (λal z es w=>es.bs w al) (λz=>vP) (λz z z=>vQ) (λz=>vR) (λz=>vS) (λk s z=>vU k s) (λs e x=>vV s (H9 e) x)
  (λz Ac ik z z z elt a b con=>vW elt Ac ik a b con) (λz z z z z z z=>.C0) vX (λz z=>vY G) e
def v_(body:List T->A0->B9 Fs)(Ac:List Nat)(l:List V):List T->A0->B9 Fs:=
 List.rec (motive:=λy=>List T->A0->B9 Fs) (λr h=>.ok (.B0 r) h)
  (λx y ih r h=>.op (NO Ac x r) λr'=>(body r' h).C2 λfl h2=>Fs.rec (motive:=λy=>B9 Fs) (λr2=>ih r2 h2) (λv=>.ok (.Ag v) h2) fl) l
def vc(w:Ga)(h:A0)(o x:V)(k:A0->B9 Fs):B9 Fs:=match o with
 |.O s n=>match PC (h s) n with
  |some (.A6 l)=>.Dq (w s)<|.Dq (T7 l) (k (Lg h s n (.A6 (Qz l [x]))))|_=>.C0
 |_=>.C0
def agH(a:E)(t:T):Bool:=match t with
 |.Al _=>H9 a|_=>U
def jD(w:Ga)(h:A0)(o:V)(t:B9 T)(r:List T):B9 Fs:=.Dq (Ep h o)<|t.C2 λu h2=>.op u.Av λx=>vc w h2 o x λh3=>.ok (.B0 r) h3
abbrev Fq:=Ga->List T->A0->B9 Fs
def vd(i:Nat)(e:E):Fq:=λw r h=>(Gb G C e w A1 r h).C2 λt h1=>match t with
 |.v x=>.ok (.B0 (PD r (.v x) i)) h1|.Al l=>.Dq (H9 e) (.ok (.B0 (PD r (.Al l) i)) h1)|_=>.C0
def ve(i:Nat)(e:E):Fq:=λw r h=>(Gb G C e w A1 r h).C2 λt h1=>.op t.Av λx=>.ok (.B0 (PD r (.v x) i)) h1
def vf(is:List Nat)(e:E):Fq:=λw r h=>(Gb G C e w A1 r h).C2 λt h1=>ux t λl=>.op (MH is l r) λr'=>.ok (.B0 r') h1
def vg(o:E)(n:Nat)(e:E):Fq:=λw r h=>(Gb G C e w A1 r h).C2 λt h1=>.op t.Av λx=>(Gb G C o w A1 r h1).C2 λu h2=>jB u λs i=>match PC (h2 s) i with
 |some (.CK c l)=>.Dq (w s)<|.Dq (G.MI c n)<|.Dq (Nj (Mj l) 100) (.ok (.B0 r) (Lg h2 s i (.CK c (j9 l n x))))|_=>.C0
def vh(o k e:E):Fq:=λw r h=>(Gb G C e w A1 r h).C2 λt h1=>.op t.Av λx=>(Gb G C o w A1 r h1).C2 λu h2=>(Gb G C k w A1 r h2).C2 λw0 h3=>.op w0.Av λkv=>jB u λs i=>.Dq (w s)<|match PC (h3 s) i with
 |some (.A6 l)=>match kv with
  |.B n=>.Dq (decide (0<=n)&&decide (n.toNat<I l)) (.ok (.B0 r) (Lg h3 s i (.A6 (l.set n.toNat x))))|_=>.C0
 |some (.Ad l)=>.op (Ef G.AM (.Ad l) kv x) λo'=>.ok (.B0 r) (Lg h3 s i o')|some (.BC l)=>.op (Ef G.AM (.BC l) kv x) λo'=>.ok (.B0 r) (Lg h3 s i o')|some (.Ff l)=>.op (Ef G.AM (.Ff l) kv x) λo'=>.ok (.B0 r) (Lg h3 s i o')|_=>.C0
def vj(i:Nat)(op:LI)(e:E):Fq:=λw r h=>T8 (aX r i) λa=>(Gb G C e w A1 r h).C2 λt h1=>T8 t λb=>.op (Jz G.AM op (.v (.B a)) (.v (.B b))) λy=>.ok (.B0 (PD r y i)) h1
def vm(e:E):Fq:=λw r h=>(Gb G C e w A1 r h).C2 λt h1=>.op t.Av λx=>.ok (.B0 r) h1
def jE(i:Nat)(e:E):Fq:=λw r h=>match aX r i with
 |.Al l=>(Gb G C e w A1 r h).C2 λu h2=>.op u.Av λx=>.Dq (T7 l) (.ok (.B0 (PD r (.Al (Qz l [x])) i)) h2)|.v x0=>jD w h x0 (Gb G C e w A1 r h) r|_=>.C0
def vn(o e:E):Fq:=λw r h=>(Gb G C o w A1 r h).C2 λt h1=>.op t.Av λx0=>jD w h1 x0 (Gb G C e w A1 r h1) r
def vo(o e:E):Fq:=match o with
 |.Am i=>jE G C i e|o=>vn G C o e
def jF(c:E)(a b:Fq):Fq:=λw r h=>(Gb G C c w U r h).C2 λt h1=>V_ t λz=>R1 z (a w r h1) (b w r h1)
def jG(Ac:List Nat)(ik:FG)(a b:E)(body:Fq):Fq:=λw r h=>(Gb G C a w A1 r h).C2 λt h1=>(Gb G C b w A1 r h1).C2 λu h2=>.op u.Av λbv=>.op (HA h2 ik t bv) λl=>
 .Dq (agH a t)<|.Dq (Va ik t)<|v_ (body (af w ik t)) Ac l r h2
def vp(e:E):Fq:=λw r h=>(Gb G C e w A1 r h).C2 λt h1=>.op t.Av λx=>.ok (.Ag x) h1
def jH(s rest:Fq):Fq:=λw r h=>(s w r h).C2 λfl h1=>Fs.rec (motive:=λx=>B9 Fs) (λr1=>rest w r1 h1) (λv=>.ok (.Ag v) h1) fl
def EL(s:Cb):Fq:=
 @Cb.rec (λx=>Fq) (λx=>Fq) (vd G C) (ve G C) (vf G C) (vg G C) (vh G C) (vj G C) (vm G C) (vo G C) (λc x x=>jF G C c) (λAc ik a b x=>jG G C Ac ik a b) (λx x x x x x=>.C0) (vp G C)
  (λx x h=>.ok (.Ag .AV) h) (λx r h=>.ok (.B0 r) h) (λx x x=>.C0) (λx r h=>.ok (.B0 r) h) (λx x=>jH) s
end
def jI(_:Ga)(vs:List V)(h:A0):B9 V:=match vs with
 |[.O s i,.B c]=>.Dq (Ct s 80&&Ct i 0)<|.Dq (decide (0<c))<|match h 80 with
  |[.BC [_,(_,.B a)]]=>.I0 c λv=>.ok (.B v) (PF h 80 [.BC [(103,.O 79 0),(24,.B (a+1))]])|_=>.C0
 |_=>.C0
abbrev ah:=Nat->Option (Ga->List V->A0->B9 V)
def Ev(ov:ah)(G:Env)(d:Nat):VY:=Nat.rec (motive:=λx=>VY) (λx x x x=>.C0)
 (λd ih w f vs h=>Option.rec (motive:=λx=>B9 V)
  (.op (PC Qw f) λF=>.Dq (Ct (Mj vs) F.np)<|(EL G ih F.BL w (Qz (vs.map T.v) (E3 (F.ns-F.np) .AQ)) h).C2 λfl h'=>Fs.rec (motive:=λx=>B9 V) (λx=>.ok .AV h') (λv=>.ok v h') fl)
  (λt=>.Dq (Rt 10 d) (t w vs h)) (ov f)) d
theorem ao0:HA h .Ci t b=IB h t:=rfl
section
variable{AU:A0->Prop}
theorem CM{t:B9 α}{R:α->A0->Prop}(x:(t.C2 f).CD P)(m:∀a h,AU h->(f a h).CD P->R a h):t.CD λa h=>AU h->R a h:=
 B9.Sz (λa h q j=>m a h j q) t (B9.VV t x)
theorem Cg(x:(B9.op o k).CD P)(m:∀a,o=H a->(k a).CD P->R a):opt o R:=by
 cases o with
 |none=>exact EQ x|some a=>exact⟨a,rfl,m a rfl x⟩
theorem Ft(x:(F2 m t h).CD λt h=>AU h->Q t h)(j:AU h):Cp m Q t h:=by
 cases m with
 |false=>exact x j|true=>exact Cg x λa y x=>x j
theorem Vb(x:(T8 t k).CD P):∃i,t=.v (.B i)/\(k i).CD P:=by
 cases t with
 |v w=>cases w with
  |B i=>exact⟨i,rfl,x⟩|_=>exact EQ x
 |_=>exact EQ x
theorem ai(x:(V_ t k).CD P):∃i,t=.v (.Au i)/\(k i).CD P:=by
 cases t with
 |v w=>cases w with
  |Au i=>exact⟨i,rfl,x⟩|_=>exact EQ x
 |_=>exact EQ x
theorem agJ(x:(uw t k).CD P):∃i,t=.Al i/\(k i).CD P:=by
 cases t with
 |Al i=>exact⟨i,rfl,x⟩|_=>exact EQ x
theorem agK(x:(ux t k).CD P):∃i,t=.v (.A3 i)/\(k i).CD P:=by
 cases t with
 |v w=>cases w with
  |A3 i=>exact⟨i,rfl,x⟩|_=>exact EQ x
 |_=>exact EQ x
theorem vq(x:(jB t k).CD P):∃s i,t=.v (.O s i)/\(k s i).CD P:=by
 cases t with
 |v w=>cases w with
  |O s i=>exact⟨s,i,rfl,x⟩|_=>exact EQ x
 |_=>exact EQ x
structure Gs(B6 AU:A0->Prop)(w:Ga):Prop where
 DA:∀h s l,w s=U->AU h->AU (DA h s l)
 PG:∀h,AU h->B6 h
 I0:∀h l,AU h->B6 (Internal.DA h 80 l)->AU (Internal.DA h 80 l)
def R2(B6:A0->Prop)(C:VY)(D:Internal.Cl):Prop:=∀AU w,Gs B6 AU w->∀f vs h (Q:V->A0->Prop),AU h->(C w f vs h).CD (λr h'=>AU h'->Q r h')->D f vs h Q
theorem Gs.FS(k:Gs B6 AU w){h:A0}{s:Nat}{o:A_}(a:w s=U)(j:AU h):AU (R0 h s o):=by rw[T5];exact k.DA _ _ _ a j
theorem Gs.Ef(k:Gs B6 AU w){h:A0}{s i:Nat}{o:A_}(a:w s=U)(j:AU h):AU (Lg h s i o):=by rw[aW];exact k.DA _ _ _ a j
def T9(AU:A0->Prop)(ik:FG)(t:T)(h0:A0):A0->Prop:=λh=>AU h/\match ik,t with
 |.Ci,.v (.O s _)=>h s=h0 s|_,_=>True
theorem T9.BO(j:AU h):T9 AU ik t h h:=by
 refine⟨j,?_⟩;cases ik with
 |Ci=>cases t with
  |v x=>cases x with
   |O s i=>exact rfl|_=>exact trivial
  |_=>exact trivial
 |_=>exact trivial
theorem Gs.AX(k:Gs B6 AU w)(b:Va ik t=U):Gs B6 (T9 AU ik t h0) (af w ik t):=by
 unfold T9 af;unfold Va at b;cases ik with
 |Ci=>
  cases t with
  |v x=>
   cases x with
   |O s i=>
    dsimp only at b⊢;refine⟨λh s' l a j=>?_,λh j=>k.PG h j.1,λh l j q=>⟨k.I0 h l j.1 q,?_⟩⟩
    .cases e:Ct s' s with
     |true=>rw[e] at a;exact QI a|false=>
      rw[e] at a;refine⟨k.DA h s' l a j.1,?_⟩;unfold Internal.DA;rw[if_neg (FU (VX e))];exact j.2
    .have e:Ct s 80=A1:=by
      cases e:Ct s 80 with
      |true=>rw[e] at b;exact QI b|false=>rfl
     unfold Internal.DA;rw[if_neg (VX e)];exact j.2
   |_=>exact⟨λh s l a j=>⟨k.DA h s l a j.1,trivial⟩,λh j=>k.PG h j.1,λh l j q=>⟨k.I0 h l j.1 q,trivial⟩⟩
  |_=>exact⟨λh s l a j=>⟨k.DA h s l a j.1,trivial⟩,λh j=>k.PG h j.1,λh l j q=>⟨k.I0 h l j.1 q,trivial⟩⟩
 |_=>exact⟨λh s l a j=>⟨k.DA h s l a j.1,trivial⟩,λh j=>k.PG h j.1,λh l j q=>⟨k.I0 h l j.1 q,trivial⟩⟩
theorem T9.Gl(kb:Va ik t=U)(e:HA h0 ik t b=H l)(j:T9 AU ik t h0 h):Internal.Gl h ik t b l:=by
 cases ik with
 |DU=>exact trivial|H7=>exact trivial|Q3=>exact QI kb|Ci=>
  cases t with
  |v x=>
   cases x with
   |O s i=>
    have q:=j.2;show(match(h s)[i]? with|some (.A6 l)=>H l|_=>AB)=H l;rw[q];exact e
   |_=>exact e
  |_=>exact e
def CI(B6:A0->Prop)(G:Env)(D:Internal.Cl)(e:E)(x:CV):Prop:=∀AU w,Gs B6 AU w->∀m r h (Q:T->A0->Prop),(x w m r h).CD (λt h'=>AU h'->Q t h')->AU h->Az G D e m r h Q
structure Mk(B6:A0->Prop)(G:Env)(D:Internal.Cl)(l:Dg)(x:Jh):Prop where
 es:∀AU w,Gs B6 AU w->∀r h (Q:List V->A0->Prop),(x.es w r h).CD (λt h'=>AU h'->Q t h')->AU h->HB G D l r h Q
 ds:∀AU w,Gs B6 AU w->∀o r h (Q:A_->A0->Prop),(x.ds w AB o r h).CD (λt h'=>AU h'->Q t h')->AU h->JP G D l o r h Q
 vt:∀AU w,Gs B6 AU w->∀kv o r h (Q:A_->A0->Prop),(x.ds w (H kv) o r h).CD (λt h'=>AU h'->Q t h')->AU h->∃v es',l=.AR v es'/\Az G D v A1 r h λu h2=>opt u.Av λxv=>opt (Ef G.AM o kv xv) λo'=>JP G D es' o' r h2 Q
 bs:∀AU w,Gs B6 AU w->∀al m r h (Q:T->A0->Prop),(x.bs w al m r h).CD (λt h'=>AU h'->Q t h')->AU h->S3 G D al l m r h Q
 nil:x.AH=U->l=.AH
 AR:x.AH=A1->∃e r,l=.AR e r
theorem agL{elt con:CV}{vv:List T->A0->(T->A0->Prop)->Prop}{vz:List T->A0->(Bool->A0->Prop)->Prop}{Ac:List Nat}{aj:A0->Prop}
  (agM:∀r h Q,(elt w A1 r h).CD (λt h'=>AU h'->Q t h')->AU h->vv r h Q)
  (sc:∀r h Q,(con w U r h).CD (λt h'=>AU h'->match t with|.v (.Au b)=>Q b h'|_=>False)->AU h->vz r h Q)(so:∀h,AU h->aj h):
  ∀(l:List V) (r:List T) (h:A0) (acc:List V) (Q:List V->A0->Prop),(uy w elt con Ac l r h acc).CD (λt h'=>AU h'->Q t h')->AU h->QC vv vz Ac aj l r h acc Q:=by
 intro BE;induction BE with
 |nil=>
  rintro r h acc Q x j;exact⟨so h j,x j⟩
 |cons v l ih=>
  rintro r h acc Q x j;obtain⟨b,x⟩:=B9.DY x;refine⟨so h j,aa b,Cg x λr' z x=>sc _ _ _ (CM x λt h1 j1 x=>?_) j⟩;obtain⟨b,rfl,x⟩:=ai x;cases b with
  |true=>exact(if_pos rfl).mpr (agM _ _ _ (CM x λt h2 j2 x=>Cg x λy z x=>ih r h2 _ Q (by rw[<-VW];exact x) j2) j1)|false=>exact(if_neg rU).mpr (ih r h1 _ Q x j1)
end
theorem agN{c:V}:CI B6 G D (.AO c) (λy m y h=>F2 m (.v c) h):=λAU w Aq m r h Q x j=>Ft x j
theorem agO{c:V}:CI B6 G D (.AW i c) (λy m y h=>F2 m (.v c) h):=λAU w Aq m r h Q x j=>Ft x j
theorem agP:CI B6 G D (.Am i) (jC i):=λAU w Aq m r h Q x j=>by
 unfold jC at x;rw[aY] at x;show match BD r i with|.AQ=>False|t=>Cp m Q t h
 cases q:BD r i with
 |AQ=>rw[q] at x;exact x|v y=>rw[q] at x;exact Ft x j|Al y=>rw[q] at x;exact Ft x j|DT y=>rw[q] at x;exact Ft x j
theorem agQ(ho:CI B6 G D o F3):CI B6 G D (.AN o n) (uz F3 n):=λAU w Aq m r h Q x j=>
 ho AU w Aq _ _ _ _ (CM x λt h1 j1 x=>Cg x λa z x=>by rw[<-agA];exact Cg x λy z x=>Ft x j1) j
theorem agU(ho:CI B6 G D o F3)(hk:CI B6 G D k xk):CI B6 G D (.AE o k) (v5 G F3 xk):=λAU w Aq m r h Q x j=>
 ho AU w Aq _ _ _ _ (CM x λt h1 j1 x=>hk AU w Aq _ _ _ _ (CM x λt h1 j1 x=>Cg x λa z x=>Cg x λy z x=>Ft x j1) j1) j
theorem agV(ho:CI B6 G D o F3)(hk:CI B6 G D k xk):CI B6 G D (.IA o k) (v7 F3 xk):=λAU w Aq m r h Q x j=>
 ho AU w Aq _ _ _ _ (CM x λt h1 j1 x=>hk AU w Aq _ _ _ _ (CM x λt h1 j1 x=>Cg x λa z x=>Cg x λy z x=>Ft x j1) j1) j
theorem agW(sc:R2 B6 C D)(hs:Mk B6 G D es xs):CI B6 G D (.Ab f es) (v8 C f xs):=λAU w Aq m r h Q x j=>
 hs.es AU w Aq _ _ _ (CM x λt h1 j1 x=>sc AU w Aq _ _ _ _ j1 (CM x λt h2 j2 x=>Ft x j2)) j
theorem agX{c s:Nat}(sc:R2 B6 C D)(hs:Mk B6 G D es xs):CI B6 G D (.FS c s es) (v9 G C c s xs):=λAU w Aq m r h Q x j=>by
 obtain⟨o,x⟩:=B9.DY x;refine hs.es AU w Aq _ _ _ (CM x λt h1 j1 x=>?_) j;have HL:=Aq.FS (o:=.CK c []) o j1;cases q:G.NP c with
 |none=>
  rw[q] at x;cases t with
  |nil=>rw[T5,PE] at x;exact⟨rfl,Ft x (by rw[<-T5];exact HL)⟩|cons a b=>exact EQ x
 |some f=>
  rw[q] at x;rw[T5] at x HL;rw[PE] at x;refine sc AU w Aq _ _ _ _ HL (CM x λt h2 j2 x=>?_);cases t with
  |AV=>exact⟨rfl,Ft x j2⟩|_=>exact EQ x
theorem agY(sc:R2 B6 C D)(ho:CI B6 G D o F3)(hs:Mk B6 G D es xs):CI B6 G D (.EB o n es) (vA G C F3 n xs):=λAU w Aq m r h Q x j=>
 ho AU w Aq _ _ _ _ (CM x λt h1 j1 x=>Cg x λa z x=>Cg x λy z x=>hs.es AU w Aq _ _ _ (CM x λt h1 j1 x=>sc AU w Aq _ _ _ _ j1 (CM x λt h2 j2 x=>Ft x j2)) j1) j
theorem ag0(ho:CI B6 G D o F3):CI B6 G D (.Aj o) (vB F3):=λAU w Aq m r h Q x j=>ho AU w Aq _ _ _ _ (CM x λt h1 j1 x=>Cg x λa y x=>Ft x j1) j
theorem ag1(ho:CI B6 G D o F3):CI B6 G D (.FH o) (vC F3):=λAU w Aq m r h Q x j=>ho AU w Aq _ _ _ _ (CM x λt h1 j1 x=>Cg x λa y x=>Ft x j1) j
theorem ag2(ho:CI B6 G D o F3):CI B6 G D (.UN o) (vD F3):=λAU w Aq m r h Q x j=>ho AU w Aq _ _ _ _ (CM x λt h1 j1 x=>Cg x λa y x=>Ft x j1) j
theorem ag3(ho:CI B6 G D o F3):CI B6 G D (.An o) (vE F3):=λAU w Aq m r h Q x j=>ho AU w Aq _ _ _ _ (CM x λt h1 j1 x=>by
 obtain⟨i,rfl,x⟩:=Vb x;exact⟨(B9.DY x).1,Ft (B9.DY x).2 j1⟩) j
theorem ag4(ha:CI B6 G D a xa)(hb:CI B6 G D b xb):CI B6 G D (.Q4 a p b q) (vF G xa p xb q):=λAU w Aq m r h Q x j=>
 ha AU w Aq _ _ _ _ (CM x λt h1 j1 x=>Cg x λa z x=>Cg x λy z x=>⟨of_decide_eq_true (B9.DY x).1,hb AU w Aq _ _ _ _ (CM (B9.DY x).2 λt h1 j1 x=>by
  obtain⟨i,rfl,x⟩:=Vb x;exact⟨(B9.DY x).1,Ft (B9.DY x).2 j1⟩) j1⟩) j
theorem ag5(ho:CI B6 G D o F3)(hk:CI B6 G D k xk)(hd:CI B6 G D d Vc):CI B6 G D (.H8 o k d) (vG G F3 xk Vc):=λAU w Aq m r h Q x j=>
 ho AU w Aq _ _ _ _ (CM x λt h1 j1 x=>Cg x λa z x=>⟨(B9.DY x).1,hk AU w Aq _ _ _ _ (CM (B9.DY x).2 λt h1 j1 x=>Cg x λa z x=>hd AU w Aq _ _ _ _ (CM x λt h1 j1 x=>Cg x λa z x=>Cg x λy z x=>Ft x j1) j1) j1⟩) j
theorem ag6(ho:CI B6 G D o F3)(hk:CI B6 G D k xk):CI B6 G D (.Rv o k) (vH G F3 xk):=λAU w Aq m r h Q x j=>
 ho AU w Aq _ _ _ _ (CM x λt h1 j1 x=>Cg x λa z x=>⟨(B9.DY x).1,hk AU w Aq _ _ _ _ (CM (B9.DY x).2 λt h1 j1 x=>Cg x λa z x=>Cg x λy z x=>Ft x j1) j1⟩) j
theorem ag7(ha:CI B6 G D a xa)(hb:CI B6 G D b xb):CI B6 G D (.C9 op a b) (vI G op xa xb):=λAU w Aq m r h Q x j=>
 ha AU w Aq _ _ _ _ (CM x λt h1 j1 x=>hb AU w Aq _ _ _ _ (CM x λt h1 j1 x=>Cg x λa y x=>Ft x j1) j1) j
theorem ag8(ha:CI B6 G D a xa)(hb:CI B6 G D b xb):CI B6 G D (.AS op a b) (vJ op xa xb):=λAU w Aq m r h Q x j=>
 ha AU w Aq _ _ _ _ (CM x λt h1 j1 x=>Cg x λa z x=>hb AU w Aq _ _ _ _ (CM x λt h1 j1 x=>Cg x λa z x=>Cg x λy z x=>x j1) j1) j
theorem ag9(ho:CI B6 G D o F3):CI B6 G D (.LJ o) (vK F3):=λAU w Aq m r h Q x j=>ho AU w Aq _ _ _ _ (CM x λt h1 j1 x=>Cg x λa y x=>x j1) j
theorem aha(ho:CI B6 G D o F3):CI B6 G D (.MG o) (vL F3):=λAU w Aq m r h Q x j=>ho AU w Aq _ _ _ _ (CM x λt h1 j1 x=>Cg x λa y x=>x j1) j
theorem ahb(hk:CI B6 G D k xk)(hd:CI B6 G D d Vc):CI B6 G D (.A8 k d) (vM G xk Vc):=λAU w Aq m r h Q x j=>
 hk AU w Aq _ _ _ _ (CM x λt h1 j1 x=>Cg x λa z x=>hd AU w Aq _ _ _ _ (CM x λt h1 j1 x=>Cg x λa z x=>Cg x λy z x=>x j1) j1) j
theorem ahc(hk:CI B6 G D k xk)(hd:CI B6 G D d Vc):CI B6 G D (.LK k d) (vN G xk Vc):=λAU w Aq m r h Q x j=>
 hk AU w Aq _ _ _ _ (CM x λt h1 j1 x=>Cg x λa z x=>hd AU w Aq _ _ _ _ (CM x λt h1 j1 x=>Cg x λa z x=>Cg x λy z x=>x j1) j1) j
theorem ahd(ho:CI B6 G D o F3):CI B6 G D (.Q6 o) (vO G F3):=λAU w Aq m r h Q x j=>ho AU w Aq _ _ _ _ (CM x λt h1 j1 x=>by
 obtain⟨i,rfl,x⟩:=Vb x;exact x j1) j
theorem ahe(ho:CI B6 G D o F3):CI B6 G D (.NH o) (vP F3):=λAU w Aq m r h Q x j=>⟨(B9.DY x).1,ho AU w Aq _ _ _ _ (CM (B9.DY x).2 λt h1 j1 x=>by
 obtain⟨i,rfl,x⟩:=ai x;exact x j1) j⟩
theorem ahf(hc:CI B6 G D c xc)(ha:CI B6 G D a xa)(hb:CI B6 G D b xb):CI B6 G D (.Ay c a b) (vQ xc xa xb):=λAU w Aq m r h Q x j=>hc AU w Aq _ _ _ _ (CM x λt h1 j1 x=>by
 obtain⟨i,rfl,x⟩:=ai x;cases i with
 |true=>exact ha AU w Aq _ _ _ _ x j1|false=>exact hb AU w Aq _ _ _ _ x j1) j
theorem ahg(hs:Mk B6 G D es xs):CI B6 G D (.A3 es) (vR xs):=λAU w Aq m r h Q x j=>hs.es AU w Aq _ _ _ (CM x λt h1 j1 x=>Ft x j1) j
theorem ahh(hs:Mk B6 G D es xs):CI B6 G D (.A6 es) (vS xs):=λAU w Aq m r h Q x j=>hs.es AU w Aq _ _ _ (CM x λt h1 j1 x=>Ft x j1) j
theorem ahi(hs:Mk B6 G D es xs):CI B6 G D (.Dm kd s es) (vU kd s xs):=λAU w Aq m r h Q x j=>by obtain⟨o,x⟩:=B9.DY x;refine hs.ds AU w Aq _ _ _ _ (CM x λt h1 j1 x=>?_) j;have HL:=Aq.FS (o:=t) o j1;rw[T5] at x HL;rw[PE] at x;exact Ft x HL
theorem ahj(ho:CI B6 G D e TA):CI B6 G D (.CH s e) (vV s (H9 e) TA):=λAU w Aq m r h Q x j=>by
 cases m with
 |true=>exact EQ x|false=>
  obtain⟨o,x⟩:=B9.DY (b:=w s) x;obtain⟨f,x⟩:=B9.DY x;refine⟨rfl,f,ho AU w Aq _ _ _ _ (CM x λt h1 j1 x=>?_) j⟩;obtain⟨l,rfl,x⟩:=agJ x;have HL:=Aq.FS (o:=.A6 l) o j1;obtain⟨y,x⟩:=B9.DY x;rw[T5] at x HL;rw[PE] at x;exact⟨aa y,x HL⟩
theorem ahk(he:CI B6 G D e TA)(ha:CI B6 G D a xa)(hb:CI B6 G D b xb)(hc:CI B6 G D c xc):CI B6 G D (.Ez e Ac ik a b c) (vW TA Ac ik xa xb xc):=λAU w Aq m r h Q x j=>
 ha AU w Aq _ _ _ _ (CM x λt h1 j1 x=>hb AU w Aq _ _ _ _ (CM x λu h2 j2 x=>Cg x λbv y x=>Cg x λl il x=>by
  obtain⟨kb,x⟩:=B9.DY x;have ak:=Aq.AX (h0:=h2) kb;refine agL (λr h Q=>he _ _ ak _ _ _ _) (λr h Q x j=>hc _ _ ak _ _ _ _ x j) (λh j=>j.Gl kb il) l _ _ _ _ (CM x λt h3 HL x=>Ft x HL.1) (.BO j2)) j1) j
theorem ahl:Mk B6 G D .AH vX:=⟨λAU w Aq r h Q x j=>x j,λAU w Aq o r h Q x j=>x j,λAU w Aq kv o r h Q x j=>EQ x,λAU w Aq al m r h Q x j=>EQ x,λy=>rfl,λx=>QI x⟩
theorem ahm(he:CI B6 G D e TA)(hs:Mk B6 G D es xs):Mk B6 G D (.AR e es) (vY G TA xs) where
 es:=λAU w Aq r h Q x j=>he AU w Aq _ _ _ _ (CM x λt h1 j1 x=>Cg x λa z x=>hs.es AU w Aq _ _ _ (CM x λt h1 j1 x=>x j1) j1) j
 ds:=λAU w Aq o r h Q x j=>by
  obtain⟨n,x⟩:=B9.DY x;have n:xs.AH=A1:=by
   cases q:xs.AH with
   |false=>rfl|true=>rw[q] at n;exact QI n
  obtain⟨v,es',rfl⟩:=hs.AR n;refine he AU w Aq _ _ _ _ (CM x λt h1 j1 x=>Cg x λa z x=>?_) j;obtain⟨v2,e2,e3,y⟩:=hs.vt AU w Aq _ _ _ _ _ x j1;cases e3;exact y
 vt:=λAU w Aq kv o r h Q x j=>⟨e,es,rfl,he AU w Aq _ _ _ _ (CM x λt h1 j1 x=>Cg x λa z x=>Cg x λy z x=>hs.ds AU w Aq _ _ _ _ x j1) j⟩
 bs:=λAU w Aq al m r h Q x j=>by
  have x:(R1 _ _<|(TA w m r h).C2 λt h1=>.op _ λb=>R1 ..).CD _:=x;cases q:xs.AH with
  |true=>
   rw[q] at x;rw[hs.nil q];exact he AU w Aq _ _ _ _ x j
  |false=>
   rw[q] at x;obtain⟨e2,ao1,rfl⟩:=hs.AR q;refine he AU w Aq _ _ _ _ (CM x λt h1 j1 x=>Cg x λa z x=>?_) j;cases al<;>cases a
   .exact (if_pos rfl).mpr (hs.bs AU w Aq _ _ _ _ _ x j1)
   .exact (if_neg ()).mpr (x j1)
   .exact (if_neg ()).mpr (x j1)
   .exact (if_pos rfl).mpr (hs.bs AU w Aq _ _ _ _ _ x j1)
 nil:=λx=>QI x
 AR:=λz=>⟨e,es,rfl⟩
theorem II(sc:R2 B6 C D)(e:E):CI B6 G D e (Gb G C e):=
 @E.rec (λe=>CI B6 G D e (Gb G C e)) (λes=>Mk B6 G D es _)
  (λy=>agN) (λy=>agP) (λy y=>agO) (λy y=>agQ) (λy y=>agU) (λy y=>agV) (λy y=>agW sc) (λy y y=>agX sc) (λy y y=>agY sc) (λy=>ag0) (λy=>ag1) (λy=>ag2) (λy=>ag3) (λy y y y=>ag4)
  (λy y y y y y y y y x y=>EQ x) (λy y y y y y y y y x y=>EQ x) (λy y y=>ag5) (λy y=>ag6) (λy y y=>ag7) (λy y y=>ag8) (λy=>ag9) (λy=>aha) (λy y=>ahb) (λy y=>ahc) (λy=>ahd) (λal y hs AU w Aq m r h Q x j=>hs.bs AU w Aq al m r h Q x j)
  (λy=>ahe) (λy y y=>ahf) (λy=>ahg) (λy=>ahh) (λy y y=>ahi) (λy y=>ahj) (λy y y y y y=>ahk) (λy y y y y y y y y y x y=>EQ x) ahl (λy y=>ahm) e
def Vd(AU:A0->Prop)(Q:DB->List T->A0->Prop):Fs->A0->Prop:=λfl h=>AU h->Fs.rec (motive:=λx=>Prop) (λr'=>Q .B0 r' h) (λv=>∀r',Q (.Ag v) r' h) fl
theorem ahn
  (sb:∀r h Q,(body r h).CD (Vd AU Q)->AU h->wb r h Q)(so:∀h,AU h->aj h):
  ∀(l:List V) (r:List T) (h:A0),(v_ body Ac l r h).CD (Vd AU Q)->AU h->QD wb Ac aj Q l r h:=by
 intro BE;induction BE with
 |nil=>
  rintro r h x j;exact⟨so h j,x j⟩
 |cons v l ih=>
  rintro r h x j;refine⟨so h j,Cg x λr' y x=>sb _ _ _ (CM x λfl h1 j1 x=>?_) j⟩;cases fl with
  |B0 r2=>exact ih r2 h1 x j1|Ag v=>exact λr'=>x j1 r'
theorem aho(Aq:Gs B6 AU w){o x:V}{k:A0->B9 Fs}(j:AU h)(y:(vc w h o x k).CD P)(m:∀h,AU h->(k h).CD P->R h):J' h o x R:=by
 cases o with
 |O s n=>
  have y:(match PC (h s) n with|some (.A6 l)=>B9.Dq ..|_=>.C0).CD P:=y;rw[T3] at y;unfold J';dsimp only;cases q:(h s)[n]? with
  |none=>rw[q] at y;exact y|some a=>
   rw[q] at y;cases a with
   |A6 l=>
    obtain⟨o,y⟩:=B9.DY y;obtain⟨z,y⟩:=B9.DY y;have HL:=Aq.Ef (i:=n) (o:=.A6 (Qz l [x])) o j;rw[aW,VW] at y HL;exact⟨aa z,m _ HL y⟩
   |_=>exact EQ y
 |_=>exact EQ y
def JA(B6:A0->Prop)(G:Env)(D:Internal.Cl)(s:S)(x:Fq):Prop:=∀AU w,Gs B6 AU w->∀r h Q,(x w r h).CD (Vd AU Q)->AU h->Xe G D s r h Q
def R3(B6:A0->Prop)(G:Env)(D:Internal.Cl)(s:Cb)(x:Fq):Prop:=∀AU w,Gs B6 AU w->∀r h Q,(x w r h).CD (Vd AU Q)->AU h->Ae G D s r h Q
section
variable(sc:R2 B6 C D)
include sc
theorem w4{w:Ga}(Aq:Gs B6 AU w){h:A0}{o:V}{r:List T}{Q:DB->List T->A0->Prop}(x:(jD w h o (Gb G C e w A1 r h) r).CD (Vd AU Q))(j:AU h):
  Ep h o=U/\Az G D e A1 r h λu h2=>opt u.Av λx=>J' h2 o x λh3=>Q .B0 r h3:=
 ⟨(B9.DY x).1,II sc e AU w Aq _ _ _ _ (CM (B9.DY x).2 λt h1 j1 x=>Cg x λa y x=>aho Aq j1 x λh2 j2 x=>x j2) j⟩
theorem ahp:JA B6 G D (.Bl (.Am i) e) (jE G C i e):=λAU w Aq r h Q x j=>by
 unfold jE at x;rw[aY] at x;show(match BD r i with
   |.Al _=>Az G D e _ r h λu h2=>opt _ λx=>match BD r i with
    |.Al l=>I l<BU/\Q _ _ h2|_=>False
   |.v x0=>Ep h x0=U/\Az G D e _ r h λu h2=>opt _ λx=>J' h2 x0 x λh3=>Q _ r h3|_=>False)
 cases q:BD r i with
 |AQ=>rw[q] at x;exact x|DT y=>rw[q] at x;exact x|v y=>rw[q] at x;exact w4 sc Aq x j|Al y=>
  rw[q] at x;exact II sc e AU w Aq _ _ _ _ (CM x λt h1 j1 x=>Cg x λa z x=>⟨aa (B9.DY x).1,by rw[<-T6,<-VW];exact(B9.DY x).2 j1⟩) j
theorem ahq:(∀i,o≠.Am i)->JA B6 G D (.Bl o e) (vn G C o e):=λn AU w Aq r h Q x j=>by
 have:=II sc o AU w Aq _ _ _ _ (CM x λt h1 j1 x=>Cg x λa y x=>w4 sc Aq x j1) j;cases o with
 |Am i=>exact absurd rfl (n i)|_=>exact this
theorem ahr:JA B6 G D (.Bl o e) (vo G C o e):=by
 cases o with
 |Am i=>exact ahp sc|_=>exact ahq sc (λx e=>by cases e)
theorem ahs:JA B6 G D (.Ak i e) (vd G C i e):=λAU w Aq r h Q x j=>II sc e AU w Aq _ _ _ _ (CM x λt h1 j1 x=>by
 cases t with
 |v y=>show Q _ _ h1;rw[<-T6];exact x j1|Al l=>exact⟨(B9.DY x).1,by show Q _ _ h1;rw[<-T6];exact(B9.DY x).2 j1⟩|_=>exact EQ x) j
theorem aht:JA B6 G D (.OS i e) (ve G C i e):=λAU w Aq r h Q x j=>II sc e AU w Aq _ _ _ _ (CM x λt h1 j1 x=>Cg x λa y x=>by rw[<-T6];exact x j1) j
theorem ahu:JA B6 G D (.NI i e) (vf G C i e):=λAU w Aq r h Q x j=>II sc e AU w Aq _ _ _ _ (CM x λt h1 j1 x=>by
 obtain⟨l,rfl,x⟩:=agK x;exact Cg x λa y x=>x j1) j
theorem ahv:JA B6 G D (.B3 o n e) (vg G C o n e):=λAU w Aq r h Q x j=>II sc e AU w Aq _ _ _ _ (CM x λt h1 j1 x=>Cg x λa y x=>II sc o AU w Aq _ _ _ _ (CM x λu h2 j2 x=>by
 obtain⟨s,i,e,x⟩:=vq x;rw[T3] at x;rw[e];show Xd ..;cases q:(h2 s)[i]? with
 |none=>rw[q] at x;exact EQ x|some a=>
  rw[q] at x;cases a with
  |CK c l=>
   obtain⟨o,x⟩:=B9.DY x;obtain⟨p,x⟩:=B9.DY x;obtain⟨l1,x⟩:=B9.DY x;rw[PE] at l1;refine⟨p,PA.mp l1,?_⟩;rw[<-agz,<-aW];exact x (Aq.Ef o j2)
  |_=>exact EQ x) j1) j
theorem ahw:JA B6 G D (.Cv o k e) (vh G C o k e):=λAU w Aq r h Q x j=>II sc e AU w Aq _ _ _ _ (CM x λt h1 j1 x=>Cg x λa y x=>II sc o AU w Aq _ _ _ _ (CM x λu h2 j2 x=>II sc k AU w Aq _ _ _ _ (CM x λw h3 HL x=>Cg x λkv y x=>by
 obtain⟨s,i,e,x⟩:=vq x;obtain⟨o,x⟩:=B9.DY x;rw[T3] at x;rw[e];have jp:∀o',AU (Lg h3 s i o'):=λo'=>Aq.Ef o HL;have fin:∀o',Q _ r (Lg h3 s i o')->Q .B0 r _:=λo' q=>aW h3 s i o'▸q;show S5 _ _ kv a λo'=>Q _ r _;cases q:(h3 s)[i]? with
 |none=>rw[q] at x;exact EQ x|some a=>
  rw[q] at x;cases a with
  |A6 l=>
   cases kv with
   |B n=>
    obtain⟨p,x⟩:=B9.DY x;rw[Gq] at p;exact⟨of_decide_eq_true p.1,of_decide_eq_true p.2,fin _ (x (jp _))⟩
   |_=>exact EQ x
  |CK c l=>exact EQ x|_=>exact Cg x λa y x=>fin _ (x (jp _))) j2) j1) j
theorem ahx:JA B6 G D (.X_ i op e) (vj G C i op e):=λAU w Aq r h Q x j=>by
 obtain⟨n,q,x⟩:=Vb x;rw[aY] at q;show(match BD r i with
   |.v x=>Az G D e _ r h λt h1=>opt (match x,t with|.B a,.v (.B b)=>Jz _ op ..|_,_=>AB) λy=>Q _ _ h1|_=>False)
 rw[q];refine II sc e AU w Aq _ _ _ _ (CM x λt h1 j1 x=>?_) j;obtain⟨b,rfl,x⟩:=Vb x;exact Cg x λa z x=>by rw[<-T6];exact x j1
theorem ahy:JA B6 G D (.Gj e) (vm G C e):=λAU w Aq r h Q x j=>II sc e AU w Aq _ _ _ _ (CM x λt h1 j1 x=>Cg x λa y x=>x j1) j
theorem ahz(ha:R3 B6 G D sa xa)(hb:R3 B6 G D sb xb):JA B6 G D (.Ay c sa sb) (jF G C c xa xb):=λAU w Aq r h Q x j=>II sc c AU w Aq _ _ _ _ (CM x λt h1 j1 x=>by
 obtain⟨i,rfl,x⟩:=ai x;cases i with
 |true=>exact ha AU w Aq _ _ _ x j1|false=>exact hb AU w Aq _ _ _ x j1) j
theorem ahA(hb:R3 B6 G D body xb):JA B6 G D (.Cm Ac ik a b body) (jG G C Ac ik a b xb):=λAU w Aq r h Q x j=>
 II sc a AU w Aq _ _ _ _ (CM x λt h1 j1 x=>II sc b AU w Aq _ _ _ _ (CM x λu h2 j2 x=>Cg x λbv z x=>Cg x λl il x=>by
  obtain⟨f,x⟩:=B9.DY x;obtain⟨kb,x⟩:=B9.DY x;have ak:=Aq.AX (h0:=h2) kb;refine⟨λl' e=>by rw[e] at f;exact f,ahn (λr h Q=>hb _ _ ak r h Q) (λh j=>j.Gl kb il) l _ _ (B9.Sz (λfl h' y j'=>y j'.1) _ x) (.BO j2)⟩) j1) j
theorem ahB:JA B6 G D (.Ag e) (vp G C e):=λAU w Aq r h Q x j=>II sc e AU w Aq _ _ _ _ (CM x λt h1 j1 x=>Cg x λa y x=>x j1 _) j
omit sc
theorem ahC(hs:JA B6 G D s xs)(hr:R3 B6 G D rest ahD):R3 B6 G D (.AR s rest) (jH xs ahD):=λAU w Aq r h Q x j=>hs AU w Aq _ _ _ (CM x λfl h1 j1 x=>by
 cases fl with
 |B0 r2=>exact hr AU w Aq _ _ _ x j1|Ag v=>exact λr'=>x j1 r') j
theorem w5(sc:R2 B6 C D)(s:Cb):R3 B6 G D s (EL G C s):=
 @Cb.rec (λs=>JA B6 G D s (@S.rec (λy=>Fq) (λy=>Fq) _ _ _ _ _ _ _ _ (λc y y=>jF G C c) (λAc ik a b y=>jG G C Ac ik a b) (λy y y y y y=>.C0) _
  (λy y h=>.ok _ h) (λy r h=>.ok (.B0 r) h) (λy y y=>.C0) (λy r h=>.ok (.B0 r) h) (λy y=>jH) s)) (λs=>R3 B6 G D s (EL G C s))
  (λy y=>ahs sc) (λy y=>aht sc) (λy y=>ahu sc) (λy y y=>ahv sc) (λy y y=>ahw sc) (λy y y=>ahx sc) (λy=>ahy sc) (λy y=>ahr sc) (λy y y=>ahz sc) (λy y y y y=>ahA sc)
  (λy y y y y y y y y x y=>EQ x) (λy=>ahB sc) (λAU w Aq r h Q x j=>x j _) (λAU w Aq r h Q x j=>x j) (λAU w Aq r h Q x j=>EQ x) (λAU w Aq r h Q x j=>x j) (λy y=>ahC) s
def Ve(B6:A0->Prop)(ov:ah):Prop:=∀f t,ov f=H t->∀AU w,Gs B6 AU w->∀d vs h (Q:V->A0->Prop),AU h->(t w vs h).CD (λr h'=>AU h'->Q r h')->AL A5 (d+11) f vs h Q
theorem jJ(oo:Ve B6 ov):∀d,R2 B6 (Ev ov A5 d) (AL A5 d)
 |0=>λAU w Aq f vs h Q j x=>EQ x|d+1=>λAU w Aq f vs h Q j x=>by
  have x:(Option.rec (motive:=λy=>B9 V)
   (.op _ λF=>.Dq _<|(EL A5 (Ev ov A5 d) _ w _ h).C2 λfl h'=>Fs.rec (λy=>.ok .AV h') (λv=>.ok v h') fl)
   (λt=>.Dq ..) _).CD (λr h'=>AU h'->Q r h'):=x
  cases q:ov f with
  |some t=>
   rw[q] at x;obtain⟨n,x⟩:=B9.DY x;have n:=Nat.ble_eq.mp n;obtain⟨d',rfl⟩:∃d',d=d'+10:=⟨d-10,(Xj n).symm⟩;exact oo f t q AU w Aq d' vs h Q j x
  |none=>
   rw[q] at x;rw[T3] at x;refine⟨Q,λv h x=>x,?_⟩;show opt (Qw[f]?) _;refine Cg x λF y x=>?_;obtain⟨n,x⟩:=B9.DY x;rw[PE] at n;refine⟨HC n,?_⟩;rw[<-VW];refine w5 (jJ oo d) _ AU w Aq _ _ _ (B9.Sz (λfl h' x j'=>?_) _ (B9.VV _ x)) j;cases fl with
   |B0 r=>exact x j'|Ag v=>exact λr'=>x j'
end
@[simp] theorem ao2:Cp A1 Q t h=Q t h:=rfl
@[simp] theorem ao3:Cp U Q t h=opt (Hj h t) λb=>Q (.v (.Au b)) h:=rfl
@[simp] theorem ao4:(T.v x).Av=H x:=rfl
@[simp] theorem ao5:UQ e (.v x) P=P (.v x):=rfl
@[simp] theorem ao6:UQ e (.Al l) P=(H9 e=U/\P (.Al l)):=rfl
@[simp] theorem ao7(t:T)(r:List T):BD (t::r) 0=t:=rfl
@[simp] theorem ao8(t:T)(r:List T)(i:Nat):BD (t::r) (i+1)=BD r i:=rfl
@[simp] theorem ao9(t u:T)(r:List T):Cq (t::r) 0 u=u::r:=rfl
@[simp] theorem apa(t u:T)(r:List T)(i:Nat):Cq (t::r) (i+1) u=t::Cq r i u:=rfl
theorem R4(d f:Nat)(vs:List V)(h:A0)(Q:V->A0->Prop)(F:Fn)(e:A5.UO f=H F)(q:I vs=F.np/\Ae A5 (AL A5 d) F.BL (vs.map T.v++E3 (F.ns-F.np) .AQ) h λfl x h'=>Q fl.Av h'):AL A5 (d+1) f vs h Q:=⟨Q,λv h x=>x,F,e,q⟩
@[simp] theorem apb:DB.B0.Av=.AV:=rfl
@[simp] theorem apc(v:V):(DB.Ag v).Av=v:=rfl
@[simp] theorem GL(e:(h s)[i]?=H o):(Bf h s i o' s)[i]?=H o':=by unfold Bf DA;rw[if_pos rfl,LS (Dd.mp e).1]
theorem Ji:Bf h s i o s=(h s).set i o:=by unfold Bf DA;rw[if_pos rfl]
set_option tactic.hygienic true in
@[simp] theorem CZ(e:t≠s):Bf h s i o t=h t:=by unfold Bf DA;rw[if_neg e]
@[simp] theorem F4(e:t≠s):Bm h s o t=h t:=by unfold Bm DA;rw[if_neg e]
@[simp] theorem Vf:Bm h s o s=h s++[o]:=by unfold Bm DA;rw[if_pos rfl]
@[simp] theorem ao(l:List (Nat×V))(n:Nat)(v:V):Bw (CX l n v) n=H v:=by
 induction l with
 |nil=>exact if_pos rfl|cons a r ih=>
  rcases a with⟨a,y⟩;rw[OW];split
  .rename_i e;rw[OV,if_pos e]
  .rename_i e;rw[OV,if_neg e,ih]
set_option tactic.hygienic true in
@[simp] theorem GM{l:List (Nat×V)}{n k:Nat}{v:V}(h:n≠k):Bw (CX l k v) n=Bw l n:=by
 induction l with
 |nil=>exact if_neg (FU h)|cons a r ih=>
  rcases a with⟨a,y⟩;rw[OW];split
  .rename_i e;clear ih;subst e;rw[OV,OV,if_neg (FU h),if_neg (FU h)]
  .rw [OV,OV,ih]
theorem TF(e:(h s)[i]?=H (.CK c l)):LL h n (.O s i)=Bw l n:=congrArg (Xc n) e
@[simp] theorem apd:Hl tab h (.Al l) (.B k)=Be l k:=rfl
@[simp] theorem ape:Hl tab h (.v (.A3 l)) (.B k)=Be l k:=rfl
theorem F5(e:(h s)[i]?=H (.A6 l)):Hl tab h (.v (.O s i)) (.B k)=Be l k:=congrArg (Rz tab · _) e
theorem w6(o:Option V):(match H o with|some (H x)=>H x|_=>AB)=o:=by cases o<;>rfl
theorem jK(e:(h s)[i]?=H (.Ad l)):Hl tab h (.v (.O s i)) (.B k)=BP l k:=(congrArg (Rz tab · _) e).trans (w6 _)
theorem DI(e:(h s)[i]?=H (.BC l)):Hl tab h (.v (.O s i)) (.An k)=Bw l k:=(congrArg (Rz tab · _) e).trans (w6 _)
@[simp] theorem apf:Iz h .lt (.B a) (.B b)=H (decide (a<b)):=rfl
@[simp] theorem apg:Iz h .le (.B a) (.B b)=H (decide (a<=b)):=rfl
@[simp] theorem aph:Iz h .gt (.B a) (.B b)=H (decide (b<a)):=rfl
@[simp] theorem api:Iz h .ge (.B a) (.B b)=H (decide (b<=a)):=rfl
@[simp] theorem apj:Iz h .eq (.B a) (.B b)=H (decide (a=b)):=rfl
@[simp] theorem apk:Iz h .ne (.B a) (.B b)=H (!decide (a=b)):=rfl
@[simp] theorem apl:Iz h .eq (.An a) (.An b)=H (decide (a=b)):=rfl
@[simp] theorem apm:Hj h (.v (.Au b))=H b:=rfl
@[simp] theorem apn:Hj h (.v (.B k))=H (decide (k≠0)):=rfl
@[simp] theorem apo:Hj h (.v .AV)=H A1:=rfl
@[simp] theorem apq:Hj h (.Al l)=H (!l.isEmpty):=rfl
@[simp] theorem apr:OY h (.Al l)=H (I l):=rfl
@[simp] theorem aps:OY h (.v (.A3 l))=H (I l):=rfl
theorem IJ(e:(h s)[i]?=H (.A6 l)):OY h (.v (.O s i))=H (I l):=congrArg Xb e
@[simp] theorem apt:IB h (.Al l)=H l:=rfl
@[simp] theorem apu:IB h (.v (.A3 l))=H l:=rfl
theorem w7(e:(h s)[i]?=H (.A6 l)):IB h (.v (.O s i))=H l:=congrArg NK e
@[simp] theorem apv:HA h .Ci t b=IB h t:=rfl
@[simp] theorem ahE:HA h .DU (.v (.B b)) w=if Dr b&&decide (b<BU) then H (Ho 0 b) else AB:=rfl
@[simp] theorem ahF:HA h .H7 (.v (.B a)) (.B b)=if Dr a&&(Dr b&&decide (b<BU)) then H (Ho a b) else AB:=rfl
@[simp] theorem apw:Jz tab .Cu (.v (.B a)) (.v (.B b))=H (.v (.B (a+b))):=rfl
@[simp] theorem apx:Jz tab .AE (.v (.B a)) (.v (.B b))=H (.v (.B (a-b))):=rfl
@[simp] theorem apy:K0 .AV=U:=rfl
@[simp] theorem apz:K0 (.B k)=A1:=rfl
@[simp] theorem apA:K0 (.O s i)=A1:=rfl
@[simp] theorem apB:K0 (.A3 l)=A1:=rfl
@[simp] theorem apC:Gl h .DU t b l=True:=rfl
@[simp] theorem apD:Gl h .H7 t b l=True:=rfl
@[simp] theorem apE:Gl h .Ci t b l=(IB h t=H l):=rfl
theorem PI(e:E4 h d=H (.Ad l)):EG tab h d (.B k)=H (BP l k):=by unfold EG;rw[e];rfl
theorem ahG(e:E4 h d=H (.BC l)):EG tab h d (.An k)=H (Bw l k):=by unfold EG;rw[e];rfl
@[simp] theorem apF:E4 h (.O s i)=(h s)[i]?:=rfl
theorem Vg(e:(h s)[i]?=H (.Ad l)):K1 h (.O s i)=U:=by unfold K1;rw[show E4 h (.O s i)=_ from e];rfl
@[simp] theorem apG:A5.AM=Ld:=rfl
@[simp] theorem apH(c:Nat):A5.NP c=Sx c:=rfl
@[simp] theorem apI(c n:Nat):A5.MI c n=(VS c).contains n:=rfl
@[simp] theorem apJ:A5.S1=[20,9,10,11,12,13,14,15,16,17,18,19,1,4]:=rfl
def Cb.tk:Nat->Cb->Cb
 |0,_=>.AH|_+1,.AH=>.AH|n+1,.AR s r=>.AR s (r.tk n)
def Cb.dr:Nat->Cb->Cb
 |0,s=>s|_+1,.AH=>.AH|n+1,.AR _ r=>r.dr n
def ahH(K:List T->A0->Prop)(Q:DB->List T->A0->Prop):DB->List T->A0->Prop:=λfl r h=>match fl with
 |.B0=>K r h|.Ag v=>Q (.Ag v) r h
theorem w9:∀(n:Nat) (s:Cb) (r:List T) (h:A0),Ae G D s r h Q=Ae G D (s.tk n) r h (ahH (λr1 h1=>Ae G D (s.dr n) r1 h1 Q) Q)
 |0,s,r,h=>rfl|n+1,.AH,r,h=>rfl|n+1,.AR s rest,r,h=>by
  refine congrArg (Xe G D s r h) (funext λfl=>funext λr1=>funext λh1=>?_);cases fl with
  |B0=>exact w9 n rest r1 h1|Ag v=>rfl
def apK(w:Ga)(G:Env)(C:VY)(s:Cb)(fl:Fs)(h:A0):B9 Fs:=Fs.rec (motive:=λx=>B9 Fs) (λr1=>EL G C s w r1 h) (λv=>.ok (.Ag v) h) fl
def Ml:List Nat->List (List Int)
 |[]=>[[]]|b::bs=>(Ey b).flatMap λ(v:Nat)=>(Ml bs).map λds=>(Dl v)::ds
def B9.DF(l:List Nat)(t:B9 α):List Nat->List Int->Option (List Prop×α×List (List A_)):=B9.rec (motive:=λy=>List Nat->List Int->Option (List Prop×α×List (List A_))) (λy y=>AB)
 (λa h bs ds=>match bs,ds with|[],[]=>H ([],a,l.map h)|_,_=>AB)
 (λc y ih bs ds=>match bs,ds with|b::bs,v::ds=>Bool.rec (motive:=λy=>Option (List Prop×α×List (List A_))) AB (ih v bs ds) (decide (c=b))|_,_=>AB)
 (λy y y y=>AB) (λp y ih bs ds=>Option.rec (motive:=λy=>Option (List Prop×α×List (List A_))) AB (λx=>H (p::x.1,x.2)) (ih bs ds)) t
theorem Vh:∀{bs:List Nat},(bs.all λb=>Nj 0 b)=U->∃ds,ds∈Ml bs:=by
 intro BE;induction BE with
 |nil=>
  rintro _;exact⟨[],EK.mpr rfl⟩
 |cons b bs ih=>
  rintro x;rw[nY,Gq] at x;obtain⟨ds,m⟩:=ih x.2;exact⟨_,wA.mpr ⟨0,Xh.mpr (PA.mp x.1),Eh.mpr ⟨ds,m,rfl⟩⟩⟩
theorem wB{b:Nat}{v:Int}(h0:0<=v)(h1:v<b)(m:ds∈Ml bs):v::ds∈Ml (b::bs):=
 wA.mpr ⟨_,Xh.mpr (DM.mp (CB 1 AI A7 1 Aa A2 Cz A7 A4 [v,b,v.toNat] h1 (KY (Ax 1 AK A2 AK A2 A4 [v] h0)))),Eh.mpr ⟨ds,m,by rw[show Dl _=v from S6 h0]⟩⟩
abbrev wC{α:Type}(l:List Nat)(P:α->A0->Prop)(o:Option (List Prop×α×List (List A_))):Prop:=∃r,o=H r/\(∀p∈r.1,p)/\∀h,l.map h=r.2.2->P r.2.1 h
theorem B9.wD(t:B9 α)(bs:List Nat)(p:(bs.all λb=>Nj 0 b)=U)(x:∀ds∈Ml bs,wC l P (t.DF l bs ds)):t.CD P:=by
 induction t generalizing bs with
 |C0=>
  obtain⟨ds,m⟩:=Vh p;obtain⟨r,e,_⟩:=x ds m;exact nn e
 |aV k ih=>
  obtain⟨ds,m⟩:=Vh p;obtain⟨r,e,_⟩:=x ds m;exact nn e
 |VU q k ih=>
  have y:∀ds∈Ml bs,q/\wC l P (k.DF l bs ds):=λds m=>by
   obtain⟨r,e,n,z⟩:=x ds m;have e:Option.rec AB (λx=>H (q::x.1,x.2)) (k.DF l bs ds)=H r:=e;generalize k.DF l bs ds=o at e⊢;cases o with
   |none=>exact nn e|some r1=>
    obtain rfl:=BR e;exact⟨n _ D0,r1,rfl,λp hp=>n p (DV _ hp),z⟩
  obtain⟨ds,m⟩:=Vh p;exact⟨(y ds m).1,ih bs p λds m=>(y ds m).2⟩
 |ok a h=>
  obtain⟨ds,m⟩:=Vh p;obtain⟨r,e,n,q⟩:=x ds m;cases bs with
  |nil=>
   cases ds with
   |nil=>
    obtain rfl:=BR e;exact q h rfl
   |cons _ _=>exact nn e
  |cons _ _=>cases ds<;>exact nn e
 |I0 c k ih=>
  intro v h0 h1;cases bs with
  |nil=>
   obtain⟨r,e,_⟩:=x [] (EK.mpr rfl);exact nn e
  |cons b bs=>
   have p2:=EF.mp p;have ec:∀v ds,B9.DF l (.I0 c k) (b::bs) (v::ds)=Bool.rec AB ((k v).DF l bs ds) (decide (c=b)):=λu u=>rfl;have cb:decide (c=b)=U:=by
    obtain⟨ds,m⟩:=Vh p2.2;obtain⟨r,e,_⟩:=x (0::ds) (wB (ef 0) (by have:=PA.mp p2.1;exact Ax 1 (.a AK AF) A2 (.a AK AF) A2 A4 [b] (DM.mpr this)) m);rw[ec] at e;cases q:decide (c=b) with
    |true=>rfl|false=>rw[q] at e;exact nn e
   refine ih v bs p2.2 λds m=>?_
   have:=x (v::ds) (wB h0 (by rw[<-of_decide_eq_true cb];exact h1) m);rw[ec,cb] at this;exact this
def ES(h:A0)(l:List (Nat×List A_)):A0:=List.rec (motive:=λx=>A0) h (λp x ih=>PF ih p.1 p.2) l
def At(l:List (Nat×List A_))(h:A0):Prop:=∀p∈l,h p.1=p.2
set_option tactic.hygienic true in
theorem wE:∀{l:List (Nat×List A_)},At l h->ES h l=h:=by
 intro BE;induction BE with
 |nil=>
  rintro _;exact rfl
 |cons p l ih=>
  rintro x;show PF (ES h l) p.1 p.2=h;rw[ih λq m=>x q (DV _ m),T4];funext k;unfold DA;split
  .rename_i e;rw[e];exact(x p D0).symm
  .rfl
end
local macro_rules (kind := «term#[_,]»)
  | s => if s[1].getNumArgs == 0 then pure (ă (MB `tacticDecreasing_trivial #[Cd "decreasing_trivial"])) else Lean.Macro.throwUnsupported
local macro_rules (kind := tacticDecreasing_trivial)
  | s => let a := EA "assumption" #[Cd "assumption"]; pure (aoB [`Internal.Ar.AO, `Internal.Ar.AW, `Internal.Ar.AE, `Internal.Ar.AS, `Internal.I1.AR, `Internal.I1.AH, `Internal.Ar.A3, `Internal.Ar.C9, `Internal.Ar.Aj, `Internal.Ar.CF, `Internal.PJ.G8, `Internal.PJ.GG, `Internal.Ar.LJ, `Internal.Ar.MG, `Internal.Ar.AN] [X8 `Internal.Ar.Am #[I9 `rfl], EA "exact" #[Cd "exact", I9 `rfl], X8 `Eq.trans #[Px (I9 `Internal.b8) #[ă a], I9 `rfl], a])
section
open PySem
structure Ar(G:Env)(C:Internal.Cl)(e:E)(m:Bool)(r:List T)(h:A0)(t:T):Prop where
 go:∀Q:T->A0->Prop,Q t h->Az G C e m r h Q
structure I1(G:Env)(C:Internal.Cl)(es:Dg)(r:List T)(h:A0)(vs:List V):Prop where
 go:∀Q:List V->A0->Prop,Q vs h->HB G C es r h Q
structure PJ(G:Env)(C:Internal.Cl)(al:Bool)(es:Dg)(r:List T)(h:A0)(b:Bool):Prop where
 go:∀Q:T->A0->Prop,Q (.v (.Au b)) h->S3 G C al es U r h Q
def Fv(G:Env)(C:Internal.Cl)(rest:Cb)(F:DB->List T->A0->Prop):DB->List T->A0->Prop:=λfl r h=>@DB.rec (λx=>Prop) (Ae G C rest r h F) (λv=>F (.Ag v) r h) fl
section
variable{G:Env}{C:Internal.Cl}{h:A0}
theorem Ar.AO{c:V}:Ar G C (.AO c) A1 r h (.v c):=.mk λQ q=>q
theorem Ar.AW{c:V}:Ar G C (.AW i c) A1 r h (.v c):=.mk λQ q=>q
theorem Ar.Am(e:BD r i=.v x):Ar G C (.Am i) A1 r h (.v x):=.mk λQ q=>by
 show match BD r i with|.AQ=>False|t=>Cp _ Q t h
 rw[e];exact q
theorem Ar.AN(p:Ar G C o A1 r h (.v x))(e:LL h n x=H y):Ar G C (.AN o n) A1 r h (.v y):=.mk λQ q=>p.go _ ⟨_,rfl,_,e,q⟩
theorem Ar.AE(p:Ar G C o A1 r h t)(q:Ar G C k A1 r h (.v x))(e:Hl G.AM h t x=H y):Ar G C (.AE o k) A1 r h (.v y):=.mk λQ z=>p.go _ (q.go _ ⟨_,rfl,_,e,z⟩)
theorem Ar.PK{b:Bool}(p:Ar G C o A1 r h t)(q:Ar G C k A1 r h (.v x))(e:Hl G.AM h t x=H y)(f:Hj h (.v y)=H b):Ar G C (.AE o k) U r h (.v (.Au b)):=.mk λQ z=>p.go _ (q.go _ ⟨_,rfl,_,e,_,f,z⟩)
theorem Ar.Aj(p:Ar G C o A1 r h t)(e:OY h t=H n):Ar G C (.Aj o) A1 r h (.v (.B n)):=.mk λQ z=>p.go _ ⟨_,e,z⟩
theorem Ar.C9(p:Ar G C a A1 r h t)(q:Ar G C b A1 r h u)(e:Jz G.AM op t u=H v):Ar G C (.C9 op a b) A1 r h v:=.mk λQ z=>p.go _ (q.go _ ⟨_,e,z⟩)
theorem Ar.AS(p:Ar G C a A1 r h (.v x))(q:Ar G C b A1 r h (.v y))(e:Iz h op x y=H z):Ar G C (.AS op a b) m r h (.v (.Au z)):=.mk λQ w=>p.go _ ⟨_,rfl,q.go _ ⟨_,rfl,_,e,w⟩⟩
theorem Ar.LJ{b:Bool}(p:Ar G C e A1 r h (.v x))(f:K0 x=b):Ar G C (.LJ e) m r h (.v (.Au b)):=.mk λQ w=>p.go _ ⟨_,rfl,by subst f;exact w⟩
theorem Ar.MG{b:Bool}(p:Ar G C e A1 r h (.v x))(f:(!K0 x)=b):Ar G C (.MG e) m r h (.v (.Au b)):=.mk λQ w=>p.go _ ⟨_,rfl,by subst f;exact w⟩
theorem Ar.A8{b:Bool}(p:Ar G C k A1 r h (.v x))(q:Ar G C d A1 r h (.v y))(e:EG G.AM h y x=H z)(f:z.isSome=b):Ar G C (.A8 k d) m r h (.v (.Au b)):=.mk λQ w=>p.go _ ⟨_,rfl,q.go _ ⟨_,rfl,_,e,by subst f;exact w⟩⟩
theorem Ar.LK{b:Bool}(p:Ar G C k A1 r h (.v x))(q:Ar G C d A1 r h (.v y))(e:EG G.AM h y x=H z)(f:(!z.isSome)=b):Ar G C (.LK k d) m r h (.v (.Au b)):=.mk λQ w=>p.go _ ⟨_,rfl,q.go _ ⟨_,rfl,_,e,by subst f;exact w⟩⟩
theorem Ar.H8(p:Ar G C o A1 r h (.v x))(q:Ar G C k A1 r h (.v y))(s:Ar G C d A1 r h (.v z))(i:K1 h x=U)(e:EG G.AM h x y=H w):Ar G C (.H8 o k d) A1 r h (.v (w.getD z)):=.mk λQ v=>p.go _ ⟨_,rfl,i,q.go _ ⟨_,rfl,s.go _ ⟨_,rfl,_,e,v⟩⟩⟩
theorem Ar.TG(p:Ar G C c U r h (.v (.Au U)))(q:Ar G C a m r h t):Ar G C (.Ay c a b) m r h t:=.mk λQ v=>p.go _ (q.go _ v)
theorem Ar.PL(p:Ar G C c U r h (.v (.Au A1)))(q:Ar G C b m r h t):Ar G C (.Ay c a b) m r h t:=.mk λQ v=>p.go _ (q.go _ v)
theorem Ar.A3(p:I1 G C es r h vs):Ar G C (.A3 es) A1 r h (.v (.A3 vs)):=.mk λQ v=>p.go _ v
theorem Ar.A6(p:I1 G C es r h vs):Ar G C (.A6 es) A1 r h (.Al vs):=.mk λQ v=>p.go _ v
theorem Ar.CF{al b:Bool}(p:PJ G C al es r h b):Ar G C (.CF al es) U r h (.v (.Au b)):=.mk λQ v=>p.go _ v
theorem PJ.GG{al b:Bool}(p:Ar G C e U r h (.v (.Au b))):PJ G C al (.AR e .AH) r h b:=.mk λQ v=>p.go _ v
theorem PJ.G8{al b:Bool}(p:Ar G C e U r h (.v (.Au al)))(q:PJ G C al (.AR a es) r h b):PJ G C al (.AR e (.AR a es)) r h b:=.mk λQ v=>p.go _ ⟨_,rfl,(if_pos rfl).mpr (q.go _ v)⟩
theorem PJ.Nl{al b:Bool}(p:Ar G C e U r h (.v (.Au b)))(n:b=!al):PJ G C al (.AR e (.AR a es)) r h b:=.mk λQ v=>p.go _ ⟨_,rfl,(if_neg (by subst n;cases al<;>decide)).mpr v⟩
theorem I1.AH:I1 G C .AH r h []:=.mk λQ v=>v
theorem I1.AR(p:Ar G C e A1 r h (.v x))(q:I1 G C es r h vs):I1 G C (.AR e es) r h (x::vs):=.mk λQ v=>p.go _ ⟨_,rfl,q.go _ v⟩
theorem Ar.Ab(p:I1 G C es r h vs)(e:∀Q:V->A0->Prop,Q x h->C f vs h Q):Ar G C (.Ab f es) A1 r h (.v x):=.mk λQ q=>p.go _ (e _ q)
theorem Gd(k:F .B0 r h):Ae G C .AH r h F:=k
theorem As(k:Ae G C rest r h F):Ae G C .AH r h (Fv G C rest F):=k
theorem Ea(p:Ar G C e A1 r h (.v x))(k:Ae G C rest (Cq r i (.v x)) h F):Ae G C (.AR (.Ak i e) rest) r h F:=p.go _ k
theorem I2(p:I1 G C es r h vs)(k:C f vs h λx h'=>Ae G C rest (Cq r i (.v x)) h' F):Ae G C (.AR (.Ak i (.Ab f es)) rest) r h F:=p.go _ k
theorem wF(k:Ae G C rest (Cq r i (.v (.O s (I (h s))))) (Bm h s (Gk kd)) F):Ae G C (.AR (.Ak i (.Dm kd s .AH)) rest) r h F:=k
theorem aq(p:Ar G C e A1 r h (.Al l))(f:H9 e=U)(g:I l<BU)(k:Ae G C rest (Cq r i (.v (.O s (I (h s))))) (Bm h s (.A6 l)) F):Ae G C (.AR (.Ak i (.CH s e)) rest) r h F:=⟨rfl,f,p.go _ ⟨g,k⟩⟩
theorem ahI(p:Ar G C e A1 r h (.v (.A3 l)))(b:MH is l r=H r')(k:Ae G C rest r' h F):Ae G C (.AR (.NI is e) rest) r h F:=p.go _ ⟨_,b,k⟩
def au(G:Env)(C:Internal.Cl)(is:List Nat)(rest:Cb)(F:DB->List T->A0->Prop)(r:List T)(x:V)(h:A0):Prop:=match x with
 |.A3 l=>opt (MH is l r) λr'=>Ae G C rest r' h F|_=>False
theorem av(b:MH is l r=H r')(k:Ae G C rest r' h F):au G C is rest F r (.A3 l) h:=⟨_,b,k⟩
theorem ay(p:I1 G C es r h vs)(k:C f vs h (au G C is rest F r)):Ae G C (.AR (.NI is (.Ab f es)) rest) r h F:=
 p.go _ (by
 have e:(au G C is rest F r)=λx h1=>(match T.v x with|.v (.A3 l)=>opt (MH is l r) λr'=>Ae G C rest r' h1 F|_=>False):=funext λx=>funext λh1=>by cases x<;>rfl
 rw[e] at k;exact k)
theorem ET(p:Ar G C e A1 r h (.v x))(k:F (.Ag x) r h):Ae G C (.AR (.Ag e) rest) r h F:=p.go _ ⟨_,rfl,k⟩
theorem az(p:I1 G C es r h vs)(k:C f vs h λx h'=>F (.Ag x) r h'):Ae G C (.AR (.Ag (.Ab f es)) rest) r h F:=p.go _ (by
 show C f vs h λx h'=>opt (H x) λy=>F _ r h';simp only[Ť];exact k)
theorem DJ(p:Ar G C c U r h (.v (.Au U)))(k:Ae G C s1 r h (Fv G C rest F)):Ae G C (.AR (.Ay c s1 s2) rest) r h F:=p.go _ ((show(λfl r1 h1=>match fl with|.B0=>Ae G C rest r1 h1 F|.Ag v=>F (.Ag v) r1 h1)=Fv G C rest F from funext λfl=>by cases fl<;>rfl)▸k)
theorem BK(p:Ar G C c U r h (.v (.Au A1)))(k:Ae G C s2 r h (Fv G C rest F)):Ae G C (.AR (.Ay c s1 s2) rest) r h F:=p.go _ ((show(λfl r1 h1=>match fl with|.B0=>Ae G C rest r1 h1 F|.Ag v=>F (.Ag v) r1 h1)=Fv G C rest F from funext λfl=>by cases fl<;>rfl)▸k)
theorem Vi(p:Ar G C c U r h (.v (.Au z)))(k1:z=U->Ae G C s1 r h (Fv G C rest F))(k2:z=A1->Ae G C s2 r h (Fv G C rest F)):Ae G C (.AR (.Ay c s1 s2) rest) r h F:=by
 cases z with
 |true=>exact DJ p (k1 rfl)|false=>exact BK p (k2 rfl)
theorem Fw(p:Ar G C e m r h t)(k:Q t h):Az G C e m r h Q:=p.go Q k
theorem ahJ(p:I1 G C es r h vs)(k:TH vs h):HB G C es r h TH:=p.go TH k
theorem Ge(p:I1 G C es r h vs)(k:C f vs h λx h'=>Cp m Q (.v x) h'):Az G C (.Ab f es) m r h Q:=p.go _ k
theorem wG(k:HB G C es r h λvs h1=>C f vs h1 λx h2=>Cp m Q (.v x) h2):Az G C (.Ab f es) m r h Q:=k
theorem jL(k:HB G C es r h λvs h1=>Cp m Q (.v (.A3 vs)) h1):Az G C (.A3 es) m r h Q:=k
theorem wH(z:Az G C o A1 r h λt h1=>Az G C k A1 r h1 λu h2=>opt u.Av λkv=>opt (Hl G.AM h2 t kv) λy=>Cp m Q (.v y) h2):Az G C (.AE o k) m r h Q:=z
theorem Ii(k:Az G C e A1 r h λt h1=>opt t.Av λx=>HB G C es r h1 λvs h2=>TH (x::vs) h2):HB G C (.AR e es) r h TH:=k
theorem Vj(k:TH [] h):HB G C .AH r h TH:=k
theorem b3(k:Cp m Q (.v (.O s (I (h s)))) (Bm h s (Gk kd))):Az G C (.Dm kd s .AH) m r h Q:=k
theorem wI(k:Az G C a A1 r h λt h1=>opt t.Av λx=>Az G C b A1 r h1 λu h2=>opt u.Av λy=>opt (Iz h2 op x y) λz=>Q (.v (.Au z)) h2):Az G C (.AS op a b) m r h Q:=k
theorem ahK(p:Ar G C c U r h (.v (.Au U)))(k:Az G C a m r h Q):Az G C (.Ay c a b) m r h Q:=p.go _ k
theorem DG(k:P x):opt (T.v x).Av P:=⟨_,rfl,k⟩
theorem R5{o:Option α}{x:α}{P:α->Prop}(e:o=H x)(k:P x):opt o P:=⟨_,e,k⟩
theorem R6(k:Az G C e A1 r h λt h1=>opt t.Av λx=>F (.Ag x) r h1):Ae G C (.AR (.Ag e) rest) r h F:=k
theorem R7(k:Az G C e A1 r h λt h1=>UQ e t λt'=>Ae G C rest (Cq r i t') h1 F):Ae G C (.AR (.Ak i e) rest) r h F:=k
theorem b4(k:Az G C e A1 r h λt h1=>opt t.Av λx=>Ae G C rest r h1 F):Ae G C (.AR (.Gj e) rest) r h F:=k
theorem wJ(p:Ar G C (.AE o k) A1 r h (.v (.O s i)))(el:(h s)[i]?=H (.A6 l))(z:Az G C e A1 r h λu h2=>opt u.Av λx=>J' h2 (.O s i) x λh3=>Ae G C rest r h3 F):Ae G C (.AR (.Bl (.AE o k) e) rest) r h F:=
 p.go _ ⟨_,rfl,by simp only[Ep,E4,el],z⟩
theorem Vk(p:BD r j=.v (.O s i))(el:(h s)[i]?=H (.A6 l))(z:Az G C e A1 r h λu h2=>opt u.Av λx=>J' h2 (.O s i) x λh3=>Ae G C rest r h3 F):Ae G C (.AR (.Bl (.Am j) e) rest) r h F:=by
 show match BD r j with
   |.Al _=>_|.v x0=>Ep h x0=U/\Az G C e _ r h λu h2=>opt _ λx=>J' h2 x0 x λh3=>Ae G C rest r h3 F|_=>False
 rw[p];exact⟨by simp only[Ep,E4,el],z⟩
theorem R8(el:(h s)[i]?=H (.A6 l))(g:I l<BU)(k:P (Bf h s i (.A6 (l++[x])))):J' h (.O s i) x P:=by unfold J';simp only[el];exact⟨g,k⟩
theorem b5(z:Az G C e A1 r h λt h1=>opt t.Av λx=>Az G C o A1 r h1 λu h2=>Az G C k A1 r h2 λw h3=>opt w.Av λkv=>match u with
  |.v (.O s i)=>match(h3 s)[i]?,kv with
   |some (.A6 l),.B n=>0<=n/\n.toNat<I l/\Ae G C rest r (Bf h3 s i (.A6 (l.set n.toNat x))) F|some (.A6 _),_=>False|some o,kv=>opt (Ef G.AM o kv x) λo'=>Ae G C rest r (Bf h3 s i o') F|none,_=>False
  |_=>False):Ae G C (.AR (.Cv o k e) rest) r h F:=z
theorem Mm(R9:Ar G C e A1 r h (.v x))(po:Ar G C o A1 r h (.v (.O s i)))(pk:Ar G C k A1 r h (.v (.B f)))(el:(h s)[i]?=H (.Ad l))(g:I l<BU)(z:Ae G C rest r (Bf h s i (.Ad (Ba l f x))) F):
  Ae G C (.AR (.Cv o k e) rest) r h F:=R9.go _ ⟨_,rfl,po.go _ (pk.go _ ⟨_,rfl,(congrArg (S5 _ · _ x λo'=>Ae G C rest r (Bf h s i o') F) el).mpr (⟨_,if_pos g,z⟩)⟩)⟩
theorem Lh(R9:Ar G C e A1 r h (.v x))(po:Ar G C o A1 r h (.v (.O s i)))(pk:Ar G C k A1 r h (.v (.An f)))(el:(h s)[i]?=H (.BC l))(g:I l<BU)(z:Ae G C rest r (Bf h s i (.BC (CX l f x))) F):
  Ae G C (.AR (.Cv o k e) rest) r h F:=R9.go _ ⟨_,rfl,po.go _ (pk.go _ ⟨_,rfl,(congrArg (S5 _ · _ x λo'=>Ae G C rest r (Bf h s i o') F) el).mpr (⟨_,if_pos g,z⟩)⟩)⟩
def GN(G:Env)(C:Internal.Cl)(body:Cb)(Ac:List Nat)(ok:A0->Prop)(F:DB->List T->A0->Prop)(l:List V)(r:List T)(h:A0):Prop:=QD (λr' h' Q'=>Ae G C body r' h' Q') Ac ok F l r h
def jM(G:Env)(C:Internal.Cl)(body:Cb)(Ac:List Nat)(ok:A0->Prop)(F:DB->List T->A0->Prop)(l:List V):DB->List T->A0->Prop:=λfl r h=>@DB.rec (λx=>Prop) (GN G C body Ac ok F l r h) (λv=>F (.Ag v) r h) fl
theorem Nm(pa:Ar G C a A1 r h t)(pb:Ar G C b A1 r h (.v bv))(it:HA h ik t bv=H l)(fr:∀l',t=.Al l'->H9 a=U)
  (k:GN G C body Ac (λh'=>Gl h' ik t bv l) (Fv G C rest F) l r h):Ae G C (.AR (.Cm Ac ik a b body) rest) r h F:=pa.go _ (pb.go _ ⟨_,rfl,_,it,fr,(by
 have e:Fv G C rest F=λfl r1 h1=>(match fl with|.B0=>Ae G C rest r1 h1 F|.Ag v=>F (.Ag v) r1 h1):=funext λfl=>by cases fl<;>rfl
 rw[e] at k;exact k)⟩)
theorem Jj(o:ok h)(k:F .B0 r h):GN G C body Ac ok F [] r h:=⟨o,k⟩
theorem JB(o:ok h)(b:NO Ac x r=H r')(k:Ae G C body r' h (jM G C body Ac ok F l)):GN G C body Ac ok F (x::l) r h:=⟨o,_,b,by
 have e:jM G C body Ac ok F l=λfl r1 h1=>(match fl with|.B0=>GN G C body Ac ok F l r1 h1|.Ag v=>F (.Ag v) r1 h1):=funext λfl=>by cases fl<;>rfl
 rw[e] at k;exact k⟩
theorem b6(k:JP G C es (Gk kd) r h λo h1=>Cp m Q (.v (.O s (I (h1 s)))) (Bm h1 s o)):Az G C (.Dm kd s es) m r h Q:=k
theorem b7(k:P ob h):JP G C .AH ob r h P:=k
theorem KD(pa:Ar G C a A1 r h (.v x))(pb:Ar G C b A1 r h (.v y))(e:Ef G.AM ob x y=H o')(k:JP G C es o' r h P):JP G C (.AR a (.AR b es)) ob r h P:=pa.go _ ⟨_,rfl,pb.go _ ⟨_,rfl,_,e,k⟩⟩
theorem wK(g:I l<BU):Ef tab (.Ad l) (.B i) x=H (.Ad (Ba l i x)):=if_pos g
theorem Li(g:I l<BU):Ef tab (.BC l) (.An i) x=H (.BC (CX l i x)):=if_pos g
theorem ahL(pa:Ar G C e A1 r h (.v x))(pb:Ar G C b A1 r h (.v bv))(DN:E4 h x=H (.Ad l))(g:I l<64)
  (k:∀l':List Int,l'.Perm (l.map (·.1))->GN G C body Ac (λy=>True) (Fv G C rest F) (l'.map V.B) r h):Ae G C (.AR (.Cm Ac .Ci (.XY e) b body) rest) r h F:=by
 refine pa.go _ ⟨_,rfl,?_⟩;simp only[DN];refine⟨g,λl' p=>?_⟩;refine pb.go _ ⟨_,rfl,_,rfl,λy y=>rfl,?_⟩;have e:Fv G C rest F=λfl r1 h1=>(match fl with|.B0=>Ae G C rest r1 h1 F|.Ag v=>F (.Ag v) r1 h1):=funext λfl=>by cases fl<;>rfl
 have k:=k l' p;rw[e] at k;have st:(λh'=>Gl h' .Ci (.Al _) bv (l'.map λi=>V.B i))=λy=>True:=funext λh'=>eq_true rfl;rw[st];exact k
theorem Ar.cnt{c:Nat}(ei:BD r i=.v dv)(DX:NN h dv=H l)(ej:BD r j=.v x)(el:EG G.AM h x (.An n)=H (H y))(DN:E4 h y=H (.Ad l2))
  (ec:I (l.filter λk=>match k with|.B a=>(BP l2 a).isNone|_=>A1)=c):Ar G C (.Q7 i j n) A1 r h (.v (.B c)):=.mk λQ q=>by
 show match BD r i with
  |.v d=>opt (NN h d) λl=>match BD r j with
   |.v x=>opt _ λy=>opt y λy=>match E4 h y with
    |some (.Ad l2)=>Cp _ Q (.v (.B (I (l.filter λk=>match k with|.B a=>(BP l2 a).isNone|_=>A1)))) h|_=>False
   |_=>False
  |_=>False
 generalize BD r i=a at ei⊢;subst ei;generalize BD r j=b at ej⊢;subst ej;refine⟨_,DX,_,el,_,rfl,?_⟩;generalize E4 h y=o at DN⊢;subst DN;subst ec;exact q
def Lj(G:Env)(C:Internal.Cl)(c:E)(body:Cb)(F:DB->List T->A0->Prop)(n:Nat)(r:List T)(h:A0):Prop:=S4 (λr' h' Q'=>Az G C c U r' h' Q') (λr' h' Q'=>Ae G C body r' h' Q') F n r h
def wL(G:Env)(C:Internal.Cl)(c:E)(body:Cb)(F:DB->List T->A0->Prop)(n:Nat):DB->List T->A0->Prop:=λfl r2 h2=>@DB.rec (λx=>Prop) (Lj G C c body F n r2 h2) (λv=>F (.Ag v) r2 h2) fl
theorem wM(k:Lj G C c body (Fv G C rest F) n r h):Ae G C (.AR (.while c body) rest) r h F:=by
 have e:Fv G C rest F=λfl r1 h1=>(match fl with|.B0=>Ae G C rest r1 h1 F|.Ag v=>F (.Ag v) r1 h1):=funext λfl=>by cases fl<;>rfl
 rw[e] at k;exact⟨n,k⟩
theorem ahM(p:Ar G C c U r h (.v (.Au U)))(k:Ae G C body r h (wL G C c body F n)):Lj G C c body F (n+1) r h:=by
 have e:wL G C c body F n=λfl r2 h2=>(match fl with|.B0=>Lj G C c body F n r2 h2|.Ag v=>F (.Ag v) r2 h2):=funext λfl=>by cases fl<;>rfl
 rw[e] at k;exact p.go (λt h1=>match t with
  |.v (.Au U)=>Ae G C body r h1 λfl r2 h2=>(match fl with|.B0=>Lj G C c body F n r2 h2|.Ag v=>F _ r2 h2)|.v (.Au A1)=>F _ r h1|_=>False) k
theorem w_end(p:Ar G C c U r h (.v (.Au A1)))(k:F .B0 r h):Lj G C c body F (n+1) r h:=
 p.go (λt h1=>match t with
  |.v (.Au U)=>Ae G C body r h1 λfl r2 h2=>(match fl with|.B0=>Lj G C c body F n r2 h2|.Ag v=>F _ r2 h2)|.v (.Au A1)=>F _ r h1|_=>False) k
theorem ahN(p:Ar G C e A1 r h (.v (.Au U)))(k:Az G C a A1 r h Q):Az G C (.CF U (.AR e (.AR a .AH))) A1 r h Q:=p.go _ ⟨_,rfl,(if_pos rfl).mpr k⟩
theorem ahO{c:V}(o:ok h):∀(l acc:List V) (r:List T),I acc+I l<1000->P (acc++l.map λy=>c) h->
  QC (λr' h' Q'=>Az G C (.AO c) A1 r' h' Q') (λr' h' Q'=>Az G C (.AO (.Au U)) U r' h' λt h''=>match t with|.v (.Au b)=>Q' b h''|_=>False) [i] ok l r h acc P:=by
 intro l;induction l with
 |nil=>exact λacc r y k=>⟨o,by simpa using k⟩|cons x l ih=>
  intro acc r ln k;refine⟨o,BG 1 (.a (.a A2 BB) AF) (.k 1000) AI (.k 100000) A4 [I acc,I l] ln,_,rfl,?_⟩;refine⟨_,rfl,?_⟩;refine⟨_,rfl,ih _ _ (by simp at ln⊢;exact BG 1 (.a (.a A2 BB) AF) (.k 1000) (.a (.a AI A7) AF) (.k 1000) A4 [I acc,I l] ln) ?_⟩;rw[PM];exact k
theorem ahP(pa:Ar G C a A1 r h (.v x))(k:Az G C b A1 r h λu h2=>opt u.Av λxv=>opt (Ef G.AM ob x xv) λo'=>JP G C es o' r h2 P):JP G C (.AR a (.AR b es)) ob r h P:=pa.go _ ⟨_,rfl,k⟩
theorem ahQ{c:V}(pa:Ar G C a A1 r h (.v (.O st i')))(el:(h st)[i']?=H (.A6 l))(ln:I l<900)(k:Q (.v (.O s (I (h s)))) (Bm h s (.A6 (l.map λx=>c)))):
  Az G C (.CH s (.Ez (.AO c) [i] .Ci a (.AO .AV) (.AO (.Au U)))) A1 r h Q:=
 ⟨rfl,rfl,pa.go _ (Ar.AO.go _ ⟨_,rfl,l,congrArg NK el,ahO (congrArg NK el) l [] r (by simp;exact DC ln rfl) ⟨by simp;exact DC ln rfl,k⟩⟩)⟩
theorem wN(p:Ar G C e A1 r h (.Al l))(f:H9 e=U)(g:I l<BU)(k:Q (.v (.O s (I (h s)))) (Bm h s (.A6 l))):Az G C (.CH s e) A1 r h Q:=⟨rfl,f,p.go _ ⟨g,k⟩⟩
end
structure Nn where
 A8:Int
 F6:Int
 ct:Int
structure EM where
 F7:Int
 tk:Int
 E7:Int
 kd:V
 Ah:V
 BX:Int
def JC(c:Nn)(s:EM):List (Nat×V):=[(73,.O 82 0),(106,.O 86 0),(108,s.Ah),(110,.O 89 0),(109,.B s.BX),(122,.B 0),(68,.B c.A8),(94,.B c.F6),(70,.B c.ct),(104,s.kd),(105,.B s.F7),(18,.B s.tk),(107,.B s.E7)]
def HM(h:A0)(c:Nn)(s:EM):Prop:=h 85=[.BC (JC c s)]
def RA(h:A0)(kd:V)(K:Int->Option Int):Prop:=∃a l,kd=.O a 0/\(h a)[0]?=H (.Ad l)/\∀f,BP l f=(K f).map .B
def JD(n:Nat):List V:=.O 87 0::(Ey n).map λi=>.O 60 i
structure Vl(h:A0)(n:Nat):Prop where
 Gf:h 86=[.A6 (JD n)]
 len:I (h 60)=n
theorem b8(m:HM h c s):Hl tab h (.v (.O 85 0)) (.An k)=Bw (JC c s) k:=DI (congrArg (·[0]?) m)
theorem b9(m:HM h c s):(h 85)[0]?=H (.BC (JC c s)):=congrArg (·[0]?) m
theorem jN(t:Vl h n)(hi:0<i)(hn:i<=n):Hl tab h (.v (.O 86 0)) (.B i)=H (.O 60 (i-1)):=by rw[F5 (congrArg (·[0]?) t.Gf)];unfold Be;obtain⟨j,rfl⟩:∃j,i=j+1:=⟨i-1,(Fl (BG 1 A2 BB A2 BB A4 [i,i-1] (LN i 1)) (BG 1 AI A7 AI A7 A4 [i-1,i] (K3 (BG 1 (.a AK AF) A2 AF A2 A4 [i] hi))))⟩;rw[GY,Yg (BG 1 AI A7 AI A7 A4 [j,n] hn)];rfl
theorem ahR(k:RA h kd K)(e:K f=H v):K1 h kd=U/\EG tab h kd (.B f)=H (H (.B v)):=by obtain⟨a,l,rfl,e1,e2⟩:=k;exact⟨Vg e1,(PI (d:=.O a 0) e1).trans (by rw[e2,e];rfl)⟩
theorem FJ(e:A5.UO f=H F)(l:I vs=F.np)(Qc:vs.map T.v++E3 (F.ns-F.np) .AQ=fr)(k:Ae A5 (AL A5 d) F.BL fr h λfl x h'=>Q fl.Av h'):AL A5 (d+1) f vs h Q:=by subst Qc;exact⟨Q,λv h x=>x,F,e,l,k⟩
theorem ahS(q:Q v h):AL A5 (d+1) 75 [.O 85 0,.A3 [.B 1,k,v],this,BH] h Q:=by refine FJ rfl rfl rfl ?_;refine DJ #[] ?_;exact ET #[] q
theorem wO(m:HM h c s)(e:s.tk=t)(q:Q this h):AL A5 (d+1) 75 [.O 85 0,.A3 [.B 3,.B t],this,BH] h Q:=by subst e;refine FJ rfl rfl rfl ?_;refine BK #[] (As ?_);refine BK #[] (As ?_);refine DJ #[] ?_;refine BK (by decreasing_trivial;exact congrArg H (by simp)) (As ?_);exact ET #[] q
theorem jO(q:Q (.A3 [BH,lid]) h):AL A5 (d+1) 74 [.O 85 0,.A3 [.B 2,k,lid],this,BH] h Q:=by refine FJ rfl rfl rfl ?_;refine DJ #[] ?_;exact ET #[] q
theorem Vm(o:(h a)[b]?=H (.Ad l))(e:BP l lid=H (.B v))(q:Q (.B v) h):AL A5 (d+2) 75 [.O 85 0,.A3 [.B 2,.B k,.B lid],this,.O a b] h Q:=by refine FJ rfl rfl rfl ?_;refine BK #[] (As ?_);refine DJ (.CF (.G8 #[] #[])) ?_;refine ay #[] (jO (av rfl ?_));refine ET (Ar.H8 (w:=H _) #[] #[] #[] (Vg o) ((PI (d:=.O a b) o).trans (by rw[e]))) q
theorem RB:Iz h .ne (.B x) (.B x)=H A1:=by simp
theorem ahT:JD n++[.O 60 n]=JD (n+1):=by unfold JD;rw[List.range_succ,Gg];rfl
theorem wP(m:HM h c s)(kd:RA h s.kd K)(t:Vl h n)(e:K fid=H k)(o1:Be ob 1=H (.B s.F7))(hi:0<i)(hn:i<=n)
  (ho:∀Q:V->A0->Prop,Q (.B i) h->AL A5 d 75 [.O 85 0,.A3 ob,this,BH] h Q)(q:Q (.A3 [.O 60 (i-1),.B fid]) h):
  AL A5 (d+1) 74 [.O 85 0,.A3 [.B 4,.B k,.A3 ob,.A3 [.B s.F7,.B fid]],this,BH] h Q:=by
 obtain⟨k1,k2⟩:=ahR (tab:=A5.AM) kd e;refine FJ rfl rfl rfl ?_;refine BK #[] (As ?_);refine Ea #[] ?_;refine BK (.CF (.G8 (Ar.AS (y:=.B k) #[] (Ar.H8 #[] #[] #[] k1 k2) RB) (.G8 (Ar.AS #[] #[] RB) (.GG (Ar.AS #[] #[] RB))))) (As ?_);refine R6 (jL (Ii (wH (Fw #[] (Ge #[] (ho _ ?_))))));exact DG (R5 (jN t hi hn) (DG (ahJ #[] (DG q))))
theorem ahU(m:HM h c s)(kd:RA h s.kd K)(t:Vl h n)(e:K fid=H k)(o1:Be ob 1=H (.B s.F7))(hi:0<i)(hn:i<=n)
  (ho:∀Q:V->A0->Prop,Q (.B i) h->AL A5 d 75 [.O 85 0,.A3 ob,this,BH] h Q)(o:(h 60)[i-1]?=H (.Ad l))(el:(BP l fid).getD (.B 0)=.B v)(q:Q (.B v) h):
  AL A5 (d+2) 75 [.O 85 0,.A3 [.B 4,.B k,.A3 ob,.A3 [.B s.F7,.B fid]],this,BH] h Q:=by
 refine FJ rfl rfl rfl ?_;refine BK #[] (As ?_);refine DJ (.CF (.Nl #[] rfl)) ?_;refine ay #[] (wP m kd t e o1 hi hn ho (av rfl ?_));refine ET (Ar.H8 #[] #[] #[] (Vg o) (PI o)) ?_;rw[el];exact q
theorem wQ(m:HM h c s)(e:s.E7=k)(ho:∀Q:V->A0->Prop,Q x h->AL A5 d 75 [.O 85 0,.A3 ob,this,BH] h Q)(q:Q x h):
  AL A5 (d+1) 75 [.O 85 0,.A3 [.B 19,.B k,.A3 ob,.B 2,y],this,BH] h Q:=by
 subst e;refine FJ rfl rfl rfl ?_;refine BK #[] (As ?_);refine BK #[] (As ?_);refine BK #[] (As ?_);refine DJ #[] ?_;refine BK (.CF (.G8 (Ar.AS #[] #[] RB) (.GG #[]))) (As ?_);exact az #[] (ho _ q)
theorem ahV{x:V}(m:HM h c s)(t:Vl h n)(hn:n<1000)(q:Q (.B (n+1)) (Bf (Bm h 60 (.Ad [])) 86 0 (.A6 (JD (n+1))))):
  AL A5 (d+1) 75 [.O 85 0,.A3 [.B 9,.B s.F7,.A3 [.B s.F7,.B c.ct,.A3 []],.A3 []],this,BH] h Q:=by
 refine FJ rfl rfl rfl ?_;refine BK #[] (As ?_);refine BK #[] (As ?_);refine BK #[] (As ?_);refine BK #[] (As ?_);refine DJ #[] ?_;refine BK (.CF (.G8 (Ar.AS #[] #[] RB) (.G8 (Ar.AS #[] #[] ?_) (.GG #[])))) (As ?_)
 .show H (!(decide _&&(decide (c.ct=c.ct)&&(U&&U))))=H A1
  rw[decide_eq_true rfl,decide_eq_true rfl];rfl
 refine wJ #[] (congrArg (·[0]?) t.Gf) (b3 (DG (R8 (congrArg (·[0]?) t.Gf) (by unfold JD BU;simp;exact BG 1 AI (.k 1000) (.a AI AF) (.k 100000) A4 [n] hn) ?_)));rw[t.len,ahT];have o2:(Bf (Bm h 60 (.Ad [])) 86 0 _ 86)[0]?=H (.A6 (JD (n+1))):=GL (by rw[F4 (),t.Gf];rfl);refine ET (Ar.C9 (Ar.Aj #[] (IJ o2)) #[] ?_) q;unfold JD;simp
theorem ahW(ha:∀Q:V->A0->Prop,Q (.B x) h->AL A5 d 75 [.O 85 0,a,this,BH] h Q)(hb:∀Q:V->A0->Prop,Q (.B y) h->AL A5 d 75 [.O 85 0,b,this,BH] h Q)(q:Q (.B (x+y)) h):
  AL A5 (d+1) 75 [.O 85 0,.A3 [.B 14,.B k,.An 98,a,b,z],this,BH] h Q:=by
 refine FJ rfl rfl rfl ?_;refine BK #[] (As ?_);refine BK #[] (As ?_);refine BK #[] (As ?_);refine BK #[] (As ?_);refine BK #[] (As ?_);refine I2 #[] (ha _ ?_);refine I2 #[] (hb _ ?_);refine DJ #[] ?_;exact ET #[] q
theorem wR(ha:∀Q:V->A0->Prop,Q (.B x) h->AL A5 d 75 [.O 85 0,a,this,BH] h Q)(hb:∀Q:V->A0->Prop,Q (.B y) h->AL A5 d 75 [.O 85 0,b,this,BH] h Q)(q:Q (.B (if x<y then 1 else 0)) h):
  AL A5 (d+1) 75 [.O 85 0,.A3 [.B 14,.B k,.An 89,a,b,z],this,BH] h Q:=by
 refine FJ rfl rfl rfl ?_;refine BK #[] (As ?_);refine BK #[] (As ?_);refine BK #[] (As ?_);refine BK #[] (As ?_);refine BK #[] (As ?_);refine I2 #[] (ha _ ?_);refine I2 #[] (hb _ ?_);refine BK #[] (As ?_);refine DJ #[] ?_;by_cases l:x<y
 .rw [if_pos l] at q
  exact ET (.TG (Ar.AS #[] #[] (by simp[l])) .AO) q
 .rw [if_neg l] at q
  exact ET (.PL (Ar.AS #[] #[] (by simp[l])) .AO) q
theorem bA(ahX:o≠98)(ahY:o≠89)(ha:∀Q:V->A0->Prop,Q (.B x) h->AL A5 d 75 [.O 85 0,a,this,BH] h Q)(hb:∀Q:V->A0->Prop,Q (.B y) h->AL A5 d 75 [.O 85 0,b,this,BH] h Q)(q:Q (.B (if x=y then 1 else 0)) h):
  AL A5 (d+1) 75 [.O 85 0,.A3 [.B 14,.B k,.An o,a,b,z],this,BH] h Q:=by
 refine FJ rfl rfl rfl ?_;refine BK #[] (As ?_);refine BK #[] (As ?_);refine BK #[] (As ?_);refine BK #[] (As ?_);refine BK #[] (As ?_);refine I2 #[] (ha _ ?_);refine I2 #[] (hb _ ?_);refine BK (Ar.AS #[] #[] (by simp[ahX])) (As ?_);refine BK (Ar.AS #[] #[] (by simp[ahY])) (As ?_);by_cases l:x=y
 .rw [if_pos l] at q
  exact ET (.TG (Ar.AS #[] #[] (by simp[l])) .AO) q
 .rw [if_neg l] at q
  exact ET (.PL (Ar.AS (x:=.B x) (y:=.B y) #[] #[] (by simp[l])) .AO) q
abbrev Em(d f:Nat)(vs:List V)(h:A0)(x:V)(h2:A0):Prop:=∀Q:V->A0->Prop,Q x h2->AL A5 d f vs h Q
abbrev PN:V:=.A3 [.B 0,.B 0]
theorem jP(hc:Em d 74 [.O 85 0,goal,this,BH] h (.A3 [.O a b,.B key]) h)(hv:Em d 75 [.O 85 0,val,this,BH] h x h2)
  (o:(h2 a)[b]?=H (.Ad l))(g:I l<BU):Em (d+1) 76 [.O 85 0,.A3 [.B 22,k,goal,val],this,BH] h PN (Bf h2 a b (.Ad (Ba l key x))):=λQ q=>by
 refine FJ rfl rfl rfl ?_;refine DJ #[] ?_;refine ay #[] (hc _ (av rfl ?_));refine b5 (Ge #[] (hv _ (DG (Fw #[] (Fw #[] (DG ?_))))));simp only[o];refine⟨_,if_pos g,As ?_⟩;exact ET #[] q
theorem ah0(m:HM h c s)(e:s.Ah=.O a b)(o:(h a)[b]?=H (.A6 l))(g:I l<BU)(hv:Em d 75 [.O 85 0,ar,this,BH] h v h):
  Em (d+1) 76 [.O 85 0,.A3 [.B 8,k,ob,.A3 [AA,.B 1000,z1],.A3 (ar::as),z2],this,BH] h PN (Bf h a b (.A6 (l++[v]))):=λQ q=>by
 refine FJ rfl rfl rfl ?_;refine BK #[] ?_;refine DJ #[] ?_;refine wJ (Ar.AE #[] #[] ((b8 m).trans (by rw[<-e];rfl))) o ?_;refine Ge #[] (hv _ (DG (R8 o g ?_)));refine As (As ?_);exact ET #[] q
def FL:Cb:=match aH.BL with
 |.AR _ (.AR _ (.AR (.while _ b) _))=>b|_=>.AH
def jQ:E:=match aH.BL with
 |.AR _ (.AR _ (.AR (.while c _) _))=>c|_=>.Am 0
def wU:Cb:=aH.BL.dr 3
abbrev EN(laid this BH rows marks:V)(at_:Int)(Cn C6 BF Bj:T):List T:=[.v (.O 85 0),.v laid,.v this,.v BH,.v rows,.v marks,.v (.B at_),Cn,C6,BF,Bj]
def No(d n:Nat)(r:List T)(h:A0)(F:DB->List T->A0->Prop):Prop:=S4 (λr' h' Q'=>Az A5 (AL A5 d) jQ U r' h' Q') (λr' h' Q'=>Ae A5 (AL A5 d) FL r' h' Q') F n r h
def F_(d n:Nat)(F:DB->List T->A0->Prop):DB->List T->A0->Prop:=λfl r2 h2=>@DB.rec (λx=>Prop) (No d n r2 h2 F) (λv=>F (.Ag v) r2 h2) fl
def C7(h:A0)(c:Nn)(s:EM):A0:=DA h 85 [.BC (JC c s)]
def EM.Bb(s:EM):EM:={s with BX:=s.BX-1}
theorem jR:HM (C7 h c s) c s:=rfl
theorem jS(m:HM h c s):Bf h 85 0 (.BC (JC c s2))=C7 h c s2:=by unfold Bf C7;rw[m];rfl
theorem FM(e:k≠85):C7 h c s k=h k:=if_neg e
theorem ah1(p:Ar A5 (AL A5 d) jQ U [.v (.O 85 0),.v laid,.v this,.v BH,.v rows,.v marks,.v (.B at_),Cn,C6,BF,Bj] h (.v (.Au U)))(k:Ae A5 (AL A5 d) FL (EN laid this BH rows marks at_ Cn C6 BF Bj) h (F_ d n F)):No d (n+1) (EN laid this BH rows marks at_ Cn C6 BF Bj) h F:=by
 exact p.go (λt h1=>match t with
  |.v (.Au U)=>Ae A5 _ _ _ h1 λfl r2 h2=>(match fl with|.B0=>No d n r2 h2 F|.Ag v=>F (.Ag v) r2 h2)|.v (.Au A1)=>F _ _ h1|_=>False) k
theorem ah2(p:Ar A5 (AL A5 d) jQ U [.v (.O 85 0),.v laid,.v this,.v BH,.v rows,.v marks,.v (.B at_),Cn,C6,BF,Bj] h (.v (.Au A1)))(k:F .B0 (EN laid this BH rows marks at_ Cn C6 BF Bj) h):No d (n+1) (EN laid this BH rows marks at_ Cn C6 BF Bj) h F:=
 p.go (λt h1=>match t with
  |.v (.Au U)=>Ae A5 _ _ _ h1 λfl r2 h2=>(match fl with|.B0=>No d n r2 h2 F|.Ag v=>F (.Ag v) r2 h2)|.v (.Au A1)=>F _ _ h1|_=>False) k
theorem ah3(m:HM h c s)(Bx:rows=.O a b)(ab:a≠85)(el:(h a)[b]?=H (.A6 L))(e0:0<=at_)(e1:Be L at_=H R)(B8:1<=s.BX)
  (k:Ae A5 (AL A5 d) (FL.dr 5) [.v (.O 85 0),.v laid,.v this,.v BH,.v rows,.v marks,.v (.B (at_+1)),.v R,.v PN,BF,Bj] (C7 h c s.Bb) (F_ d n F)):
  No d (n+1) (EN laid this BH rows marks at_ Cn C6 BF Bj) h F:=by
 have lt:at_<I L:=by
  unfold Be at e1;rw[if_pos e0] at e1
  have:=(Dd.mp e1).1;exact CB 1 AI A7 1 Aa A2 Cz A7 A4 [at_.toNat,I L,at_] (DM.mpr this) (Np (at_))
 subst Bx;refine ah1 (.AS #[] (.Aj #[] (IJ el)) (by simp[lt])) ?_;refine Lh (.C9 #[] #[] rfl) #[] #[] (b9 m) (show(13)<BU by decide) ?_;rw[show CX _ 109 (.B (s.BX-1))=JC c s.Bb from rfl,jS m];refine BK (.AS (x:=.B (s.BX-1)) #[] #[] (by simp;assumption)) (As ?_);refine Ea (.AE #[] #[] ((F5 (by rw[FM ab];exact el)).trans e1)) ?_;refine Ea (.C9 #[] #[] rfl) ?_;refine Ea (x:=PN) #[] ?_;exact k
theorem PO(k:∀Cn C6 BF Bj,No d n (EN laid this BH rows marks at_ Cn C6 BF Bj) h F):Ae A5 (AL A5 d) (FL.dr 6) (EN laid this BH rows marks at_ Cn (.v (.A3 [.B 0,b])) BF Bj) h (F_ d n F):=by refine BK (.CF (.Nl #[] rfl)) ?_;refine BK (.PK #[] #[] rfl rfl) (As (As (Gd ?_)));exact k ..
theorem jT(Bx:marks=.O a b)(el:(h a)[b]?=H (.Ad ah4))(e:BP ah4 CC=H (.B tgt))(k:∀Cn C6 BF Bj,No d n (EN laid this BH rows marks tgt Cn C6 BF Bj) h F):Ae A5 (AL A5 d) (FL.dr 6) (EN laid this BH rows marks at_ Cn (.v (.A3 [.B 1,.B CC])) BF Bj) h (F_ d n F):=by subst Bx;refine DJ (.CF (.G8 #[] (.GG (.A8 #[] #[] ((PI (d:=.O a b) el).trans (by rw[e])) rfl)))) ?_;refine Ea (.AE #[] #[] ((jK el).trans e)) (As (Gd ?_));exact k ..
theorem bB(hx:2<=x)(k:F (.Ag (.A3 [.B x,b])) (EN laid this BH rows marks at_ Cn (.v (.A3 [.B x,b])) BF Bj) h):Ae A5 (AL A5 d) (FL.dr 6) (EN laid this BH rows marks at_ Cn (.v (.A3 [.B x,b])) BF Bj) h (F_ d n F):=by refine BK (.CF (.Nl (.AS #[] #[] (by simp;exact λEu=>QH (CB 1 (.k 2) A2 1 A2 AF AF AK A4 [x] hx (Eg Eu)))) rfl)) ?_;refine DJ (.PK #[] #[] rfl (by simp;exact λEu=>QH (CB 1 (.k 2) A2 1 A2 AK AF AK A4 [x] hx (Eg Eu)))) ?_;exact ET #[] k
theorem bC(hr:Em d 76 [.O 85 0,e,this,BH] h (.A3 [.B a,b]) h2)
  (k:Ae A5 (AL A5 d) (FL.dr 6) (EN laid this BH rows marks at_ (.v (.A3 [.B 1,e])) (.v (.A3 [.B a,b])) BF Bj) h2 (F_ d n F)):
  Ae A5 (AL A5 d) (FL.dr 5) (EN laid this BH rows marks at_ (.v (.A3 [.B 1,e])) C6 BF Bj) h (F_ d n F):=by
 refine DJ #[] ?_;exact I2 #[] (hr _ (As k))
theorem ah5(k:Ae A5 (AL A5 d) (FL.dr 6) (EN laid this BH rows marks at_ (.v (.A3 [.B 21,.B CC])) (.v (.A3 [.B 1,.B CC])) BF Bj) h (F_ d n F)):
  Ae A5 (AL A5 d) (FL.dr 5) (EN laid this BH rows marks at_ (.v (.A3 [.B 21,.B CC])) C6 BF Bj) h (F_ d n F):=by
 refine BK #[] ?_;refine DJ #[] ?_;exact Ea #[] (As (As k))
theorem ah6(k:Ae A5 (AL A5 d) (FL.dr 6) (EN laid this BH rows marks at_ (.v (.A3 [.B 20,CC])) C6 BF Bj) h (F_ d n F)):
  Ae A5 (AL A5 d) (FL.dr 5) (EN laid this BH rows marks at_ (.v (.A3 [.B 20,CC])) C6 BF Bj) h (F_ d n F):=by
 refine BK #[] ?_;refine BK #[] ?_;refine BK #[] ?_;refine BK #[] ?_;refine BK #[] ?_;refine BK #[] ?_;refine BK (.CF (.Nl #[] rfl)) ?_;refine BK #[] ?_;assumption
theorem ah7(hv:Em d 75 [.O 85 0,e,this,BH] h (.B x) h)
  (Vn:x=y->Ae A5 (AL A5 d) (FL.dr 6) (EN laid this BH rows marks at_ (.v (.A3 [.B 22,e,.B y,CC])) (.v (.A3 [.B 1,CC])) BF Bj) h (F_ d n F))
  (Mn:x≠y->Ae A5 (AL A5 d) (FL.dr 6) (EN laid this BH rows marks at_ (.v (.A3 [.B 22,e,.B y,CC])) C6 BF Bj) h (F_ d n F)):
  Ae A5 (AL A5 d) (FL.dr 5) (EN laid this BH rows marks at_ (.v (.A3 [.B 22,e,.B y,CC])) C6 BF Bj) h (F_ d n F):=by
 refine BK #[] ?_;refine BK #[] ?_;refine DJ #[] ?_;refine Vi (.AS (.Ab #[] hv) #[] rfl) (λq=>?_) (λq=>?_)
 .exact Ea #[] (As (As (As (As (Vn (of_decide_eq_true q))))))
 .exact As (As (As (As (Mn (of_decide_eq_false q)))))
theorem ah8(hv:Em d 75 [.O 85 0,e,this,BH] h (.B x) h)
  (Vn:∀CC BF,Be Ac x=H CC->Ae A5 (AL A5 d) (FL.dr 6) (EN laid this BH rows marks at_ (.v (.A3 [.B 23,e,.A3 Ac])) (.v (.A3 [.B 1,CC])) BF Bj) h (F_ d n F))
  (Mn:∀BF,Be Ac x=AB->Ae A5 (AL A5 d) (FL.dr 6) (EN laid this BH rows marks at_ (.v (.A3 [.B 23,e,.A3 Ac])) C6 BF Bj) h (F_ d n F)):
  Ae A5 (AL A5 d) (FL.dr 5) (EN laid this BH rows marks at_ (.v (.A3 [.B 23,e,.A3 Ac])) C6 BF Bj) h (F_ d n F):=by
 refine BK #[] ?_;refine BK #[] ?_;refine BK #[] ?_;refine DJ #[] ?_;refine I2 #[] (hv _ ?_);by_cases h0:0<=x
 .by_cases h1:x<I Ac
  .have e1:Be Ac x=H (Ac[x.toNat]'(DM.mp (CB 1 AI A7 1 Aa A2 Cz A7 A4 [x,I Ac,x.toNat] h1 (KY (Ax 1 AK A2 AK A2 A4 [x] h0))))):=by unfold Be;rw[if_pos h0];exact DP _
   refine DJ (.CF (.G8 (.AS (x:=.B 0) (y:=.B x) #[] #[] (by simp[h0])) (.GG (.AS (x:=.B x) #[] #[] (by simp[h1]))))) ?_;exact Ea (.A3 (.AR #[] (.AR (.AE (t:=.v (.A3 Ac)) (x:=.B x) #[] #[] e1) .AH))) (As (As (As (As (As (Vn _ _ e1))))))
  .refine BK (.CF (.G8 (.AS (x:=.B 0) (y:=.B x) #[] #[] (by simp[h0])) (.GG (.AS (x:=.B x) #[] #[] (by simp[h1]))))) ?_
   refine As (As (As (As (As (Mn _ ?_)))));unfold Be;rw[if_pos h0];exact SA (DM.mp (CB 1 A2 A7 1 Aa A2 Aa A7 A4 [x,x.toNat,I Ac] (Np (x)) (Ie.mp h1)))
 .refine BK (.CF (.Nl (.AS (x:=.B 0) (y:=.B x) #[] #[] (by simp[h0])) rfl)) ?_
  refine As (As (As (As (As (Mn _ ?_)))));unfold Be;rw[if_neg h0]
theorem ah9(k:Ae A5 (AL A5 d) (FL.dr 6) (EN laid this BH rows marks at_ (.v (.A3 [.B 12,.AV])) (.v (.A3 [.B 2,.B 0])) BF Bj) h (F_ d n F)):
  Ae A5 (AL A5 d) (FL.dr 5) (EN laid this BH rows marks at_ (.v (.A3 [.B 12,.AV])) C6 BF Bj) h (F_ d n F):=by
 refine BK #[] ?_;refine BK #[] ?_;refine BK #[] ?_;refine BK #[] ?_;refine DJ #[] ?_;exact Ea (.A3 (.AR .AO (.AR (.TG #[] .AO) .AH))) (As (As (As (As (As k)))))
theorem aia(hv:Em d 75 [.O 85 0,.A3 es,this,BH] h x h)(k:Ae A5 (AL A5 d) (FL.dr 6) (EN laid this BH rows marks at_ (.v (.A3 [.B 12,.A3 es])) (.v (.A3 [.B 2,x])) BF Bj) h (F_ d n F)):
  Ae A5 (AL A5 d) (FL.dr 5) (EN laid this BH rows marks at_ (.v (.A3 [.B 12,.A3 es])) C6 BF Bj) h (F_ d n F):=by
 refine BK #[] ?_;refine BK #[] ?_;refine BK #[] ?_;refine BK #[] ?_;refine DJ #[] ?_;exact Ea (.A3 (.AR .AO (.AR (.PL #[] (.Ab #[] hv)) .AH))) (As (As (As (As (As k)))))
theorem aib(hv:Em d 75 [.O 85 0,e,this,BH] h x h)(k:Ae A5 (AL A5 d) (FL.dr 6) (EN laid this BH rows marks at_ (.v (.A3 [.B 13,e])) (.v (.A3 [.B 3,x])) BF Bj) h (F_ d n F)):
  Ae A5 (AL A5 d) (FL.dr 5) (EN laid this BH rows marks at_ (.v (.A3 [.B 13,e])) C6 BF Bj) h (F_ d n F):=by
 refine BK #[] ?_;refine BK #[] ?_;refine BK #[] ?_;refine BK #[] ?_;refine BK #[] ?_;refine DJ #[] ?_;exact Ea (.A3 (.AR .AO (.AR (.Ab #[] hv) .AH))) (As (As (As (As (As (As k))))))
inductive RC(P:Nat->V->Prop):Nat->List V->Prop
 |nil:RC P 0 []|AR {c1 c2:Nat} {s:V} {l:List V}:P c1 s->RC P c2 l->RC P (c1+c2) (s::l)
inductive PR(P:Nat->V->Prop):Nat->V->Prop
 |DF {k:Int} {l:List V}:k≠3->k≠14->(k=20->∃CC,l=[.B CC])->PR P 1 (.A3 (.B k::l))|Lk {c:Nat} {l:List V} {z:V}:RC P c l->PR P c (.A3 [.B 3,.A3 l,z])|Mp {c1 c2:Nat} {a b:List V}:P c1 (.A3 a)->P c2 (.A3 b)->c1<1000->c2<1000->PR P 1 (.A3 [.B 14,.A3 a,.A3 [],.A3 b])
def Vo(n:Nat):Nat->V->Prop:=Nat.rec (PR λx x=>False) (λx P=>PR P) n
def Vp(v:V):Option (Int×List V):=match v with|.A3 (.B m::l)=>H (m,l)|_=>AB
def aic(l:List V):Option Int:=match l with|.B i::_=>H i|_=>AB
def aid(v:V):Option Int:=(Vp v).bind λp=>if p.1=20 then aic p.2 else AB
def aie(M:List (Int×V))(i:Int)(o:Option Int):List (Int×V):=match o with|some CC=>Ba M CC (.B i)|none=>M
def E1:List V->Int->List (Int×V)->List (Int×V)
 |[],_,M=>M|r::R,i,M=>E1 R (i+1) (aie M i (aid r))
mutual
inductive F8(h:A0)(k:Nat):V->List V->Prop
 |DF {m:Int} {l:List V}:m≠3->m≠14->(m=20->∃CC,l=[.B CC])->F8 h k (.A3 (.B m::l)) [.A3 (.B m::l)]|Lk {l rows:List V} {z:V}:Gh h k l rows->F8 h k (.A3 [.B 3,.A3 l,z]) rows|Mp {a b va vb:List V}:HN h k (.A3 a) (.A3 va)->HN h k (.A3 b) (.A3 vb)->F8 h k (.A3 [.B 14,.A3 a,.A3 [],.A3 b]) [.A3 [.B 14,.A3 va,.A3 vb]]
inductive Gh(h:A0)(k:Nat):List V->List V->Prop
 |AH:Gh h k [] []|AR {s:V} {l r1 r2:List V}:F8 h k s r1->Gh h k l r2->Gh h k (s::l) (r1++r2)
inductive HN(h:A0)(k:Nat):V->V->Prop
 |mk {s:V} {rows:List V} {i j:Nat}:F8 h k s rows->k<=i->(h 58)[i]?=H (.A6 rows)->(h 59)[j]?=H (.Ad (E1 rows 0 []))->HN h k s (.A3 [.O 58 i,.O 59 j])
end
structure EU(k:Nat)(h h2:A0):Prop where
 a:∀(i:Nat) (o:A_),k<=i->(h 58)[i]?=H o->(h2 58)[i]?=H o
 b:∀(i:Nat) (o:A_),(h 59)[i]?=H o->(h2 59)[i]?=H o
theorem EU.BO(k:Nat)(h:A0):EU k h h:=⟨λx x x e=>e,λx x e=>e⟩
theorem EU.Aw(x:EU k h h2)(y:EU k h2 h3):EU k h h3:=⟨λi o z e=>y.a i o z (x.a i o z e),λi o e=>y.b i o (x.b i o e)⟩
theorem EU.le(g:EU k h h2)(l:k<=k2):EU k2 h h2:=⟨λi o z=>g.a i o (Cr l z),g.b⟩
theorem HN.C3(g:EU k h h2)(l:k2<=k)(f:HN h k s v):HN h2 k2 s v:=
 @HN.rec h k (λs rows u=>F8 h2 k2 s rows) (λl rows u=>Gh h2 k2 l rows) (λs v u=>HN h2 k2 s v) (λa b c=>.DF a b c) (λu x=>.Lk x) (λu u x y=>.Mp x y) .AH (λu u x y=>.AR x y) (λu z a b x=>.mk x (Cr l z) (g.a _ _ z a) (g.b _ _ b)) s v f
theorem F8.C3(g:EU k h h2)(l:k2<=k)(f:F8 h k s rows):F8 h2 k2 s rows:=
 @F8.rec h k (λs rows u=>F8 h2 k2 s rows) (λl rows u=>Gh h2 k2 l rows) (λs v u=>HN h2 k2 s v) (λa b c=>.DF a b c) (λu x=>.Lk x) (λu u x y=>.Mp x y) .AH (λu u x y=>.AR x y) (λu z a b x=>.mk x (Cr l z) (g.a _ _ z a) (g.b _ _ b)) s rows f
def Bs(l:List Nat)(h h':A0):Prop:=∀s,s∉l->h' s=h s
theorem Bs.Aw(x:Bs l h h2)(y:Bs l h2 h3):Bs l h h3:=λs n=>(y s n).trans (x s n)
theorem Bs.BO(l:List Nat)(h:A0):Bs l h h:=λs n=>rfl
theorem Nq(e:s∈l):Bs l h (Bf h s i o):=λk n=>CZ λq=>n (q▸e)
theorem Vq(e:s∈l):Bs l h (Bm h s o):=λk n=>F4 λq=>n (q▸e)
inductive RD(s:V)(c i:Nat)(h:A0)(L:List V)(h2:A0):Prop
 |mk (ex:∃R,I R=c/\F8 h2 (i+1) s R/\(h2 58)[i]?=H (.A6 (L++R))) (C3:EU (i+1) h h2) (lo:∀(j:Nat) (o:A_),j<i->(h 58)[j]?=H o->(h2 58)[j]?=H o) (sm:Bs [58,59] h h2)
inductive jU(s v:V)(h h2:A0):Prop
 |mk (ft:HN h2 (I (h 58)) s v) (C3:EU 0 h h2) (sm:Bs [58,59] h h2)
theorem PS(e:j≠i)(g:(h s)[j]?=H o'):(Bf h s i o s)[j]?=H o':=by rw[Ji,Xz (FU e)];exact g
theorem RE{s j:Nat}(g:(h s)[j]?=H o'):(Bm h s o s)[j]?=H o':=by rw[Vf,JQ (Dd.mp g).1];exact g
theorem KG:(Bm h s o s)[I (h s)]?=H o:=by simp
section
variable{d n c i:Nat}
theorem wV(h3:k≠3)(a8:k≠14)(hl:k=20->∃CC,l=[.B CC])(e:(h 58)[i]?=H (.A6 L))(g:I L+1<1000):
  AL A5 (d+1) 72 [.A3 (.B k::l),.O 58 i] h λx h2=>x=.AV/\RD (.A3 (.B k::l)) 1 i h L h2:=by
 refine FJ rfl rfl rfl ?_;refine BK (.AS #[] #[] (by simp[h3])) ?_;refine BK (.AS #[] #[] (by simp[a8])) ?_;refine Vk rfl e (Fw #[] (DG (R8 e (BG 1 (.a AI AF) (.k 1000) AI (.k 100000) A4 [I L] g) (As (As (Gd ⟨rfl,⟨_,rfl,.DF h3 a8 hl,GL e⟩,⟨λj o z q=>PS (λEu=>K4 (By 1 AI A7 1 A7 A2 AF AK A4 [i,j] z (BQ Eu))) q,λj o q=>?_⟩,λj o z q=>PS (λEu=>K4 (By 1 AI A7 1 A7 A2 AF AK A4 [j,i] z (BQ Eu.symm))) q,Nq ()⟩))))));exact q
def bD(r:V):Prop:=∃(m:Int) (l:List V),r=.A3 (.B m::l)/\(m=20->∃CC,l=[.B CC])
theorem F8.ok(f:F8 h k s R):∀r∈R,bD r:=
 @F8.rec h k (λs R z=>∀r∈R,bD r) (λl R z=>∀r∈R,bD r) (λs v z=>True) (λ{m l} a b c r hr=>by
  rw[EK.mp hr];exact⟨m,l,rfl,c⟩) (λz x=>x) (λ{a b va vb} z z z z r hr=>by
  rw[EK.mp hr];exact⟨14,_,rfl,λq=>absurd q ()⟩) (λr hr=>nomatch hr) (λz z x y r hr=>(EY.mp hr).elim (x r) (y r)) (λz z z z z=>trivial) s R f
theorem jV{i:Int}(e:m≠20):E1 (.A3 (.B m::l)::R) i M=E1 R (i+1) M:=congrArg (λo=>E1 R ..) (if_neg e)
theorem PT:Ho 0 n=(Ll 0 n).map λ(k:Nat)=>V.B k:=by unfold Ho;rw[List.range_eq_range'];exact Yo λk x=>by rw[ee]
theorem TJ(g:n<1000):HA h .DU (.v (.B n)) w=H (Ho 0 n):=by
 rw[ahE,if_pos];unfold Dr;simp only[Gq,decide_eq_true_eq]
 have:n<BU:=DC g rfl;exact⟨⟨Ax 1 AK A2 (.a (.s AK (.k 1000000000000)) AF) A2 A4 [n] (CU n),Ax 1 AI (.k 1000) AI (.k 1000000000000) A4 [n] (DM.mpr g)⟩,Ax 1 AI A7 AI A7 A4 [n,BU] (DM.mpr this)⟩
theorem KH:I (Ba l k v)<=I l+1:=by
 induction l with
 |nil=>exact Ds _|cons a l ih=>
  show I (if a.1=k then(a.1,v)::l else a::Ba l k v)<=_;by_cases z:a.1=k
  .rw [if_pos z];exact SO _
  .rw [if_neg z];exact Us ih
structure aif(j:Nat)(M:List (Int×V))(h h2:A0):Prop where
 at_:(h2 59)[j]?=H (.Ad M)
 lo:∀(k:Nat) (o:A_),k≠j->(h 59)[k]?=H o->(h2 59)[k]?=H o
 sm:Bs [59] h h2
def aih:Cb:=match uD.BL.dr 3 with
 |.AR (.Cm _ _ _ _ b) _=>b|_=>.AH
theorem aii(ok:∀r∈R,bD r)(m p:Nat)(M:List (Int×V))(h:A0)(t3:T)(e:p+m=I R)(b:I M+m<1000)(e1:(h 58)[i]?=H (.A6 R))(e2:(h 59)[j]?=H (.Ad M))
  (k:∀h2 t3,aif j (E1 (R.drop p) p M) h h2->F .B0 [.v s,.v (.O 58 i),.v (.O 59 j),t3] h2):
  GN A5 (AL A5 d) aih [3] (λu=>True) F ((Ll p m).map λ(k:Nat)=>V.B k) [.v s,.v (.O 58 i),.v (.O 59 j),t3] h:=by
 induction m generalizing p M h t3 with
 |zero=>exact Jj trivial (k _ _ (by rw[rS (BQ e.symm)];exact⟨e2,λk o z q=>q,Bs.BO _ _⟩))|succ m ih=>
  have lt:p<I R:=e▸bE (V0 m);have ep:=(J_ p 1 m).trans e;have b1:=GH (BQ (J_ _ 1 m)) b;obtain⟨mm,l,Bx,hl⟩:=ok _ (Si lt);have row:Ar A5 (AL A5 d) (.AE (.Am 1) (.Am 3)) _ [.v s,.v _,.v (.O 59 j),.v _] h _:=.AE #[] #[] ((F5 e1).trans ((if_pos (CU p)).trans ((DP lt).trans (congrArg H Bx))));rw[rR lt,Bx] at k;refine JB (r':=[.v s,.v _,.v _,.v (.B p)]) trivial rfl ?_;by_cases z:mm=20
  .subst z
   clear Bx;obtain⟨CC,rfl⟩:=hl rfl;refine DJ (.AS (.AE row #[] rfl) #[] rfl) ?_;refine Mm #[] #[] (.AE row #[] rfl) e2 (YY (GH (QE ..) b) ()) (As (Gd ?_));exact ih _ _ _ _ ep (GH (YL KH m) b1) e1 (GL e2) λh2 t3 w=>k h2 t3 ⟨w.at_,λk o z q=>w.lo k o z (PS z q),(Nq ()).Aw w.sm⟩
  .refine BK (.AS (x:=.B mm) (y:=.B 20) (.AE row #[] rfl) #[] (congrArg H (decide_eq_false z))) (As (Gd ?_))
   exact ih _ M _ _ ep (GH (YL (SO _) m) b1) e1 e2 λh2 t3 w=>k h2 t3 (by rw[jV z];exact w)
theorem jW(hc:c<1000)(hr:∀(h:A0) (i:Nat) (L:List V),(h 58)[i]?=H (.A6 L)->I L+c<1000->AL A5 D 72 [s,.O 58 i] h λx h2=>x=.AV/\RD s c i h L h2):
  AL A5 (D+1) 73 [s] h λx h2=>(∃l,x=.A3 l)/\jU s x h h2:=by
 refine FJ (fr:=[.v _,.AQ,.AQ,.AQ]) rfl rfl rfl ?_;refine aq (Ar.A6 .AH) rfl () ?_;refine b4 (Ge #[] (DL ?_ (hr _ _ [] KG (by simpa using hc))));rintro x h2 ⟨rfl,⟨R,rl,ra,re⟩,C3,lo,sm⟩;refine DG (wF ?_);have e1:=re;refine Nm (.Aj #[] (IJ e1)) #[] (TJ (By 1 A2 A7 1 BB (.k 1000) AI (.k 1000) A4 [I R,c] (BQ rl) hc)) (λy q=>nomatch q) ?_;rw[PT];refine aii ra.ok _ 0 [] _ _ (Fl (Ei (.a AK A2) A2 A4 [I R]) (Ei A2 (.a AK A2) A4 [I R])) (by simp;exact By 1 A2 A7 1 BB (.k 1000) AI (.k 1000) A4 [I R,c] (BQ rl) hc) e1 KG λh3 t3 w=>?_;refine ET #[] ⟨⟨_,rfl⟩,?_⟩;have aij:=λk o q=>w.lo k o (λz=>by
  subst z;rw[SA (Ds _)] at q;cases q) (RE q)
 have wW:=(w.sm 58 ()).trans (F4 ());have wX:EU 0 h2 h3:=⟨λk o y q=>by rw[wW];exact q,aij⟩;have aik:=λk o q=>lo k o (Dd.mp q).1 (RE q);refine⟨.mk (ra.C3 (wX.le (D3 _)) (SO _)) (Ds _) (by rw[wW];exact re) (by have:=w.at_;rwa [List.drop_zero] at this),EU.Aw ⟨λk o y q=>aik k o q,λk o q=>C3.b k o q⟩ wX,?_⟩;intro k Cc;have KC:k≠59:=λq=>Cc (by rw[q];decide);have Ko:k≠58:=λq=>Cc (by rw[q];decide);rw[w.sm k (by simpa using KC),F4 KC,sm k Cc,F4 Ko]
theorem ail{D c1 c2 i:Nat}(ha:∀h:A0,AL A5 D 73 [.A3 a] h λx h2=>(∃l,x=.A3 l)/\jU (.A3 a) x h h2)(hb:∀h:A0,AL A5 D 73 [.A3 b] h λx h2=>(∃l,x=.A3 l)/\jU (.A3 b) x h h2)
  (e:(h 58)[i]?=H (.A6 L))(g:I L+1<1000):
  AL A5 (D+1) 72 [.A3 [.B 14,.A3 a,.A3 [],.A3 b],.O 58 i] h λx h2=>x=.AV/\RD (.A3 [.B 14,.A3 a,.A3 [],.A3 b]) 1 i h L h2:=by
 refine FJ (fr:=[.v _,.v _,.AQ]) rfl rfl rfl ?_;refine BK #[] ?_;refine DJ #[] ?_;refine BK (.CF (.G8 #[] (.GG #[]))) ?_;refine Vk rfl e (jL (Ii (Fw #[] (DG (Ii (Ge #[] (DL ?_ (ha h))))))));rintro x1 h1 ⟨⟨l1,rfl⟩,f1,g1,s1⟩;refine DG (Ii (Ge #[] (DL ?_ (hb h1))));rintro x2 h2 ⟨⟨l2,rfl⟩,f2,g2,s2⟩;have lt:=(Dd.mp e).1;have e2:=g2.a i _ (D3 _) (g1.a i _ (D3 _) e);have aim:=(Dd.mp (g1.a i _ (D3 _) e)).1;refine DG (Vj (DG (R8 e2 (BG 1 (.a AI AF) (.k 1000) AI (.k 100000) A4 [I L] g) (As (As (As (Gd ⟨rfl,?_⟩)))))));have gs:EU (i+1) h2 (Bf h2 58 i (.A6 (L++[.A3 [.B 14,.A3 l1,.A3 l2]]))):=⟨λj o z q=>PS (λEu=>K4 (By 1 AI A7 1 A7 A2 AF AK A4 [i,j] z (BQ Eu))) q,λj o q=>q⟩;refine⟨⟨_,rfl,.Mp ((f1.C3 (g2.le (D3 _)) (k2:=i+1) lt).C3 gs (Ds _)) ((f2.C3 (EU.BO ..) (k2:=i+1) aim).C3 gs (Ds _)),GL e2⟩,?_,?_,?_⟩
 .exact EU.Aw ((g1.Aw g2).le (D3 _)) gs
 .exact λj o z q=>PS (λEu=>K4 (By 1 AI A7 1 A7 A2 AF AK A4 [j,i] z (BQ Eu.symm))) (g2.a j o (D3 _) (g1.a j o (D3 _) q))
 .exact (s1.Aw s2).Aw (Nq ())
def ain:Cb:=match uC.BL with
 |.AR (.Ay _ (.AR (.Cm _ _ _ _ b) _) _) _=>b|_=>.AH
inductive aio(l:List V)(c i:Nat)(h:A0)(L:List V)(h2:A0):Prop
 |mk (ex:∃R,I R=c/\Gh h2 (i+1) l R/\(h2 58)[i]?=H (.A6 (L++R))) (C3:EU (i+1) h h2) (lo:∀(j:Nat) (o:A_),j<i->(h 58)[j]?=H o->(h2 58)[j]?=H o) (sm:Bs [58,59] h h2)
theorem Gh.C3(g:EU k h h2)(l:k2<=k)(f:Gh h k s rows):Gh h2 k2 s rows:=
 @Gh.rec h k (λs rows u=>F8 h2 k2 s rows) (λl rows u=>Gh h2 k2 l rows) (λs v u=>HN h2 k2 s v) (λa b c=>.DF a b c) (λu x=>.Lk x) (λu u x y=>.Mp x y) .AH (λu u x y=>.AR x y) (λu z a b x=>.mk x (Cr l z) (g.a _ _ z a) (g.b _ _ b)) s rows f
theorem aip(Vr:∀h,ok h)(st:RC P c l)
  (hr:∀(s:V) (c:Nat) (h:A0) (L:List V),P c s->(h 58)[i]?=H (.A6 L)->I L+c<1000->AL A5 D 72 [s,.O 58 i] h λx h2=>x=.AV/\RD s c i h L h2):
  ∀(h:A0) (L:List V) (t2:T),(h 58)[i]?=H (.A6 L)->I L+c<1000->(∀h2 t2,aio l c i h L h2->F .B0 [.v BE,.v (.O 58 i),t2] h2)->
  GN A5 (AL A5 D) ain [2] ok F l [.v BE,.v (.O 58 i),t2] h:=by
 induction st with
 |nil=>exact λh L t2 e g k=>Jj (Vr h) (k h t2 ⟨⟨[],rfl,.AH,by rw[Oc];exact e⟩,EU.BO ..,λy y y q=>q,Bs.BO _ _⟩)|@AR c1 c2 s l hs hl ih=>
  intro h L t2 e g k;have g1:=GH (BQ (f5 ..)) g;refine JB (r':=[.v BE,.v _,.v s]) (Vr h) rfl (b4 (Ge #[] (DL ?_ (hr s c1 h L hs e (GH (QE _ c2) g1)))));rintro x h1 ⟨rfl,⟨J7,Vs,bF,aiq⟩,g2,lo1,s1⟩;refine DG (Gd (ih h1 _ _ aiq (by rw[El,Vs];exact g1) λh2 t2 w=>k h2 t2 ?_));obtain⟨⟨EH,Vt,jX,air⟩,g3,lo2,s2⟩:=w;exact⟨⟨_,by rw[El,Vs,Vt],.AR (bF.C3 g3 (Ds _)) jX,by rw[<-PM];exact air⟩,g2.Aw g3,λj o z q=>lo2 j o z (lo1 j o z q),s1.Aw s2⟩
theorem wY(hl:RC P c l)
  (hr:∀(s:V) (c:Nat) (h:A0) (L:List V),P c s->(h 58)[i]?=H (.A6 L)->I L+c<1000->AL A5 D 72 [s,.O 58 i] h λx h2=>x=.AV/\RD s c i h L h2)
  (e:(h 58)[i]?=H (.A6 L))(g:I L+c<1000):AL A5 (D+1) 72 [.A3 [.B 3,.A3 l,z],.O 58 i] h λx h2=>x=.AV/\RD (.A3 [.B 3,.A3 l,z]) c i h L h2:=by
 refine FJ rfl rfl rfl ?_;refine DJ #[] ?_;refine Nm (t:=.v (.A3 l)) #[] #[] rfl (λy q=>nomatch q) ?_;refine aip (λy=>rfl) hl hr h L _ e g λh2 t2 w=>?_;obtain⟨⟨R,rl,ra,re⟩,g2,lo,sm⟩:=w;exact As (Gd ⟨rfl,⟨R,rl,.Lk ra,re⟩,g2,lo,sm⟩)
theorem ais(d n i:Nat)(s:V)(c:Nat)(h:A0)(L:List V)(st:Vo n c s)(e:(h 58)[i]?=H (.A6 L))(g:I L+c<1000):AL A5 (d+1+2*n) 72 [s,.O 58 i] h λx h2=>x=.AV/\RD s c i h L h2:=by
 induction n generalizing d i s c h L with
 |zero=>
  cases(show PR (λy y=>False) c s from st) with
  |DF a b c=>exact wV a b c e g|Lk hl=>exact wY hl (λs c h L st e g=>st.elim) e g|Mp ha=>exact ha.elim
 |succ n ih=>
  cases(show PR (Vo n) c s from st) with
  |DF a b c=>exact wV a b c e g|Lk hl=>exact wY (D:=d+1+2*n+1) hl (λs c h L st e g=>J_ _ 1 _▸ih _ i s c h L st e g) e g|Mp ha hb b1 b2=>exact ail (c1:=0) (c2:=0) (D:=d+1+2*n+1) (λh=>jW b1 λh i L e g=>ih d i _ _ h L ha e g) (λh=>jW b2 λh i L e g=>ih d i _ _ h L hb e g) e g
end
structure Lm where
 c:Nn
 Mq:List Int
 BL:Int->Option V
structure FnAt(h:A0)(mid:Int)(b:V):Prop where
 ex:∃CE ol fl JE j q c cq,(h 82)[0]?=H (.CK c CE)/\Bw CE 27=H (.O 10 0)/\Bw CE 29=H (.O 12 0)/\(h 12)[0]?=H (.Ad ol)/\BP ol mid=H (.B j)/\(h 10)[0]?=H (.A6 fl)/\Be fl j=H (.O 17 q)/\(h 17)[q]?=H (.CK cq JE)/\Bw JE 20=H b
structure bG(w:Lm)(h:A0)(Fx:List (Int×V)):Prop where
 DE:h 89=[.Ad Fx]
 nd:(Fx.map (·.1)).Nodup
 ks:∀k∈Fx.map (·.1),k∈w.Mq
 ft:∀mid v,BP Fx mid=H v->∃b,w.BL mid=H b/\HN h 0 b v
structure St(w:Lm)(h:A0)(s:EM)(ob:List (List (Int×V)))(Ah:List V):Prop where
 m:HM h w.c s
 th:h 86=[.A6 (JD (I ob))]
 IK:h 60=ob.map A_.Ad
 JF:∃a b,s.Ah=.O a b/\(a=88\/a=75)/\(h a)[b]?=H (.A6 Ah)
 fl:∃Fx,bG w h Fx
 fn:∀mid b,w.BL mid=H b->mid∈w.Mq/\FnAt h mid b/\∃c l,c<1000/\Vo 6 c b/\b=.A3 l
 ml:I w.Mq<=100
def Vu:List Nat:=[85,86,60,88,75,89,82,10,12,17]
def jY:List Nat:=[85,86,60,88,75,89,58,59,61]
theorem FnAt.AX(f:FnAt h mid b)(e:∀k∈[82,10,12,17],h2 k=h k):FnAt h2 mid b:=by obtain⟨CE,ol,fl,JE,j,q,c,cq,a1,a2,a3,a4,a5,Ln,TL,Vv,j_⟩:=f.ex;exact⟨CE,ol,fl,JE,j,q,c,cq,by rw[e 82 ()];exact a1,a2,a3,by rw[e 12 ()];exact a4,a5,by rw[e 10 ()];exact Ln,TL,by rw[e 17 ()];exact Vv,j_⟩
theorem bG.AX(f:bG w h Fx)(e:h2 89=h 89)(g:EU 0 h h2):bG w h2 Fx:=
 ⟨e.trans f.DE,f.nd,f.ks,λmid v q=>(f.ft mid v q).elim λb y=>⟨b,y.1,y.2.C3 g (Ds _)⟩⟩
theorem St.AX(S:St w h s ob Ah)(e:∀k∈Vu,h2 k=h k)(g:EU 0 h h2):St w h2 s ob Ah where
 m:=(e 85 ()).trans S.m
 th:=(e 86 ()).trans S.th
 IK:=(e 60 ()).trans S.IK
 JF:=by
  obtain⟨a,b,x,y,z⟩:=S.JF;refine⟨a,b,x,y,?_⟩;clear x;rcases y with rfl|rfl
  .rw [e 88 ()];exact z
  .rw [e 75 ()];exact z
 fl:=S.fl.imp λFx f=>f.AX (e 89 ()) g
 fn:=λmid b q=>⟨(S.fn mid b q).1,(S.fn mid b q).2.1.AX λk hk=>e k (by revert k;decide),(S.fn mid b q).2.2⟩
 ml:=S.ml
theorem Dw(a:h2 58=h 58)(b:h2 59=h 59):EU 0 h h2:=⟨λi o x e=>by rw[a];exact e,λi o e=>by rw[b];exact e⟩
theorem St.C7(S:St w h s ob Ah)(e:s2.Ah=s.Ah):St w (C7 h w.c s2) s2 ob Ah where
 m:=rfl
 th:=S.th
 IK:=S.IK
 JF:=by obtain⟨a,b,x,y,z⟩:=S.JF;refine⟨a,b,e.trans x,y,?_⟩;rw[FM (by clear z x;rcases y with rfl|rfl<;>decide)];exact z
 fl:=S.fl.imp λFx f=>f.AX rfl (Dw rfl rfl)
 fn:=λmid b q=>⟨(S.fn mid b q).1,(S.fn mid b q).2.1.AX λk hk=>by
  have:k≠85:=by revert k;decide
  exact FM this,(S.fn mid b q).2.2⟩
 ml:=S.ml
theorem Vw:∀{l l2:List Int},l.Nodup->(∀a∈l,a∈l2)->I l<=I l2
 |[],_,_,_=>D3 _|a::t,l2,nd,sub=>by
  have ha:=sub a D0;have bH:=SN.mp nd
  have:=Vw (l2:=l2.erase a) bH.2 λb hb=>(List.mem_erase_of_ne λq=>bH.1 (by rw[<-q];exact hb)).mpr (sub b (DV _ hb));rw[List.length_erase_of_mem ha] at this
  have:=List.length_pos_of_mem ha;exact By 1 A2 A7 1 BB Aa AI Aa A4 [I t,I l2-1,I l2] (by assumption) (K3 (BG 1 (.a AK AF) A2 AF A2 A4 [I l2] this))
set_option tactic.hygienic true in
theorem ja(e:BP l k=AB):k∉l.map (·.1):=by
 induction l with
 |nil=>intro h;cases h
 |cons a l ih=>
  rw[OT] at e;split at e
  .cases e
  .rename_i ne
   intro h;rcases D4.mp h with h|h
   .exact ne h.symm
   .exact ih e h
set_option tactic.hygienic true in
theorem bI(e:BP l k=AB):Ba l k v=l++[(k,v)]:=by
 induction l with
 |nil=>rfl|cons a l ih=>
  rw[OT] at e;split at e
  .cases e
  .rename_i ne
   rw[OU,if_neg ne,ih e];rfl
theorem FN:BP (Ba l k v) j=if j=k then H v else BP l j:=by
 induction l with
 |nil=>
  show(if k=j then H v else AB)=if j=k then H v else AB;by_cases e:k=j
  .rw [if_pos e,if_pos e.symm]
  .rw [if_neg e,if_neg (FU e)]
 |cons a l ih=>
  obtain⟨x,y⟩:=a;rw[OU];by_cases q:x=k
  .rw [if_pos q,OT,OT]
   clear ih;subst q;by_cases e:x=j
   .rw [if_pos e,if_pos e.symm]
   .rw [if_neg e,if_neg (FU e),if_neg e]
  .rw [if_neg q,OT,ih,OT]
   by_cases e:x=j
   .rw [if_pos e,if_pos e,if_neg (λz=>q (e.trans z))]
   .rw [if_neg e,if_neg e]
structure Fr(h h2:A0):Prop where
 sm:Bs jY h h2
 C3:EU 0 h h2
theorem Fr.BO(h:A0):Fr h h:=⟨Bs.BO _ _,EU.BO ..⟩
theorem Fr.Aw(x:Fr h h2)(y:Fr h2 h3):Fr h h3:=⟨x.sm.Aw y.sm,x.C3.Aw y.C3⟩
theorem Fr.of(e:Bs l h h2)(sub:∀k∈l,k∈jY)(Ko:58∉l)(KC:59∉l):Fr h h2:=⟨λk Cc=>e k λq=>Cc (sub k q),Dw (e _ Ko) (e _ KC)⟩
set_option tactic.hygienic true in
theorem ait(S:St w h s ob Ah)(hb:w.BL mid=H b)
  (k:∀(h2:A0) (R:List V) (i j n:Nat),St w h2 s ob Ah->Fr h h2->F8 h2 0 b R->(h2 58)[i]?=H (.A6 R)->(h2 59)[j]?=H (.Ad (E1 R 0 []))->(h2 61)[n]?=H (.Ad [])->
   AL A5 (d+14) 77 [.O 85 0,.A3 [.O 58 i,.O 59 j],this,.O 61 n] h2 Q):
  AL A5 (d+15) 78 [.O 85 0,.B mid,this] h Q:=by
 obtain⟨mm,fa,c,lb,lc,aiu,rfl⟩:=S.fn mid b hb;obtain⟨CE,ol,fl,JE,apL,q0,w_,cq,a1,a2,a3,a4,a5,Ln,TL,Vv,j_⟩:=fa.ex;obtain⟨Fx,PU⟩:=S.fl;have m:=S.m;have fo:(h 89)[0]?=H _:=congrArg (·[0]?) PU.DE;have Vx:Ar A5 (AL A5 (d+14)) (.AE (.Am 0) (.AO (.An 110))) A1 [.v (.O 85 0),.v (.B mid),.v this] h (.v (.O 89 0)):=by decreasing_trivial
 refine FJ (fr:=[.v _,.v _,.v _]) rfl rfl rfl ?_;have fin:∀(h2:A0) (v:V) (jb:List _),St w h2 s ob Ah->Fr h h2->(h2 89)[0]?=H (.Ad jb)->BP jb mid=H v->HN h2 0 (.A3 lb) v->
   Ae A5 (AL A5 (d+14)) (uE.BL.dr 1) [.v (.O 85 0),.v (.B mid),.v this] h2 λfl u h'=>Q fl.Av h':=by
  intro h2 v jb CG Lo aiv el fv;cases fv with
  |mk ra kz re me=>
   rename_i R i j;have m2:=CG.m;refine R6 (wG (Ii (Fw #[] (DG (Ii (Fw (.AE #[] #[] ((jK aiv).trans el)) (DG (Ii (Fw #[] (DG (Ii (b3 (DG (Vj ?_))))))))))))));have Jk:∀k,k≠61->Bm h2 61 (Gk .id) k=h2 k:=λk n=>F4 n;refine DL (λx h3 q=>DG q) (k _ R i j _ (CG.AX (λk hk=>Jk k (by revert k;decide)) (Dw (Jk _ ()) (Jk _ ()))) (Lo.Aw (.of (Vq (l:=[61]) ()) () () ())) (ra.C3 (Dw (Jk _ ()) (Jk _ ())) (Ds _)) ?_ ?_ KG)
   .exact re
   .exact me
 cases el:BP Fx mid with
 |some v=>
  obtain⟨b2,hb2,fv⟩:=PU.ft mid v el;rw[hb] at hb2;cases hb2;refine BK (.LK #[] Vx ((PI (d:=.O 89 0) fo).trans (by rw[el])) rfl) (As ?_);exact fin h v Fx S (Fr.BO _) fo el fv
 |none=>
  have aiw:I Fx<BU:=by
   have:=Vw PU.nd PU.ks
   have:=S.ml;rw[Ce] at*;exact By 1 A2 A7 1 A7 (.k 100) AI (.k 100000) A4 [I Fx,I w.Mq] (by assumption) this
  refine DJ (.LK #[] Vx ((PI (d:=.O 89 0) fo).trans (by rw[el])) rfl) ?_;have un:Ar A5 (AL A5 (d+14)) (.AE (.Am 0) (.AO (.An 73))) A1 [.v (.O 85 0),.v (.B mid),.v this] h (.v (.O 82 0)):=by decreasing_trivial
  have bd:Ar A5 _ (.AN (.AE _ (.AE _ (.Am 1))) 20) _ _ h _:=
   .AN (.AE (.AN un ((TF a1).trans a2)) (.AE (.AN un ((TF a1).trans a3)) #[] ((jK a4).trans a5)) ((F5 Ln).trans TL)) ((TF Vv).trans j_)
  refine b5 (Ge (.AR bd .AH) (DL ?_ (jW lc λh i L e g=>ais d 6 i _ c h L aiu e g)));rintro x h1 ⟨⟨lx,rfl⟩,ft,g1,s1⟩;have CP:=S.AX (λk hk=>s1 k (by revert k;decide)) g1;have m1:=CP.m;have wc:(h1 89)[0]?=H (.Ad Fx):=by rw[s1 89 ()];exact fo
  refine DG (Fw #[] (Fw #[] (DG ?_)));simp only[wc];refine⟨_,if_pos aiw,As ?_⟩;have we:=ft.C3 (EU.BO ..) (D3 _);have ne:∀k,k≠89->Bf h1 89 0 (.Ad (Ba Fx mid (.A3 lx))) k=h1 k:=λk n=>CZ n;have g2:=Dw (ne _ ()) (ne _ ());refine fin _ _ _ ?_ ?_ (GL wc) (by rw[FN,if_pos rfl]) (we.C3 g2 (Ds _))
  .have bJ:Bf h1 89 0 (.Ad (Ba Fx mid (.A3 lx))) 89=[.Ad (Ba Fx mid (.A3 lx))]:=by rw[Ji,s1 89 (),PU.DE];rfl
   refine⟨(ne 85 ()).trans CP.m,(ne 86 ()).trans CP.th,(ne 60 ()).trans CP.IK,?_,⟨_,bJ,?_,?_,?_⟩,λmid b q=>⟨(CP.fn mid b q).1,(CP.fn mid b q).2.1.AX λk hk=>ne k (by revert k;decide),(CP.fn mid b q).2.2⟩,CP.ml⟩
   .obtain ⟨a,b,x,y,z⟩:=CP.JF
    refine⟨a,b,x,y,?_⟩;rw[ne _ (by clear z x;rcases y with rfl|rfl<;>decide)];exact z
   .rw [bI el,Gg]
    refine Vy.mpr ⟨PU.nd,by simp,λa ha b hb=>?_⟩;simp at hb;clear bJ g2 ne bd un fin Vx a5 fa mm;subst hb;exact λq=>ja el (q▸ha)
   .intro k hk
    rw[bI el,Gg] at hk;rcases EY.mp hk with hk|hk
    .exact PU.ks k hk
    .simp at hk;clear bJ g2 ne bd un el fin Vx a5 fa hb;subst hk;exact mm
   .intro aix v hv
    rw[FN] at hv;split at hv
    .rename_i e
     cases hv;clear bJ ne bd un el fin Vx a5 fa mm;subst e;exact⟨_,hb,we.C3 g2 (Ds _)⟩
    .obtain ⟨b,x,y⟩:=PU.ft aix v hv
     exact⟨b,x,y.C3 (g1.Aw g2) (Ds _)⟩
  .refine ⟨λk Cc=>?_,g1.Aw g2⟩
   have KC:k≠89:=λq=>Cc (by rw[q];decide);rw[ne k KC];exact s1 k λq=>Cc ((by decide:∀k∈[58,59],k∈jY) k q)
theorem St.Vz(S:St w h s ob Ah):Vl h (I ob):=⟨S.th,by rw[S.IK,Ce]⟩
theorem St.Dh(S:St w h s ob Ah){q:Nat}{l:List (Int×V)}(e:ob[q]?=H l):(h 60)[q]?=H (.Ad l):=by rw[S.IK,GY,e];rfl
theorem St.obj(S:St w h s ob Ah):St w (Bf h 60 q (.Ad l)) s (ob.set q l) Ah where
 m:=(CZ ()).trans S.m
 th:=by rw[La];exact S.th
 IK:=by rw[Ji,S.IK,List.map_set]
 JF:=by obtain⟨a,b,x,y,z⟩:=S.JF;refine⟨a,b,x,y,?_⟩;rw[CZ (by clear z x;rcases y with rfl|rfl<;>decide)];exact z
 fl:=S.fl.imp λFx f=>f.AX (CZ ()) (Dw (CZ ()) (CZ ()))
 fn:=λmid b q=>⟨(S.fn mid b q).1,(S.fn mid b q).2.1.AX λk hk=>by
  have:k≠60:=by revert k;decide
  exact CZ this,(S.fn mid b q).2.2⟩
 ml:=S.ml
theorem St.new(S:St w h s ob Ah):St w (Bf (Bm h 60 (.Ad [])) 86 0 (.A6 (JD (I ob+1)))) s (ob++[[]]) Ah:=by
 have ne:∀k,k≠60->k≠86->Bf (Bm h 60 (.Ad [])) 86 0 (.A6 (JD (I ob+1))) k=h k:=λk a b=>by rw[CZ b,F4 a]
 exact{
  m:=(ne 85 () ()).trans S.m
  th:=by rw[Ji,F4 (),S.th,El];rfl
  IK:=by rw[CZ (),Vf,S.IK,Gg];rfl
  JF:=by obtain⟨a,b,x,y,z⟩:=S.JF;refine⟨a,b,x,y,?_⟩;rw[ne _ (by clear z x;rcases y with rfl|rfl<;>decide) (by rcases y with rfl|rfl<;>decide)];exact z
  fl:=S.fl.imp λFx f=>f.AX (ne _ () ()) (Dw (ne _ () ()) (ne _ () ()))
  fn:=λmid b q=>⟨(S.fn mid b q).1,(S.fn mid b q).2.1.AX λk hk=>by
   have a:k≠60:=by revert k;decide
   have b:k≠86:=by revert k;decide
   exact ne k a b,(S.fn mid b q).2.2⟩
  ml:=S.ml}
theorem St.log(S:St w h s ob Ah)(e:s.Ah=.O a b)(y:a=88\/a=75)(z:(h a)[b]?=H (.A6 Ah)):St w (Bf h a b (.A6 (Ah++[x]))) s ob (Ah++[x]):=by
 have ne:∀k,k≠88->k≠75->Bf h a b (.A6 (Ah++[x])) k=h k:=λk p q=>CZ (by clear z e;rcases y with rfl|rfl<;>assumption);exact{
  m:=(ne 85 () ()).trans S.m
  th:=(ne 86 () ()).trans S.th
  IK:=(ne 60 () ()).trans S.IK
  JF:=⟨a,b,e,y,GL z⟩
  fl:=S.fl.imp λFx f=>f.AX (ne _ () ()) (Dw (ne _ () ()) (ne _ () ()))
  fn:=λmid b q=>⟨(S.fn mid b q).1,(S.fn mid b q).2.1.AX λk hk=>by
   have a:k≠88:=by revert k;decide
   have b:k≠75:=by revert k;decide
   exact ne k a b,(S.fn mid b q).2.2⟩
  ml:=S.ml}
abbrev D_(d n:Nat)(this BH:V)(i j:Nat)(at_:Int)(h:A0)(F:DB->List T->A0->Prop):Prop:=
 ∀Cn C6 BF Bj,No d n (EN (.A3 [.O 58 i,.O 59 j]) this BH (.O 58 i) (.O 59 j) at_ Cn C6 BF Bj) h F
def Lp(d:Nat)(Q:V->A0->Prop):DB->List T->A0->Prop:=Fv A5 (AL A5 d) wU λfl x h'=>Q fl.Av h'
theorem bK(k:D_ d n this BH i j 0 h (Lp d Q)):AL A5 (d+1) 77 [.O 85 0,.A3 [.O 58 i,.O 59 j],this,BH] h Q:=by
 refine FJ rfl rfl rfl ?_;refine ahI #[] rfl ?_;have e:Lp d Q=λfl r1 h1=>(match fl with|.B0=>Ae A5 (AL A5 d) wU r1 h1 (λfl x h'=>Q fl.Av h')|.Ag v=>Q v h1):=funext λfl=>by cases fl<;>rfl
 have k:=k .AQ .AQ .AQ .AQ;rw[e] at k;exact⟨n,k⟩
theorem aiy(q:Q PN h):Lp d Q .B0 r h:=by show Ae A5 _ _ r h λfl y h'=>Q _ h';exact ET (x:=PN) #[] q
theorem aiz(el:(h 58)[i]?=H (.A6 R))(e:(I R:Int)<=at_)(k:∀r,F .B0 r h):D_ d (n+1) this BH i j at_ h F:=λCn C6 BF Bj=>
 ah2 (.AS #[] (.Aj #[] (IJ el)) (by simp;assumption)) (k _)
theorem KI(S:St w h s ob Ah)(el:(h 58)[i]?=H (.A6 R))(e0:0<=at_)(e1:Be R at_=H row)(B8:1<=s.BX)
  (k:∀BF Bj,St w (C7 h w.c s.Bb) s.Bb ob Ah->Ae A5 (AL A5 d) (FL.dr 5) (EN (.A3 [.O 58 i,.O 59 j]) this BH (.O 58 i) (.O 59 j) (at_+1) (.v row) (.v PN) BF Bj) (C7 h w.c s.Bb) (F_ d n F)):
  D_ d (n+1) this BH i j at_ h F:=λCn C6 BF Bj=>ah3 S.m rfl () el e0 e1 B8 (k _ _ (S.C7 rfl))
theorem jc(S:St w h s ob Ah)(kd:RA h s.kd K)(el:(h 58)[i]?=H (.A6 R))(e0:0<=at_)
  (e1:Be R at_=H (.A3 [.B 1,.A3 [.B 22,kx,.A3 [.B 4,.B kf,.A3 og,.A3 [.B s.F7,.B fid]],val]]))(B8:1<=s.BX)(hk:K fid=H kf)(o1:Be og 1=H (.B s.F7))(hq:ob[q]?=H l)(hl:I l<1000)
  (hg:Em (d+3) 75 [.O 85 0,.A3 og,this,BH] (C7 h w.c s.Bb) (.B (q+1:Nat)) (C7 h w.c s.Bb))(hv:Em (d+4) 75 [.O 85 0,val,this,BH] (C7 h w.c s.Bb) (.B v) (C7 h w.c s.Bb))
  (k:∀h2,St w h2 s.Bb (ob.set q (Ba l fid (.B v))) Ah->Bs [85,60] h h2->D_ (d+5) n this BH i j (at_+1) h2 F):D_ (d+5) (n+1) this BH i j at_ h F:=by
 refine KI S el e0 e1 B8 λBF Bj CP=>?_;have aiA:RA (C7 h w.c s.Bb) s.Bb.kd K:=by
  obtain⟨a,l,x,y,z⟩:=kd;by_cases e:a=85
  .clear x;subst e
   rw[S.m] at y;cases y
  .exact ⟨a,l,x,by rw[FM e];exact y,z⟩
 have lt:=(Dd.mp hq).1;have hc:Em (d+4) _ _ _ (.A3 [.O 60 q,.B fid]) _:=λQ x=>
  wP CP.m aiA CP.Vz hk o1 (i:=q+1) (Ei (.a AK AF) AI A4 [q]) (BG 1 AI A7 AI A7 A4 [q,I ob] lt) hg x
 refine bC (jP hc hv (CP.Dh hq) (DC hl rfl)) (PO λCn C6 BF Bj=>k _ CP.obj ?_ ..);intro k Cc;rw[CZ (λz=>Cc (by rw[z];decide)),FM (λz=>Cc (by rw[z];decide))]
def TM(d n:Nat)(this BH:V)(i j:Nat)(at_:Int)(F:DB->List T->A0->Prop)(a:Int)(b:V)(h:A0):Prop:=(a=0/\D_ d n this BH i j at_ h F)\/(2<=a/\∀r,F (.Ag (.A3 [.B a,b])) r h)
theorem bL(o:TM d n this BH i j at_ F a b h):Ae A5 (AL A5 d) (FL.dr 6) (EN (.A3 [.O 58 i,.O 59 j]) this BH (.O 58 i) (.O 59 j) at_ Cn (.v (.A3 [.B a,b])) BF Bj) h (F_ d n F):=by
 rcases o with⟨rfl,k⟩|⟨l,k⟩
 .exact PO k
 .exact bB l (k _)
theorem jd(S:St w h s ob Ah)(el:(h 58)[i]?=H (.A6 R))(em:(h 59)[j]?=H (.Ad (E1 R 0 [])))(e0:0<=at_)(e1:Be R at_=H (.A3 [.B 21,.B CC]))(B8:1<=s.BX)(t:BP (E1 R 0 []) CC=H (.B tgt))
  (k:∀h2,St w h2 s.Bb ob Ah->Bs [85] h h2->D_ d n this BH i j tgt h2 F):D_ d (n+1) this BH i j at_ h F:=
 KI S el e0 e1 B8 λBF Bj CP=>ah5 (jT rfl em t (k _ CP λk Cc=>FM λz=>Cc (by rw[z];decide)))
theorem TN(S:St w h s ob Ah)(el:(h 58)[i]?=H (.A6 R))(e0:0<=at_)(e1:Be R at_=H (.A3 [.B 20,CC]))(B8:1<=s.BX)
  (k:∀h2,St w h2 s.Bb ob Ah->Bs [85] h h2->D_ d n this BH i j (at_+1) h2 F):D_ d (n+1) this BH i j at_ h F:=
 KI S el e0 e1 B8 λBF Bj CP=>ah6 (PO (k _ CP λk Cc=>FM λz=>Cc (by rw[z];decide)))
theorem TP(S:St w h s ob Ah)(el:(h 58)[i]?=H (.A6 R))(em:(h 59)[j]?=H (.Ad (E1 R 0 [])))(e0:0<=at_)(e1:Be R at_=H (.A3 [.B 22,e,.B y,.B CC]))(B8:1<=s.BX)(t:BP (E1 R 0 []) CC=H (.B tgt))
  (hv:Em d 75 [.O 85 0,e,this,BH] (C7 h w.c s.Bb) (.B x) (C7 h w.c s.Bb))
  (k:∀h2,St w h2 s.Bb ob Ah->Bs [85] h h2->D_ d n this BH i j (if x=y then tgt else at_+1) h2 F):D_ d (n+1) this BH i j at_ h F:=
 KI S el e0 e1 B8 λBF Bj CP=>by
  have k:=k _ CP λk Cc=>FM λz=>Cc (by rw[z];decide);refine ah7 hv (λq=>?_) λq=>?_
  .rw [if_pos q] at k
   exact jT rfl em t k
  .rw [if_neg q] at k
   exact PO k
theorem wg(S:St w h s ob Ah)(el:(h 58)[i]?=H (.A6 R))(em:(h 59)[j]?=H (.Ad (E1 R 0 [])))(e0:0<=at_)(e1:Be R at_=H (.A3 [.B 23,e,.A3 Ac]))(B8:1<=s.BX)
  (hv:Em d 75 [.O 85 0,e,this,BH] (C7 h w.c s.Bb) (.B x) (C7 h w.c s.Bb))
  (Vn:∀l,Be Ac x=H l->∃CC tgt,l=.B CC/\BP (E1 R 0 []) CC=H (.B tgt)/\∀h2,St w h2 s.Bb ob Ah->Bs [85] h h2->D_ d n this BH i j tgt h2 F)
  (Mn:Be Ac x=AB->∀h2,St w h2 s.Bb ob Ah->Bs [85] h h2->D_ d n this BH i j (at_+1) h2 F):D_ d (n+1) this BH i j at_ h F:=
 KI S el e0 e1 B8 λBF Bj CP=>by have sm:Bs [85] h (C7 h w.c s.Bb):=λk Cc=>FM λz=>Cc (by rw[z];decide);refine ah8 hv (λl BF q=>?_) λBF q=>PO (Mn q _ CP sm);obtain⟨CC,tgt,rfl,t,k⟩:=Vn l q;exact jT rfl em t (k _ CP sm)
theorem bM(S:St w h s ob Ah)(el:(h 58)[i]?=H (.A6 R))(e0:0<=at_)(e1:Be R at_=H (.A3 [.B 12,.AV]))(B8:1<=s.BX)
  (k:∀h2 r,St w h2 s.Bb ob Ah->Bs [85] h h2->F (.Ag (.A3 [.B 2,.B 0])) r h2):D_ d (n+1) this BH i j at_ h F:=
 KI S el e0 e1 B8 λBF Bj CP=>ah9 (bB () (k _ _ CP λk Cc=>FM λz=>Cc (by rw[z];decide)))
theorem je(S:St w h s ob Ah)(el:(h 58)[i]?=H (.A6 R))(e0:0<=at_)(e1:Be R at_=H (.A3 [.B 12,.A3 es]))(B8:1<=s.BX)
  (hv:Em d 75 [.O 85 0,.A3 es,this,BH] (C7 h w.c s.Bb) x (C7 h w.c s.Bb))
  (k:∀h2 r,St w h2 s.Bb ob Ah->Bs [85] h h2->F (.Ag (.A3 [.B 2,x])) r h2):D_ d (n+1) this BH i j at_ h F:=
 KI S el e0 e1 B8 λBF Bj CP=>aia hv (bB () (k _ _ CP λk Cc=>FM λz=>Cc (by rw[z];decide)))
theorem aiB(S:St w h s ob Ah)(el:(h 58)[i]?=H (.A6 R))(e0:0<=at_)(e1:Be R at_=H (.A3 [.B 13,e]))(B8:1<=s.BX)
  (hv:Em d 75 [.O 85 0,e,this,BH] (C7 h w.c s.Bb) x (C7 h w.c s.Bb))
  (k:∀h2 r,St w h2 s.Bb ob Ah->Bs [85] h h2->F (.Ag (.A3 [.B 3,x])) r h2):D_ d (n+1) this BH i j at_ h F:=
 KI S el e0 e1 B8 λBF Bj CP=>aib hv (bB () (k _ _ CP λk Cc=>FM λz=>Cc (by rw[z];decide)))
theorem aiC(S:St w h s ob Ah)(el:(h 58)[i]?=H (.A6 R))(e0:0<=at_)(e1:Be R at_=H (.A3 [.B 1,.A3 [.B 8,kx,o0,.A3 [AA,.B 1000,z1],.A3 (ar::as),z2]]))(B8:1<=s.BX)(IL:I Ah<1000)
  (hv:Em d 75 [.O 85 0,ar,this,BH] (C7 h w.c s.Bb) v (C7 h w.c s.Bb))
  (k:∀h2,St w h2 s.Bb ob (Ah++[v])->Bs [85,88,75] h h2->D_ (d+1) n this BH i j (at_+1) h2 F):D_ (d+1) (n+1) this BH i j at_ h F:=
 KI S el e0 e1 B8 λBF Bj CP=>by obtain⟨a,b,x,y,z⟩:=CP.JF;refine bC (ah0 CP.m x z (DC IL rfl) hv) (PO (k _ (CP.log x y z) ?_));intro k Cc;rw[CZ (λz=>Cc (by clear x;rcases y with rfl|rfl<;>(rw[z];decide))),FM (λz=>Cc (by rw[z];decide))]
theorem aiD(S:St w h s ob Ah)(el:(h 58)[i]?=H (.A6 R))(e0:0<=at_)(e1:Be R at_=H (.A3 [.B 1,.A3 [.B 22,kx,.A3 [.B 2,k2,.B lid],val]]))(B8:1<=s.BX)
  (ha:a=61\/a=72)(eb:(h a)[b]?=H (.Ad ll))(hl:I ll<1000)(hv:Em (d+1) 75 [.O 85 0,val,this,.O a b] (C7 h w.c s.Bb) (.B v) (C7 h w.c s.Bb))
  (k:∀h2,St w h2 s.Bb ob Ah->(h2 a)[b]?=H (.Ad (Ba ll lid (.B v)))->Bs [85,a] h h2->D_ (d+2) n this (.O a b) i j (at_+1) h2 F):D_ (d+2) (n+1) this (.O a b) i j at_ h F:=
 KI S el e0 e1 B8 λBF Bj CP=>by
  have na:a≠85:=by clear k hv eb;rcases ha with rfl|rfl<;>decide
  have Nr:(C7 h w.c s.Bb a)[b]?=H (.Ad ll):=by rw[FM na];exact eb
  refine bC (jP (λQ q=>jO q) hv Nr (DC hl rfl)) (PO (k _ (CP.AX (λk hk=>CZ λz=>?_) (Dw (CZ ?_) (CZ ?_))) (GL Nr) ?_))
  .subst z
   clear Nr na hv eb;rcases ha with rfl|rfl<;>exact absurd hk ()
  .clear Nr na k hv eb;rcases ha with rfl|rfl<;>decide
  .clear Nr na k hv eb;rcases ha with rfl|rfl<;>decide
  .intro k Cc
   rw[CZ (λz=>Cc (by rw[z];simp)),FM (λz=>Cc (by rw[z];simp))]
theorem wh(S:St w h s ob Ah)(el:(h 58)[i]?=H (.A6 R))(e0:0<=at_)(e1:Be R at_=H (.A3 [.B 1,.A3 [.B 22,kx,.A3 [.B 2,k2,.B lid],.A3 [.B 9,.B s.F7,.A3 [.B s.F7,.B w.c.ct,.A3 []],.A3 []]]]))(B8:1<=s.BX)
  (ha:a=61\/a=72)(eb:(h a)[b]?=H (.Ad ll))(hl:I ll<1000)(hn:I ob<1000)
  (k:∀h2,St w h2 s.Bb (ob++[[]]) Ah->(h2 a)[b]?=H (.Ad (Ba ll lid (.B (I ob+1))))->Bs [85,a,60,86] h h2->D_ (d+2) n this (.O a b) i j (at_+1) h2 F):D_ (d+2) (n+1) this (.O a b) i j at_ h F:=
 KI S el e0 e1 B8 λBF Bj CP=>by
  have na:∀k∈[85,60,86,58,59],a≠k:=by clear k eb;rcases ha with rfl|rfl<;>decide
  have ne:∀k,k≠60->k≠86->Bf (Bm _ 60 (.Ad [])) 86 0 (.A6 (JD (I ob+1))) k=C7 h w.c s.Bb k:=λk a b=>by rw[CZ b,F4 a]
  have Nr:(Bf (Bm (C7 h w.c s.Bb) 60 (.Ad [])) 86 0 (.A6 (JD (I ob+1))) a)[b]?=H (.Ad ll):=by rw[ne _ (na 60 ()) (na 86 ()),FM (na 85 ())];exact eb
  refine bC (jP (λQ q=>jO q) (λQ q=>ahV (x:=.AV) (s:=s.Bb) CP.m CP.Vz hn q) Nr (DC hl rfl)) (PO (k _ (CP.new.AX (λk hk=>CZ λz=>?_) (Dw (CZ (FU (na _ ()))) (CZ (FU (na _ ()))))) (GL Nr) ?_))
  .subst z
   clear Nr na eb;rcases ha with rfl|rfl<;>exact absurd hk ()
  .intro k Cc
   rw[CZ (λz=>Cc (by rw[z];simp)),ne _ (λz=>Cc (by rw[z];simp)) (λz=>Cc (by rw[z];simp)),FM (λz=>Cc (by rw[z];simp))]
theorem jf(S:St w h s ob Ah)(el:(h 58)[i]?=H (.A6 R))(e0:0<=at_)(e1:Be R at_=H (.A3 [.B 1,.A3 [.B 8,kx,o0,.A3 [AA,.B mid,z1],as,z2]]))(B8:1<=s.BX)(nl:mid≠1000)
  (hv:Em d 75 [.O 85 0,o0,this,BH] (C7 h w.c s.Bb) q (C7 h w.c s.Bb))
  (k:∀h1,St w h1 s.Bb ob Ah->Bs [85] h h1->AL A5 d 78 [.O 85 0,.B mid,q] h1 λx h2=>∃a b,x=.A3 [.B a,b]/\TM (d+1) n this BH i j (at_+1) F (if 2<a then a else 0) (if 2<a then b else .B 0) h2):
  D_ (d+1) (n+1) this BH i j at_ h F:=
 KI S el e0 e1 B8 λBF Bj CP=>by
  refine DJ #[] ?_;refine I2 #[] ?_;refine FJ rfl rfl rfl ?_;refine BK #[] ?_;refine BK (.AS #[] #[] (by simp[nl])) ?_;refine I2 (.AR #[] (.AR #[] (.AR (.Ab #[] hv) .AH))) (DL ?_ (k _ CP λk Cc=>FM λz=>Cc (by rw[z];decide)));rintro x h2 ⟨a,b,rfl,o⟩;by_cases l:2<a
  .rw [if_pos l,if_pos l] at o
   refine DJ (.AS #[] #[] (by simp[l])) ?_;exact ET #[] (As (bL o))
  .rw [if_neg l,if_neg l] at o
   refine BK (.AS #[] #[] (by simp[l])) (As (As (As ?_)));exact ET (x:=PN) #[] (As (bL o))
theorem aiE(S:St w h s ob Ah)(el:(h 58)[i]?=H (.A6 R))(e0:0<=at_)(e1:Be R at_=H (.A3 [.B 14,.A3 l1,.A3 l2]))(B8:1<=s.BX)
  (k:∀h1,St w h1 s.Bb ob Ah->Bs [85] h h1->AL A5 d 77 [.O 85 0,.A3 l1,this,BH] h1 λx h2=>AL A5 d 77 [.O 85 0,.A3 l2,this,BH] h2 λy h3=>
   ∃x1 y1 x2 y2,x=.A3 [.B x1,y1]/\y=.A3 [.B x2,y2]/\TM d n this BH i j (at_+1) F (if x2=0 then x1 else x2) (if x2=0 then y1 else y2) h3):
  D_ d (n+1) this BH i j at_ h F:=
 KI S el e0 e1 B8 λBF Bj CP=>by
  refine BK #[] ?_;refine BK #[] ?_;refine BK #[] ?_;refine BK #[] ?_;refine BK #[] ?_;refine BK #[] ?_;refine DJ (.CF (.G8 #[] (.GG #[]))) ?_;refine I2 #[] (DL ?_ (k _ CP λk Cc=>FM λz=>Cc (by rw[z];decide)));intro x h2 k2;refine I2 #[] (DL ?_ k2);rintro y h3 ⟨x1,y1,x2,y2,rfl,rfl,o⟩;by_cases z:x2=0
  .rw [if_pos z,if_pos z] at o
   exact BK (.PK #[] #[] rfl (by simp[z])) (As (As (As (As (As (As (As (As (bL o)))))))))
  .rw [if_neg z,if_neg z] at o
   exact DJ (.PK #[] #[] rfl (by simp[z])) (Ea #[] (As (As (As (As (As (As (As (As (bL o))))))))))
def Kp(k:Int):V:=.A3 [.B 3,.B k]
def G9(k A8 fid:Int):V:=.A3 [.B 4,.B k,Kp A8,.A3 [.B A8,.B fid]]
def Kq(i:Int):V:=.A3 [.B 1,.B 7,.B i]
def Nt(A8 fs i:Int):V:=.A3 [.B 1,.A3 [.B 22,.B 7,G9 7 A8 fs,Kq i]]
def bN(i:Int):V:=.A3 [.B 1,.A3 [.B 8,.B 0,.AV,.A3 [.B 12,.B 1000,.A3 []],.A3 [Kq i],.B 0]]
def Lq(A8 mid:Int):V:=.A3 [.B 1,.A3 [.B 8,.B 0,Kp A8,.A3 [.B A8,.B mid,.A3 []],.A3 [],.B 0]]
def PV:V:=.A3 [.B 12,.AV]
def Lr(i:Int):V:=.A3 [.B 20,.B i]
def Mr(i:Int):V:=.A3 [.B 21,.B i]
def D8(l:List V):V:=.A3 [.B 3,.A3 l,.B 0]
def TQ(k:Int)(o:Nat)(a b:V):V:=.A3 [.B 14,.B k,.An o,a,b,.B 0]
def GA(A8 fs Dp place HO:Int)(way:Nat):List V:=match way with
 |1=>[Nt A8 fs HO,bN place,.A3 [.B 13,Kq (100+place)],PV]|2=>[Nt A8 fs HO,bN place,Lq A8 Dp,PV]|_=>[Nt A8 fs HO,bN place,PV]
def Ij(A8 fs em skip:Int):List V:=[.A3 [.B 22,TQ 1 89 (G9 7 A8 fs) (Kq (-2)),.B 1,.B skip],.A3 [.B 22,TQ 1 88 (G9 7 A8 fs) (Kq (-1)),.B 1,.B skip],Lq A8 em,Lr skip,PV]
def Ms(s:V):Prop:=∃(m:Int) (t:List V),s=.A3 (.B m::t)/\m≠3/\m≠14
theorem wj(e:Ms s)(r:F8 h k s R):R=[s]:=by
 obtain⟨m,t,rfl,a,b⟩:=e;cases r with
 |DF=>rfl|Lk=>exact absurd rfl a|Mp=>exact absurd rfl b
theorem W0(e:∀s∈l,Ms s)(r:Gh h k l R):R=l:=by
 induction l generalizing R with
 |nil=>cases r;rfl
 |cons a l ih=>
  cases r with
  |AR x y=>rw[wj (e a D0) x,ih (λs q=>e s (DV _ q)) y];rfl
theorem W2(r:F8 h k (D8 l) R):Gh h k l R:=by
 cases r with
 |DF a=>exact absurd rfl a|Lk x=>exact x
def EM.C_(k:Int)(s:EM):EM:={s with BX:=s.BX-k}
theorem I3{s:EM}:(s.C_ k).Bb=s.C_ (k+1):=by unfold EM.C_ EM.Bb;congr 1;exact En (Co (.s (.s A2 A7) AF) (.s A2 BB) A4 [s.BX,k]) (Co (.s A2 BB) (.s (.s A2 A7) AF) A4 [s.BX,k])
theorem IM{s:EM}:(s.C_ k).C_ j=s.C_ (k+j):=by unfold EM.C_;congr 1;exact En (Co (.s (.s A2 A7) Aa) (.s A2 (.a A7 Aa)) A4 [s.BX,k,j]) (Co (.s A2 (.a A7 Aa)) (.s (.s A2 A7) Aa) A4 [s.BX,k,j])
theorem RG{s:EM}:s.Bb=s.C_ 1:=rfl
theorem Kr{s:EM}:s.Bb.Bb=s.C_ 2:=I3
structure Md(w:Lm)(h:A0)(s:EM)(K:Int->Option Int):Prop where
 F7:s.F7=w.c.A8
 tk:s.tk=w.c.A8
 kd:∃a l,(a=96\/a=97)/\s.kd=.O a 0/\(h a)[0]?=H (.Ad l)/\(∀f,BP l f=(K f).map .B)/\I l<64
theorem Md.RH(M:Md w h s K):RA h s.kd K:=by obtain⟨a,l,_,x,y,z⟩:=M.kd;exact⟨a,l,x,y,z.1⟩
theorem Md.AX(M:Md w h s K)(sm:Bs L h h2)(RI:96∉L)(Ks:97∉L):Md w h2 s K:=⟨M.F7,M.tk,by
 obtain⟨a,l,e,x,y,z⟩:=M.kd;exact⟨a,l,e,x,by rw[sm a (by clear y x;rcases e with rfl|rfl<;>assumption)];exact y,z⟩⟩
theorem Md.C_(M:Md w h s K):Md w h (s.C_ k) K:=⟨M.F7,M.tk,M.kd⟩
theorem Md.Bb(M:Md w h s K):Md w h s.Bb K:=⟨M.F7,M.tk,M.kd⟩
theorem Md.C7(M:Md w h s K):Md w (C7 h w.c s.Bb) s.Bb K:=M.Bb.AX (L:=[85]) (λk Cc=>FM λz=>Cc (by rw[z];decide)) () ()
theorem TR(S:St w h s ob Ah)(M:Md w h s K):Em (d+1) 75 [.O 85 0,Kp w.c.A8,this,BH] h this h:=λQ q=>wO S.m M.tk q
theorem Ls:Em (d+1) 75 [.O 85 0,Kq x,this,BH] h (.B x) h:=λQ q=>ahS q
theorem Mt(S:St w h s ob Ah)(M:Md w h s K)(hk:K fid=H k)(hq:ob[q]?=H l)(hv:(BP l fid).getD (.B 0)=.B v):
  Em (d+3) 75 [.O 85 0,G9 k w.c.A8 fid,.B (q+1:Nat),BH] h (.B v) h:=λQ x=>by
 have lt:=(Dd.mp hq).1;have o:=M.F7;rw[<-o];exact ahU (i:=q+1) S.m M.RH S.Vz hk (by rfl) (Ei (.a AK AF) AI A4 [q]) (BG 1 AI A7 AI A7 A4 [q,I ob] lt) (λQ x=>by rw[o];exact TR S M Q x) (S.Dh hq) hv x
theorem jg(S:St w h s ob Ah)(M:Md w h s K)(el:(h 58)[i]?=H (.A6 R))(e0:0<=at_)(e1:Be R at_=H (Nt w.c.A8 fs x))(B8:1<=s.BX)(hk:K fs=H 7)(hq:ob[q]?=H l)(hl:I l<1000)
  (k:∀h2,St w h2 s.Bb (ob.set q (Ba l fs (.B x))) Ah->Bs [85,60] h h2->D_ (d+5) n (.B (q+1:Nat)) BH i j (at_+1) h2 F):D_ (d+5) (n+1) (.B (q+1:Nat)) BH i j at_ h F:=
 jc S M.RH el e0 (e1.trans (by unfold Nt G9 Kp;rw[M.F7])) B8 hk (by rw[M.F7];rfl) hq hl (TR (S.C7 rfl) M.C7) Ls k
theorem wk(S:St w h s ob Ah)(hb:w.BL mid=H (D8 l))
  (k:∀(h2:A0) (R:List V) (i j m:Nat),St w h2 s ob Ah->Fr h h2->Gh h2 0 l R->(h2 58)[i]?=H (.A6 R)->(h2 59)[j]?=H (.Ad (E1 R 0 []))->(h2 61)[m]?=H (.Ad [])->
   ∃n,D_ (d+13) n this (.O 61 m) i j 0 h2 (Lp (d+13) Q)):
  AL A5 (d+15) 78 [.O 85 0,.B mid,this] h Q:=
 ait S hb λh2 R i j m a b c e f g=>(k h2 R i j m a b (W2 c) e f g).elim λn x=>bK x
theorem TS(S:St w h s ob Ah)(hb:w.BL mid=H (D8 l))(lf:∀s∈l,Ms s)
  (k:∀(h2:A0) (i j m:Nat),St w h2 s ob Ah->Fr h h2->(h2 58)[i]?=H (.A6 l)->(h2 59)[j]?=H (.Ad (E1 l 0 []))->(h2 61)[m]?=H (.Ad [])->
   ∃n,D_ (d+13) n this (.O 61 m) i j 0 h2 (Lp (d+13) Q)):
  AL A5 (d+15) 78 [.O 85 0,.B mid,this] h Q:=
 wk S hb λh2 R i j m a b c e f g=>by have:=W0 lf c;clear c lf hb;subst this;exact k h2 i j m a b e f g
theorem Ku(q:Q v h):Lp d Q (.Ag v) r h:=q
theorem wm(S:St w h s ob Ah)(M:Md w h s K)(hb:w.BL Dp=H (D8 (Ij w.c.A8 fs TT skip)))(B8:4<=s.BX)(hk:K fs=H 7)(hq:ob[q]?=H l)(hv:(BP l fs).getD (.B 0)=.B st)(hs:st< -2\/st=-1):
  AL A5 (d+15) 78 [.O 85 0,.B Dp,.B (q+1:Nat)] h λx h2=>x=.A3 [.B 2,.B 0]/\(∃k,0<=k/\k<=4/\St w h2 (s.C_ k) ob Ah)/\Fr h h2:=by
 refine TS S hb ?_ λh2 i j m CG sm el em eb=>⟨4+1,?_⟩
 .intro s hs
  simp only[Ij,D4,Hz,or_false] at hs;rcases hs with rfl|rfl|rfl|rfl|rfl<;>exact⟨_,_,rfl,by decide,by decide⟩
 have M2:=M.AX sm.sm () ();have mk:BP (E1 (Ij w.c.A8 fs TT skip) 0 []) skip=H _:=if_pos rfl;have fin:∀(p:Int) (h3:A0) (n:Nat),p=3->∀k,0<=k->k<=2->St w h3 (s.C_ k) ob Ah->Fr h h3->(h3 58)[i]?=H (.A6 (Ij w.c.A8 fs TT skip))->D_ (d+13) (n+2) (.B (q+1:Nat)) (.O 61 m) i j p h3 (Lp (d+13) λx h2=>x=.A3 [.B 2,.B 0]/\(∃k,0<=k/\k<=4/\St w h2 (s.C_ k) ob Ah)/\Fr h h2):=by
  rintro p h3 n rfl k k0 k2 CQ Bv HP;refine TN CQ HP () rfl (CB 1 (.k 4) A2 1 A7 (.k 2) AF (.s A2 A7) A4 [s.BX,k] B8 k2) λh4 CT DR=>?_;rw[I3] at CT;have Lu:(h4 58)[i]?=H (.A6 (Ij w.c.A8 fs TT skip)):=by rw[DR 58 ()];exact HP
  refine bM CT Lu () rfl (CB 1 (.k 4) A2 1 A7 (.k 2) AF (.s A2 BB) A4 [s.BX,k] B8 k2) λh5 r Dj E8=>Ku ⟨rfl,⟨k+1+1,(Ax 1 AK A2 AK (.a AI AF) A4 [k] k0),(Ax 1 A2 (.k 2) (.a AI AF) (.k 4) A4 [k] k2),?_⟩,?_⟩
  .rw [I3] at Dj;exact Dj
  .exact (Bv.Aw (.of DR () () ())).Aw (.of E8 () () ())
 refine TP CG el em () rfl (Ax 1 (.k 4) A2 AF A2 A4 [s.BX] B8) mk (λQ x=>wR (Mt (CG.C7 rfl) M2.C7 hk hq hv) Ls x) λh3 CQ Bv=>?_;have HP:(h3 58)[i]?=H (.A6 (Ij w.c.A8 fs TT skip)):=by rw[Bv 58 ()];exact el
 have aiF:(h3 59)[j]?=H (.Ad (E1 (Ij w.c.A8 fs TT skip) 0 [])):=by rw[Bv 59 ()];exact em
 have bO:=sm.Aw (.of Bv () () ());have EV:=M2.Bb.AX Bv () ();by_cases z:st< -2
 .rw [if_pos z]
  exact fin 3 h3 2 rfl 1 (Co AK AF A4 []) (Co AF (.k 2) A4 []) CQ bO HP
 .rw [if_neg z]
  have z1:=hs.resolve_left z;refine TP CQ HP aiF () rfl (Ax 1 (.k 4) A2 AF (.s A2 AF) A4 [s.BX] B8) mk (λQ x=>bA () () (Mt (CQ.C7 rfl) EV.C7 hk hq hv) Ls x) λh4 CT DR=>?_;rw[if_pos z1];rw[Kr] at CT;exact fin 3 h4 1 rfl 2 (Co AK (.k 2) A4 []) (Co (.k 2) (.k 2) A4 []) CT (bO.Aw (.of DR () () ())) (by rw[DR 58 ()];exact HP)
theorem aiG:∀s∈GA A8 fs Dp place HO way,Ms s:=by
 unfold GA;intro s hs;split at hs<;>simp only[D4,Hz,or_false] at hs
 .rcases hs with rfl|rfl|rfl|rfl<;>exact⟨_,_,rfl,by decide,by decide⟩
 .rcases hs with rfl|rfl|rfl|rfl<;>exact⟨_,_,rfl,by decide,by decide⟩
 .rcases hs with rfl|rfl|rfl<;>exact⟨_,_,rfl,by decide,by decide⟩
def Nu(place:Int)(way:Nat):Int×Int:=match way with|1=>(3,100+place)|_=>(2,0)
theorem aiH(S:St w h s ob Ah)(M:Md w h s K)(hb:w.BL mid=H (D8 (GA w.c.A8 fs Dp place HO way)))(hd:w.BL Dp=H (D8 (Ij w.c.A8 fs TT skip)))(nd:Dp≠1000)(B8:12<=s.BX)(hk:K fs=H 7)
  (hq:ob[q]?=H l)(hl:I l<1000)(IL:I Ah<1000)(hs:HO< -2\/HO=-1):
  AL A5 (d+30) 78 [.O 85 0,.B mid,.B (q+1:Nat)] h λx h2=>x=.A3 [.B (Nu place way).1,.B (Nu place way).2]/\(∃k,0<=k/\k<=9/\St w h2 (s.C_ k) (ob.set q (Ba l fs (.B HO))) (Ah++[.B place]))/\Fr h h2:=by
 refine TS S hb aiG λh2 i j m CG sm el em eb=>⟨4+1,?_⟩;have M2:=M.AX sm.sm () ();have n0:Be (GA w.c.A8 fs Dp place HO way) 0=H (Nt w.c.A8 fs HO):=by unfold GA;split<;>rfl
 have n1:Be (GA w.c.A8 fs Dp place HO way) 1=H (bN place):=by unfold GA;split<;>rfl
 have lt:=(Dd.mp hq).1;refine jg CG M2 el () n0 (Ax 1 (.k 12) A2 AF A2 A4 [s.BX] B8) hk hq hl λh3 CQ Bv=>?_;have bO:=sm.Aw (.of Bv () () ());have EV:=M2.Bb.AX Bv () ();have HP:(h3 58)[i]?=H (.A6 (GA w.c.A8 fs Dp place HO way)):=by rw[Bv 58 ()];exact el
 refine aiC CQ HP () n1 (by exact Ax 1 (.k 12) A2 AF (.s A2 AF) A4 [s.BX] B8) IL (Ls) λh4 CT DR=>?_;rw[Kr] at CT;have jh:=bO.Aw (.of DR () () ());have Lu:(h4 58)[i]?=H (.A6 (GA w.c.A8 fs Dp place HO way)):=by rw[DR 58 ()];exact HP
 have Jl:Md w h4 (s.C_ 2) K:=by rw[<-Kr];exact EV.Bb.AX DR () ()
 have ret:∀(p:Int) (h5:A0) (n:Nat) (k:Int),0<=k->k<=8->St w h5 (s.C_ k) (ob.set q (Ba l fs (.B HO))) (Ah++[.B place])->Fr h h5->(h5 58)[i]?=H (.A6 (GA w.c.A8 fs Dp place HO way))->0<=p->Be (GA w.c.A8 fs Dp place HO way) p=H PV->Nu place way=(2,0)->
   D_ (d+28) (n+1) (.B (q+1:Nat)) (.O 61 m) i j p h5 (Lp (d+28) λx h2=>x=.A3 [.B (Nu place way).1,.B (Nu place way).2]/\(∃k,0<=k/\k<=9/\St w h2 (s.C_ k) (ob.set q (Ba l fs (.B HO))) (Ah++[.B place]))/\Fr h h2):=by
  intro p h5 n k k0 RJ Dj E8 aiI p0 np fg;refine bM Dj aiI p0 np (by exact CB 1 (.k 12) A2 1 A7 (.k 8) AF (.s A2 A7) A4 [s.BX,k] B8 RJ) λh6 r GB Kv=>Ku ⟨by rw[fg],⟨k+1,(Ax 1 AK A2 AK AI A4 [k] k0),(Ax 1 A2 (.k 8) AI (.k 9) A4 [k] RJ),?_⟩,E8.Aw (.of Kv () () ())⟩;rw[I3] at GB;exact GB
 by_cases w1:way=1
 .clear ret HP n1 n0 em el hb;subst w1
  refine aiB CT Lu () rfl (by exact Ax 1 (.k 12) A2 AF (.s A2 (.k 2)) A4 [s.BX] B8) (Ls) λh5 r Dj E8=>Ku ⟨rfl,⟨3,by decide,by decide,?_⟩,jh.Aw (.of E8 () () ())⟩;rw[I3] at Dj;exact Dj
 .by_cases w2:way=2
  .clear w1 HP n1 n0 em el hb;subst w2
   refine jf CT Lu () rfl (by exact Ax 1 (.k 12) A2 AF (.s A2 (.k 2)) A4 [s.BX] B8) nd (TR (CT.C7 rfl) Jl.C7) λh5 Dj E8=>?_;have KJ:=Jl.Bb.AX E8 () ();have aiJ:(ob.set q _)[q]?=H (Ba l fs (.B HO)):=LS lt;refine DL ?_ (wm Dj KJ hd (by exact Ax 1 (.k 12) A2 (.k 4) (.s (.s A2 (.k 2)) AF) A4 [s.BX] B8) hk aiJ (by rw[FN,if_pos rfl];rfl) hs);rintro x h6 ⟨rfl,⟨k,k0,k4,GB⟩,Kv⟩;rw[I3,IM] at GB;have aiK:=(jh.Aw (.of E8 () () ())).Aw Kv;have bP:=Kv.C3.a _ _ (D3 _) (by rw[E8 58 ()];exact Lu);refine⟨2,_,rfl,.inl ⟨rfl,?_⟩⟩;exact ret 3 h6 _ (2+1+k) (Ax 1 AK A2 AK (.a (.a (.k 2) AF) A2) A4 [k] k0) (Ax 1 A2 (.k 4) (.a (.a (.k 2) AF) A2) (.k 8) A4 [k] k4) GB aiK bP () rfl rfl
  .have fg:Nu place way=(2,0):=by unfold Nu;split;exact absurd rfl w1;rfl
   have n2:Be (GA w.c.A8 fs Dp place HO way) 2=H PV:=by
    unfold GA;split
    .exact absurd rfl w1
    .exact absurd rfl w2
    .rfl
   exact ret 2 h4 _ 2 () () CT jh Lu () n2 fg
structure IP where
 N:Nat
 CR:Nat->Int
 PW:Nat->Nat
 Kw:Nat->Int
 Dp:Int
 em:Int
 ji:Int
 fs:Int
def Ky(A8:Int)(f:IP):Nat->Nat->V
 |0,p=>D8 [Lq A8 (f.Kw p)]|n+1,p=>if 0<=f.CR p then .A3 [.B 14,D8 [Lq A8 (f.Kw p)],.A3 [],D8 [Ky A8 f n (f.CR p).toNat]] else D8 [Lq A8 (f.Kw p)]
theorem aiL:Ky A8 f (n+1) p=if 0<=f.CR p then .A3 [.B 14,D8 [Lq A8 (f.Kw p)],.A3 [],D8 [Ky A8 f n (f.CR p).toNat]] else D8 [Lq A8 (f.Kw p)]:=rfl
def Nv(f:IP)(p:Nat):Int:=if 0<=f.CR p then-3-f.CR p else-1
def Kz(f:IP):Nat->Nat->List V
 |0,p=>[.B p]|n+1,p=>.B p::(if 0<=f.CR p then Kz f n (f.CR p).toNat else[])
theorem jj:Kz f (n+1) p=.B p::(if 0<=f.CR p then Kz f n (f.CR p).toNat else[]):=rfl
def L0(f:IP)(p:Nat):Option Int:=if f.PW p=1 then H (100+p) else AB
def JG(f:IP):Nat->Nat->Option Int
 |0,p=>L0 f p|n+1,p=>if 0<=f.CR p then(match JG f n (f.CR p).toNat with|some x=>H x|none=>L0 f p) else L0 f p
theorem wo:JG f (n+1) p=if 0<=f.CR p then(match JG f n (f.CR p).toNat with|some x=>H x|none=>L0 f p) else L0 f p:=rfl
structure RK(w:Lm)(f:IP)(K:Int->Option Int):Prop where
 F:∀p,p<f.N->w.BL (f.Kw p)=H (D8 (GA w.c.A8 f.fs f.Dp p (Nv f p) (f.PW p)))/\f.Kw p≠1000
 CR:∀p,p<f.N->0<=f.CR p->(f.CR p).toNat<p
 D:w.BL f.Dp=H (D8 (Ij w.c.A8 f.fs f.em f.ji))
 nd:f.Dp≠1000
 hk:K f.fs=H 7
theorem wu:Ba (Ba l k a) k b=Ba l k b:=by
 induction l with
 |nil=>exact if_pos rfl|cons x l ih=>
  obtain⟨y,z⟩:=x;rw[OU];by_cases e:y=k
  .rw [if_pos e,OU,if_pos e,OU,if_pos e]
  .rw [if_neg e,OU,if_neg e,ih,OU,if_neg e]
theorem TU{α:Type}{l:List α}{a b:α}:(l.set i a).set i b=l.set i b:=by rw[bQ]
theorem aiM(f:IP)(p:Nat):Nv f p< -2\/Nv f p=-1:=by
 unfold Nv;by_cases z:0<=f.CR p
 .rw [if_pos z];exact .inl (Ax 1 AK A2 (.a (.s (.s AK (.k 3)) A2) AF) (.s AK (.k 2)) A4 [f.CR p] z)
 .rw [if_neg z];exact .inr rfl
def Nx(t:Option Int):Int×V:=match t with|some x=>(3,.B x)|none=>(0,.B 0)
theorem jk(S:St w h s ob Ah)(M:Md w h s K)(fo:RK w f K)(hp:p<f.N)(el:(h 58)[i]?=H (.A6 R))(e0:0<=at_)(e1:Be R at_=H (Lq w.c.A8 (f.Kw p)))(B8:14<=s.BX)
  (hq:ob[q]?=H l)(hl:I l<1000)(IL:I Ah<1000)
  (k:∀h2 k,0<=k->k<=10->St w h2 (s.C_ k) (ob.set q (Ba l f.fs (.B (Nv f p)))) (Ah++[.B p])->Fr h h2->TM (d+31) m (.B (q+1:Nat)) BH i j (at_+1) F (Nx (L0 f p)).1 (Nx (L0 f p)).2 h2):
  D_ (d+31) (m+1) (.B (q+1:Nat)) BH i j at_ h F:=by
 refine jf S el e0 e1 (Ax 1 (.k 14) A2 AF A2 A4 [s.BX] B8) (fo.F p hp).2 (TR (S.C7 rfl) M.C7) λh5 Dj E8=>?_;have KJ:=M.Bb.AX E8 () ();refine DL ?_ (aiH Dj KJ (fo.F p hp).1 fo.D fo.nd (Ax 1 (.k 14) A2 (.k 12) (.s A2 AF) A4 [s.BX] B8) fo.hk hq hl IL (aiM f p));rintro x h6 ⟨rfl,⟨kf,k0,RL,GB⟩,fr⟩;rw[RG,IM] at GB;have o:=k h6 (1+kf) (Ax 1 AK A2 AK (.a AF A2) A4 [kf] k0) (Ax 1 A2 (.k 9) (.a AF A2) (.k 10) A4 [kf] RL) GB (Fr.Aw (.of E8 () () ()) fr);refine⟨_,_,rfl,?_⟩;unfold L0 Nx at o;by_cases w1:f.PW p=1
 .rw [if_pos w1] at o
  rw[w1];exact o
 .rw [if_neg w1] at o
  have g:Nu p (f.PW p)=(2,0):=by unfold Nu;split;exact absurd (by assumption) w1;rfl
  rw[g];exact o
theorem bR(r:F8 h 0 (Ky A8 f n p) R):R=[Lq A8 (f.Kw p)]/\(∀m,n=m+1->¬0<=f.CR p)\/
  ∃m va vb,n=m+1/\0<=f.CR p/\R=[.A3 [.B 14,.A3 va,.A3 vb]]/\HN h 0 (D8 [Lq A8 (f.Kw p)]) (.A3 va)/\HN h 0 (D8 [Ky A8 f m (f.CR p).toNat]) (.A3 vb):=by
 have one:∀{R:List V},F8 h 0 _ R->R=[Lq A8 (f.Kw p)]:=λr=>W0 (λs hs=>by
  rw[EK.mp hs];exact⟨_,_,rfl,by decide,by decide⟩) (W2 r)
 cases n with
 |zero=>exact .inl ⟨one r,λm e=>nomatch e⟩|succ n=>
  rw[aiL] at r;by_cases z:0<=f.CR p
  .rw [if_pos z] at r
   cases r with
   |DF a b=>exact absurd rfl b|Mp x y=>exact .inr ⟨n,_,_,rfl,z,rfl,x,y⟩
  .rw [if_neg z] at r
   exact .inl ⟨one r,λu u=>z⟩
theorem ww(q:Q (.A3 [.B (Nx t).1,(Nx t).2]) h)(el:(h 58)[i]?=H (.A6 R))(le:(I R:Int)<=at_):TM d (m+1) this BH i j at_ (Lp d Q) (Nx t).1 (Nx t).2 h:=by
 cases t with
 |none=>exact .inl ⟨rfl,aiz el le λr=>aiy q⟩|some x=>exact .inr ⟨(),λr=>Ku q⟩
set_option tactic.hygienic true in
theorem aiN(fo:RK w f K):∀(n D:Nat),D=d+31+n->∀{p m:Nat} {h:A0} {s:EM} {ob:List (List (Int×V))} {Ah:List V} {l:List (Int×V)} {i j:Nat} {at_:Int} {R:List V} {r:V} {F:DB->List T->A0->Prop} {BH:V},
  St w h s ob Ah->Md w h s K->p<f.N->p<=n->(h 58)[i]?=H (.A6 R)->0<=at_->Be R at_=H r->F8 h 0 (Ky w.c.A8 f n p) [r]->24*((n:Int)+1)<=s.BX->ob[q]?=H l->I l+n<900->I Ah+n<900->
  (∀h2 k,0<=k->k<=14*((n:Int)+1)->St w h2 (s.C_ k) (ob.set q (Ba l f.fs (.B (-1)))) (Ah++Kz f n p)->Fr h h2->TM D m (.B (q+1:Nat)) BH i j (at_+1) F (Nx (JG f n p)).1 (Nx (JG f n p)).2 h2)->
  D_ D (m+1) (.B (q+1:Nat)) BH i j at_ h F:=by
 intro n;induction n with
 |zero=>
  rintro D rfl p m h s ob Ah l i j at_ R r F BH S M hp jl el e0 e1 ra B8 hq hl IL k;rcases bR ra with⟨e,_⟩|⟨m',_,_,e,_⟩
  .cases e
   refine jk S M fo hp el e0 e1 (Ax 1 (.m 24 (.a AK AF)) A2 (.k 14) A2 A4 [s.BX] B8) hq (BG 1 (.a (.a A2 AK) AF) (.k 900) AI (.k 1000) A4 [I l] hl) (BG 1 (.a (.a A2 AK) AF) (.k 900) AI (.k 1000) A4 [I Ah] IL) λh2 kf k0 k1 CG fr=>?_
   have:Nv f p=-1:=if_neg λz=>by have:=fo.CR p hp z;exact K4 (By 1 AI A7 1 A7 AK AF AK A4 [(f.CR p).toNat,p] this jl)
   rw[this] at CG;exact k h2 kf k0 (Ax 1 A2 (.k 10) A2 (.m 14 (.a AK AF)) A4 [kf] k1) CG fr
  .cases e
 |succ n ih=>
  rintro D rfl p m h s ob Ah l i j at_ R r F BH S M hp jl el e0 e1 ra B8 hq hl IL k;rcases bR ra with⟨e,z⟩|⟨m',va,vb,e,z,e2,fa,fb⟩
  .clear ra;cases e
   have z:=z n rfl
   have:d+31+(n+1)=(d+n+1)+31:=(Fl (Ei (.a (.a A2 (.k 31)) BB) (.a (.a (.a A2 A7) AF) (.k 31)) A4 [d,n]) (Ei (.a (.a (.a A2 A7) AF) (.k 31)) (.a (.a A2 (.k 31)) BB) A4 [d,n]));rw[this] at k⊢;refine jk S M fo hp el e0 e1 (CB 1 (.m 24 (.a AI AF)) A7 24 AK A2 (.k 14) A7 A4 [n,s.BX] B8 (CU (n))) hq (BG 1 (.a (.a A2 BB) AF) (.k 900) AI (.k 1000) A4 [I l,n] hl) (BG 1 (.a (.a A2 BB) AF) (.k 900) AI (.k 1000) A4 [I Ah,n] IL) λh2 kf k0 k1 CG fr=>?_;rw[show Nv f p=-1 from if_neg z] at CG;have k:=k h2 kf k0 (CB 14 AK A2 1 A7 (.k 10) A7 (.m 14 (.a AI AF)) A4 [n,kf] (CU (n)) k1) (by rw[jj,if_neg z];exact CG) fr;rw[wo] at k;rw[if_neg z] at k;exact k
  .cases e
   cases e2;have ho:=fo.CR p hp z;cases fa with
   |@mk _ J7 i1 j1 bF _ ea aiO=>
   cases fb with
   |@mk _ EH i2 j2 bS _ eb jm=>
   have r1:=W0 (λs hs=>by
    rw[EK.mp hs];exact⟨_,_,rfl,by decide,by decide⟩) (W2 bF)
   clear bF aiO;subst r1;refine aiE S el e0 e1 (CB 1 (.m 24 (.a AI AF)) A7 24 AK A2 AF A7 A4 [n,s.BX] B8 (CU (n))) λh1 CP I4=>?_;have aiP:=M.Bb.AX I4 () ();have bT:Fr h h1:=.of I4 () () ();rw[show d+31+(n+1)=(d+n+31)+1 from congrArg (·+1) (J_ d 31 n)] at k⊢;refine bK (n:=1+1) ?_;refine jk CP aiP fo hp (bT.C3.a _ _ (D3 _) ea) () rfl (by exact CB 1 (.m 24 (.a AI AF)) A7 24 AK A2 (.k 14) (.s A7 AF) A4 [n,s.BX] B8 (CU (n))) hq (BG 1 (.a (.a A2 BB) AF) (.k 900) AI (.k 1000) A4 [I l,n] hl) (BG 1 (.a (.a A2 BB) AF) (.k 900) AI (.k 1000) A4 [I Ah,n] IL) λh2 k1 W3 wx CG Gu=>ww ?_ (Gu.C3.a _ _ (D3 _) (bT.C3.a _ _ (D3 _) ea)) (by simp);rw[RG,IM] at CG;have M2:Md w h2 (s.C_ (1+k1)) K:=(M.C_).AX (bT.Aw Gu).sm () ();have lt:=(Dd.mp hq).1;have bU:=bT.Aw Gu;have wy:=(W2 bS).C3 bU.C3 (Ds _);obtain⟨rr,hrr,aiQ⟩:∃rr,EH=[rr]/\F8 h2 0 (Ky w.c.A8 f n (f.CR p).toNat) [rr]:=by
    cases wy with
    |AR x y=>
     cases y;rcases bR x with⟨e,_⟩|⟨_,va,vb,_,_,e,_,_⟩
     .clear bS jm eb;subst e
      exact⟨_,rfl,x⟩
     .clear bS jm eb;subst e
      exact⟨_,rfl,x⟩
   clear wy bS jm;subst hrr;refine bK (n:=1+1) ?_;refine ih (d+n+31) (Fl (Ei (.a (.a A2 A7) (.k 31)) (.a (.a A2 (.k 31)) A7) A4 [d,n]) (Ei (.a (.a A2 (.k 31)) A7) (.a (.a A2 A7) (.k 31)) A4 [d,n])) (p:=(f.CR p).toNat) CG M2 (By 1 AI A7 1 BB Aa AI Aa A4 [(f.CR p).toNat,p,f.N] ho hp) (By 1 AI A7 1 A7 Cz A2 Aa A4 [(f.CR p).toNat,p,n] ho jl) (bU.C3.a _ _ (D3 _) eb) () rfl aiQ (by exact CB 1 (.m 24 (.a AI AF)) A7 1 Aa (.k 10) (.m 24 AI) (.s A7 (.a AF Aa)) A4 [n,s.BX,k1] B8 wx) (LS lt) (by have:=KH (l:=l) (k:=f.fs) (v:=.B (Nv f p));exact By 1 A2 BB 1 (.a (.a A7 Cz) AF) (.k 900) (.a (.a A2 Aa) AF) (.k 900) A4 [I (Ba l f.fs _),I l,n] this hl) (by simp;exact BG 1 (.a (.a A2 BB) AF) (.k 900) (.a (.a AI A7) AF) (.k 900) A4 [I Ah,n] IL) λh3 k2 aiR aiS CQ DO=>ww ?_ (DO.C3.a _ _ (D3 _) (bU.C3.a _ _ (D3 _) eb)) (by simp);rw[IM,TU,wu,PM] at CQ;have jn:[V.B p]++Kz f n (f.CR p).toNat=Kz f (n+1) p:=by show _=V.B p::(if 0<=f.CR p then Kz f n _ else[]);rw[if_pos z];rfl
   rw[jn] at CQ;have k:=k h3 (1+k1+k2) (CB 1 AK A2 1 AK A7 AK (.a (.a AF A2) A7) A4 [k1,k2] W3 aiR) (by exact CB 1 A2 (.m 14 BB) 1 Aa (.k 10) (.a (.a AF Aa) A2) (.m 14 (.a BB AF)) A4 [k2,n,k1] aiS wx) CQ (bU.Aw DO);have aiT:JG f (n+1) p=(match JG f n (f.CR p).toNat with|some x=>H x|none=>L0 f p):=by show(if 0<=f.CR p then _ else _)=_;rw[if_pos z]
   rw[aiT] at k;refine⟨_,_,_,_,rfl,rfl,?_⟩;cases ft:JG f n _ with
   |none=>rw[ft] at k;exact k|some x=>rw[ft] at k;exact k
def TV(A8:Int)(f:IP)(tl:List V):Nat->Nat->List V
 |_,0=>tl|p,c+1=>Lr (2+p)::Ky A8 f 3 p::Mr 1::TV A8 f tl (p+1) c
def I5(tl:List V)(rr:Nat->V):Nat->Nat->List V
 |_,0=>tl|p,c+1=>Lr (2+p)::rr p::Mr 1::I5 tl rr (p+1) c
theorem jo:I5 tl rr p (c+1)=Lr (2+p)::rr p::Mr 1::I5 tl rr (p+1) c:=rfl
def JH(A8 fs:Int):List V:=[Lr 1,Nt A8 fs (-1),PV]
def TW(A8 fs:Int)(N:Nat)(B_:List Int):List V:=match N with
 |0=>[]|_=>[.A3 [.B 23,TQ 7 98 (G9 7 A8 fs) (Kq (N+2)),.A3 ((Ey N).map λp=>.B (2+(N-1-p:Nat)))],.A3 [.B 23,G9 7 A8 fs,.A3 (.B 1::B_.map λr=>.B (if r<0 then 1 else 2+r))],Mr 1]
theorem W4(e:Ms s)(r:Gh h k (s::l) R):∃EH,R=s::EH/\Gh h k l EH:=by
 cases r with
 |AR x y=>exact⟨_,by rw[wj e x];rfl,y⟩
set_option tactic.hygienic true in
theorem wz{A8:Int}{f:IP}{tl:List V}(lt:∀s∈tl,Ms s):∀(c p:Nat) {R:List V},Gh h 0 (TV A8 f tl p c) R->∃rr,R=I5 tl rr p c/\∀k,p<=k->k<p+c->F8 h 0 (Ky A8 f 3 k) [rr k]/\∃m t,rr k=.A3 (.B m::t)/\m≠20
 |0,p,R,r=>⟨λu=>.AV,W0 lt r,λk a b=>(⟨(K4 (By 1 AI (.a A7 AK) 1 A7 A2 AF AK A4 [k,p] b a)).elim,(K4 (By 1 AI (.a A7 AK) 1 A7 A2 AF AK A4 [k,p] b a)).elim⟩)⟩|c+1,p,R,r=>by
  obtain⟨J7,rfl,r1⟩:=W4 ⟨_,_,rfl,by decide,by decide⟩ r;cases r1 with
  |AR x y=>
   rename_i ra rb;obtain⟨aiU,rfl,r3⟩:=W4 ⟨_,_,rfl,by decide,by decide⟩ y;obtain⟨rr,rfl,hr⟩:=wz lt c _ r3;obtain⟨z,hz,aiV⟩:∃z,ra=[z]/\∃m t,z=.A3 (.B m::t)/\m≠20:=by
    rcases bR x with⟨e,_⟩|⟨_,va,vb,_,_,e,_,_⟩
    .exact ⟨_,e,_,_,rfl,by decide⟩
    .exact ⟨_,e,_,_,rfl,by decide⟩
   subst hz;refine⟨λk=>if k=p then z else rr k,?_,λk a b=>?_⟩
   .have aiW:∀(c q:Nat),p<q->I5 tl rr q c=I5 tl (λk=>if k=p then z else rr k) q c:=by
     intro c;induction c with
     |zero=>intro q _;rfl|succ c ih=>
      intro q JE;rw[jo,jo,ih (q+1) (BG 1 AI A7 AI BB A4 [p,q] JE)]
      have:¬q=p:=(λEu=>K4 (By 1 AI A7 1 A7 A2 AF AK A4 [p,q] JE (BQ Eu)));simp only[this,if_false]
    rw[jo,<-aiW c (p+1) (Ei AI AI A4 [p])];simp only;rfl
   .by_cases e:k=p
    .clear b a r y r3 hr;subst e
     simp only;exact⟨x,aiV⟩
    .simp only[e]
     exact hr k (bV a (FU e)) (BG 1 AI (.a A7 Cz) AI (.a BB Aa) A4 [k,p,c] b)
theorem x6:∀(c p k:Nat),k<c->(I5 tl rr p c)[3*k]?=H (Lr (2+(p+k:Nat)))/\(I5 tl rr p c)[3*k+1]?=H (rr (p+k))/\(I5 tl rr p c)[3*k+2]?=H (Mr 1)
 |c+1,p,0,_=>⟨rfl,rfl,rfl⟩|c+1,p,k+1,l=>by have:=x6 (tl:=tl) (rr:=rr) c (p+1) k (BG 1 (.a AI AF) BB AI A7 A4 [k,c] l);rw[show p+1+k=p+(k+1) by exact Fl (Ei (.a AI A7) (.a A2 BB) A4 [p,k]) (Ei (.a A2 BB) (.a AI A7) A4 [p,k])] at this;exact this
theorem x7:∀(c p j:Nat),(I5 tl rr p c)[3*c+j]?=tl[j]?
 |0,p,j=>congrArg (tl[·]?) (MT j)|c+1,p,j=>by have:=x7 (tl:=tl) (rr:=rr) c (p+1) j;rw[show 3*(c+1)+j=3*c+j+1+1+1 by exact Fl (Ei (.a (.m 3 AI) A7) (.a (.a (.a (.a (.m 3 A2) A7) AF) AF) AF) A4 [c,j]) (Ei (.a (.a (.a (.a (.m 3 A2) A7) AF) AF) AF) (.a (.m 3 AI) A7) A4 [c,j])];exact this
theorem x8:∀(c p:Nat) (i:Int) (M:List (Int×V)) (CC:Int),(∀k,p<=k->k<p+c->∃m t,rr k=.A3 (.B m::t)/\m≠20)->
  BP (E1 (I5 (JH A8 fs) rr p c) i M) CC=if CC=1 then H (.B (i+3*c)) else if 2+(p:Int)<=CC/\CC<2+(p:Int)+c then H (.B (i+3*(CC-2-p))) else BP M CC
 |0,p,i,M,CC,hr=>by
  have:E1 (I5 (JH A8 fs) rr p 0) i M=Ba M 1 _:=rfl;rw[FN];by_cases e:CC=1
  .rw [if_pos e,if_pos e];congr 2;simp
  .rw [if_neg e,if_neg e,if_neg (λEu=>QH (CB 1 (.a (.k 2) A2) A7 1 BB (.a (.a (.k 2) A2) AK) AF AK A4 [p,CC] Eu.1 Eu.2))]
 |c+1,p,i,M,CC,hr=>by
  obtain⟨m,t,e1,e2⟩:=hr p (Ds _) (Ei AI (.a A2 BB) A4 [p,c]);have ih:=x8 (A8:=A8) (fs:=fs) c (p+1) (i+3) (Ba M (2+p) (.B i)) CC λk a b=>hr k (BG 1 AI A7 A2 A7 A4 [p,k] a) (BG 1 AI (.a BB Aa) AI (.a A7 Cz) A4 [k,p,c] b)
  have:E1 (I5 (JH A8 fs) rr p (c+1)) i M=E1 (I5 (JH A8 fs) rr (p+1) c) (i+3) (Ba M (2+p) (.B i)):=by show E1 _ _ (Ba M _ _)=_;rw[e1,jV e2,jV ()];rw[show i+1+1+1=i+3 by exact En (Co (.a (.a AI AF) AF) (.a A2 (.k 3)) A4 [i]) (Co (.a A2 (.k 3)) (.a (.a AI AF) AF) A4 [i])]
  rw[this,ih,FN];by_cases e:CC=1
  .rw [if_pos e,if_pos e];congr 2;exact En (Co (.a (.a A2 (.k 3)) (.m 3 A7)) (.a A2 (.m 3 BB)) A4 [i,c]) (Co (.a A2 (.m 3 BB)) (.a (.a A2 (.k 3)) (.m 3 A7)) A4 [i,c])
  .rw [if_neg e,if_neg e]
   by_cases a:2+((p+1:Nat))<=CC/\CC<2+((p+1:Nat))+c
   .rw [if_pos a,if_pos (by exact⟨Ax 1 (.a (.k 2) AI) A7 (.a (.k 2) A2) A7 A4 [p,CC] a.1,Ax 1 AI (.a (.a (.k 2) BB) Aa) AI (.a (.a (.k 2) A7) Cz) A4 [CC,p,c] a.2⟩)];congr 2;exact En (Co (.a (.a A2 (.k 3)) (.m 3 (.s (.s A7 (.k 2)) Cz))) (.a A2 (.m 3 (.s (.s A7 (.k 2)) Aa))) A4 [i,CC,p]) (Co (.a A2 (.m 3 (.s (.s A7 (.k 2)) Aa))) (.a (.a A2 (.k 3)) (.m 3 (.s (.s A7 (.k 2)) Cz))) A4 [i,CC,p])
   .rw [if_neg a]
    by_cases b:CC=2+p
    .rw [if_pos b,if_pos (by exact⟨Ax 1 (.a (.k 2) A2) A7 (.a (.k 2) A2) A7 A4 [p,CC] (Eg b.symm),CB 1 A2 (.a (.k 2) A7) 1 AK Aa AI (.a (.a (.k 2) A7) Cz) A4 [CC,p,c] (Eg b) (CU c)⟩)];congr 2;exact En (Ax 3 (.a (.k 2) A2) A7 Aa (.a Aa (.m 3 (.s (.s A7 (.k 2)) A2))) A4 [p,CC,i] (Eg b.symm)) (Ax 3 A2 (.a (.k 2) A7) (.a Aa (.m 3 (.s (.s A2 (.k 2)) A7))) Aa A4 [CC,p,i] (Eg b))
    .rw [if_neg b,if_neg λq=>a ⟨Ax 1 (.a (.a (.k 2) A2) AF) A7 (.a (.k 2) AI) A7 A4 [p,CC] (Int.lt_iff_le_and_ne.mpr ⟨q.1,FU b⟩),Ax 1 AI (.a (.a (.k 2) A7) Cz) AI (.a (.a (.k 2) BB) Aa) A4 [CC,p,c] q.2⟩]
structure bW(A8:Int)(f:IP)(R:List V)(A0:Int)(rr:Nat->V):Prop where
 h0:0<=A0
 pl:∀p:Nat,p<f.N->Be R (A0+3*p)=H (Lr (2+p))/\Be R (A0+3*p+1)=H (rr p)/\Be R (A0+3*p+1+1)=H (Mr 1)
 en:Be R (A0+3*f.N)=H (Lr 1)/\Be R (A0+3*f.N+1)=H (Nt A8 f.fs (-1))/\Be R (A0+3*f.N+1+1)=H PV
 me:BP (E1 R 0 []) 1=H (.B (A0+3*f.N))
 mp:∀p:Nat,p<f.N->BP (E1 R 0 []) (2+p)=H (.B (A0+3*p))
def FO(f:IP)(at_:Int):Int×V:=if 0<=at_ then(match JG f 3 at_.toNat with|some x=>(3,.B x)|none=>(2,.B 0)) else(2,.B 0)
def Lv(f:IP)(at_:Int):List V:=if 0<=at_ then Kz f 3 at_.toNat else[]
section
variable{i j:Nat}
theorem x9(S:St w h s ob Ah)(M:Md w h s K)(fo:RK w f K)(Bx:bW w.c.A8 f R Ny rr)(el:(h 58)[i]?=H (.A6 R))(B8:4<=s.BX)(hq:ob[q]?=H l)(hl:I l<1000)
  (k:∀h2 r,St w h2 (s.C_ 3) (ob.set q (Ba l f.fs (.B (-1)))) Ah->Fr h h2->F (.Ag (.A3 [.B 2,.B 0])) r h2):D_ (d+5) (n+3) (.B (q+1:Nat)) BH i j (Ny+3*f.N) h F:=by
 have h0:=Bx.h0;refine TN S el (CB 1 AK A2 3 AK A7 AK (.a A2 (.m 3 A7)) A4 [Ny,f.N] h0 (CU _)) Bx.en.1 (Ax 1 (.k 4) A2 AF A2 A4 [s.BX] B8) λh3 CQ Bv=>?_;have EV:=M.Bb.AX Bv () ();have HP:(h3 58)[i]?=H (.A6 R):=by rw[Bv 58 ()];exact el
 refine jg CQ EV HP (CB 1 AK A2 3 AK A7 AK (.a (.a A2 (.m 3 A7)) AF) A4 [Ny,f.N] h0 (CU _)) Bx.en.2.1 (Ax 1 (.k 4) A2 AF (.s A2 AF) A4 [s.BX] B8) fo.hk hq hl λh4 CT DR=>?_;rw[Kr] at CT;have Lu:(h4 58)[i]?=H (.A6 R):=by rw[DR 58 ()];exact HP
 refine bM CT Lu (CB 1 AK A2 3 AK A7 AK (.a (.a (.a A2 (.m 3 A7)) AF) AF) A4 [Ny,f.N] h0 (CU _)) Bx.en.2.2 (Ax 1 (.k 4) A2 AF (.s A2 (.k 2)) A4 [s.BX] B8) λh5 r Dj E8=>k h5 r ?_ ?_
 .rw [I3] at Dj;exact Dj
 .exact (Fr.of Bv () () ()).Aw ((Fr.of DR () () ()).Aw (.of E8 () () ()))
theorem aiX(S:St w h s ob Ah)(M:Md w h s K)(fo:RK w f K)(Bx:bW w.c.A8 f R Ny rr)(el:(h 58)[i]?=H (.A6 R))(em:(h 59)[j]?=H (.Ad (E1 R 0 [])))(hp:p<f.N)(hp3:p<=3)(ra:F8 h 0 (Ky w.c.A8 f 3 p) [rr p])(B8:105<=s.BX)
  (hq:ob[q]?=H l)(hl:I l<890)(IL:I Ah<890)
  (k:∀h2 r k,0<=k->k<=70->St w h2 (s.C_ k) (ob.set q (Ba l f.fs (.B (-1)))) (Ah++Kz f 3 p)->Fr h h2->F (.Ag (.A3 [.B (FO f p).1,(FO f p).2])) r h2):
  D_ (d+34) (n+6) (.B (q+1:Nat)) BH i j (Ny+3*p) h F:=by
 have h0:=Bx.h0;obtain⟨p1,p2,p3⟩:=Bx.pl p hp;refine TN S el (CB 1 AK A2 3 AK A7 AK (.a A2 (.m 3 A7)) A4 [Ny,p] h0 (CU p)) p1 (Ax 1 (.k 105) A2 AF A2 A4 [s.BX] B8) λh3 CQ Bv=>?_;have EV:=M.Bb.AX Bv () ();have DO:Fr h h3:=.of Bv () () ();have HP:=DO.C3.a _ _ (D3 _) el;refine aiN fo 3 _ rfl CQ EV hp hp3 HP (CB 1 AK A2 3 AK A7 AK (.a (.a A2 (.m 3 A7)) AF) A4 [Ny,p] h0 (CU p)) p2 (ra.C3 DO.C3 (Ds _)) (Ax 1 (.k 105) A2 (.m 24 (.a (.k 3) AF)) (.s A2 AF) A4 [s.BX] B8) hq (BG 1 AI (.k 890) (.a (.a A2 (.k 3)) AF) (.k 900) A4 [I l] hl) (BG 1 AI (.k 890) (.a (.a A2 (.k 3)) AF) (.k 900) A4 [I Ah] IL) λh4 k4 bX TX CT Ik=>?_;rw[RG,IM] at CT;have I6:=DO.Aw Ik;have Lu:=I6.C3.a _ _ (D3 _) el;have aiY:=I6.C3.b _ _ em;have Jl:Md w h4 (s.C_ (1+k4)) K:=M.C_.AX I6.sm () ();have lt:=(Dd.mp hq).1;have g:FO f p=(match JG f 3 p with|some x=>(3,.B x)|none=>(2,.B 0)):=if_pos (Ax 1 AK A2 AK A2 A4 [p] (CU p));cases t:JG f 3 p with
 |some x=>
  rw[t] at g;refine .inr ⟨(),λr=>?_⟩;have k:=k h4 r (1+k4) (Ax 1 AK A2 AK (.a AF A2) A4 [k4] bX) (Ax 1 A2 (.m 14 (.a (.k 3) AF)) (.a AF A2) (.k 70) A4 [k4] TX) CT I6;rw[g] at k;exact k
 |none=>
  rw[t] at g;refine .inl ⟨rfl,?_⟩;refine jd CT Lu aiY (CB 1 AK A2 3 AK A7 AK (.a (.a (.a A2 (.m 3 A7)) AF) AF) A4 [Ny,p] h0 (CU p)) p3 (CB 1 (.k 105) A2 1 A7 (.m 14 (.a (.k 3) AF)) AF (.s A2 (.a AF A7)) A4 [s.BX,k4] B8 TX) Bx.me λh5 Dj E8=>?_;have KJ:Md w h5 (s.C_ (1+k4+1)) K:=by rw[<-I3];exact Jl.Bb.AX E8 () ()
  have PX:Fr h4 h5:=.of E8 () () ();rw[I3] at Dj;refine x9 Dj KJ fo Bx (PX.C3.a _ _ (D3 _) Lu) (CB 1 (.k 105) A2 1 A7 (.m 14 (.a (.k 3) AF)) (.k 4) (.s A2 (.a (.a AF A7) AF)) A4 [s.BX,k4] B8 TX) (LS lt) (by have:=KH (l:=l) (k:=f.fs) (v:=.B (-1));exact By 1 A2 BB 1 BB (.k 890) AI (.k 1000) A4 [I (Ba l _ _),I l] this hl) λh6 r GB RM=>?_;rw[IM,TU,wu] at GB;have k:=k h6 r (1+k4+1+3) (Ax 1 AK A2 AK (.a (.a (.a AF A2) AF) (.k 3)) A4 [k4] bX) (Ax 1 A2 (.m 14 (.a (.k 3) AF)) (.a (.a (.a AF A2) AF) (.k 3)) (.k 70) A4 [k4] TX) GB (I6.Aw (PX.Aw RM));rw[g] at k;exact k
def Cj(N:Nat)(B_:List Int)(st:Int):Int:=if st< -2 then-3-st else if 0<st then B_.getD (st-1).toNat (-1) else-1
def PY(A8:Int)(f:IP)(B_:List Int):V:=D8 (TW A8 f.fs f.N B_++TV A8 f (JH A8 f.fs) 0 f.N)
theorem ai0:∀s∈JH A8 fs,Ms s:=by intro s hs;simp only[JH,D4,Hz,or_false] at hs;rcases hs with rfl|rfl|rfl<;>exact⟨_,_,rfl,by decide,by decide⟩
theorem Lw:Be l (i:Int)=l[i]?:=rfl
theorem ai1(r:Gh h 0 (TW A8 f.fs f.N B_++TV A8 f (JH A8 f.fs) 0 f.N) R):
  ∃rr,(∀p,p<f.N->F8 h 0 (Ky A8 f 3 p) [rr p])/\R=TW A8 f.fs f.N B_++I5 (JH A8 f.fs) rr 0 f.N/\bW A8 f R (if f.N=0 then 0 else 3) rr:=by
 have key:∀{EH:List V},Gh h 0 (TV A8 f (JH A8 f.fs) 0 f.N) EH->R=TW A8 f.fs f.N B_++EH->∃rr,(∀p,p<f.N->F8 h 0 (Ky A8 f 3 p) [rr p])/\R=TW A8 f.fs f.N B_++I5 (JH A8 f.fs) rr 0 f.N/\bW A8 f R (if f.N=0 then 0 else 3) rr:=by
  intro EH r2 e;obtain⟨rr,rfl,hr⟩:=wz ai0 f.N 0 r2;refine⟨rr,λp hp=>(hr p (D3 _) (BG 1 AI A7 AI (.a AK A7) A4 [p,f.N] hp)).1,e,?_⟩;have hm:=λCC M i=>x8 (A8:=A8) (fs:=f.fs) f.N 0 i M CC λk a b=>(hr k a b).2;have hl:I (TW A8 f.fs f.N B_)=(if f.N=0 then 0 else 3)/\E1 R 0 []=E1 (I5 (JH A8 f.fs) rr 0 f.N) ((if f.N=0 then 0 else 3:Nat)) []:=by
   rw[e];cases f.N with
   |zero=>exact⟨rfl,rfl⟩|succ n=>exact⟨rfl,rfl⟩
  obtain⟨hl,xA⟩:=hl;have hn:∀j:Nat,Be R (((if f.N=0 then 0 else 3)+j:Nat))=(I5 _ rr 0 f.N)[j]?:=λj=>by rw[Lw,e,JT (Cr (BQ hl) (QE ..)),hl];congr 1;exact Nat.add_sub_cancel_left ..
  have cast:(if f.N=0 then 0 else 3)=((if f.N=0 then 0 else 3:Nat):Int):=by split<;>rfl
  rw[cast];refine⟨CU _,λp hp=>?_,?_,?_,λp hp=>?_⟩
  .obtain ⟨a,b,c⟩:=x6 (tl:=JH A8 f.fs) (rr:=rr) f.N 0 p hp
   rw[MT] at a b;have x:=hn (3*p);have y:=hn (3*p+1);have z:=hn (3*p+2);push_cast at x y z⊢;refine⟨?_,?_,?_⟩
   .rw [x,a]
   .rw [y,b]
   .rw [z,c]
  .have a:=x7 (tl:=JH A8 f.fs) (rr:=rr) f.N 0
   have x:=hn (3*f.N+0);have y:=hn (3*f.N+1);have z:=hn (3*f.N+2);rw[a] at x y z;refine⟨?_,?_,?_⟩
   .rw [x];rfl
   .rw [y];rfl
   .rw [z];rfl
  .rw [xA,hm,if_pos rfl]
  .rw [xA,hm,if_neg (λEu=>QH (CB 1 (.a (.k 2) A2) AF 1 AK A2 AF AK A4 [p] (Eg Eu) (CU p))),if_pos (⟨Ax 1 AK A2 (.a (.k 2) AK) (.a (.k 2) A2) A4 [p] (CU p),Ax 1 AI A7 (.a (.a (.k 2) A2) AF) (.a (.a (.k 2) AK) A7) A4 [p,f.N] (DM.mpr hp)⟩)]
   congr 2;exact congrArg (λz=>_+3*z) ((Int.sub_zero _).trans (gP.mpr rfl))
 cases hN:f.N with
 |zero=>
  rw[hN] at r key;exact key r rfl
 |succ n=>
  rw[hN] at r key;obtain⟨J7,rfl,r1⟩:=W4 ⟨_,_,rfl,by decide,by decide⟩ r;obtain⟨EH,rfl,r2⟩:=W4 ⟨_,_,rfl,by decide,by decide⟩ r1;clear r r1;obtain⟨aiU,rfl,r3⟩:=W4 ⟨_,_,rfl,by decide,by decide⟩ r2;exact key r3 rfl
structure L1(f:IP)(B_:List Int)(st:Int):Prop where
 lo:-2-(f.N:Int)<=st
 hi:st<=I B_
 rg:∀r∈B_,-1<=r/\r<f.N
 n3:f.N<=3
set_option tactic.hygienic true in
theorem xB(o:L1 f B_ st):-1<=Cj f.N B_ st/\Cj f.N B_ st<f.N:=by
 have:=o.lo;unfold Cj;split
 .exact ⟨Ax 1 AI (.s AK (.k 2)) (.s AK AF) (.s (.s AK (.k 3)) A2) A4 [st] (by assumption),Ax 1 (.s (.s AK (.k 2)) A2) A7 (.a (.s (.s AK (.k 3)) A7) AF) A2 A4 [f.N,st] this⟩
 .split
  .rw [Lf]
   cases e:B_[(st-1).toNat]? with
   |none=>simp;exact Ax 1 AK A2 (.a (.s AK AF) AF) A2 A4 [f.N] (CU _)|some r=>
    have:=o.rg r (HE e);exact this
  .exact ⟨Co (.s AK AF) (.s AK AF) A4 [],Ax 1 AK A2 (.a (.s AK AF) AF) A2 A4 [f.N] (CU _)⟩
theorem xC(S:St w h s ob Ah)(M:Md w h s K)(fo:RK w f K)(hb:w.BL f.em=H (PY w.c.A8 f B_))(o:L1 f B_ st)(B8:120<=s.BX)(hq:ob[q]?=H l)(hl:I l<890)(IL:I Ah<890)
  (hv:(BP l f.fs).getD (.B 0)=.B st):
  AL A5 (d+36) 78 [.O 85 0,.B f.em,.B (q+1:Nat)] h λx h2=>x=.A3 [.B (FO f (Cj f.N B_ st)).1,(FO f (Cj f.N B_ st)).2]/\
   (∃k,0<=k/\k<=80/\St w h2 (s.C_ k) (ob.set q (Ba l f.fs (.B (-1)))) (Ah++Lv f (Cj f.N B_ st)))/\Fr h h2:=by
 refine wk S hb λh2 R i j m CG Gu ra el em eb=>⟨9,?_⟩;obtain⟨rr,hr,eR,Bx⟩:=ai1 ra;have M2:=M.AX Gu.sm () ();have cl:=xB o;have rg:=o.rg;have W5:∀(h3:A0) (n:Nat) (k:Int),0<=k->k<=3->St w h3 (s.C_ k) ob Ah->Fr h2 h3->Cj f.N B_ st<0->D_ (d+34) (n+3) (.B (q+1:Nat)) (.O 61 m) i j ((if f.N=0 then 0 else 3)+3*f.N) h3 (Lp (d+34) λx h2=>x=.A3 [.B (FO f (Cj f.N B_ st)).1,(FO f (Cj f.N B_ st)).2]/\
   (∃k,0<=k/\k<=80/\St w h2 (s.C_ k) (ob.set q (Ba l f.fs (.B (-1)))) (Ah++Lv f (Cj f.N B_ st)))/\Fr h h2):=by
  intro h3 n k k0 k3 CQ DO neg;refine x9 CQ (M2.C_.AX DO.sm () ()) fo Bx (DO.C3.a _ _ (D3 _) el) (by exact CB 1 (.k 120) A2 1 A7 (.k 3) (.k 4) (.s A2 A7) A4 [s.BX,k] B8 k3) hq (DC hl rfl) λh4 r CT Ik=>Ku ⟨?_,⟨k+3,(Ax 1 AK A2 AK (.a A2 (.k 3)) A4 [k] k0),(Ax 1 A2 (.k 3) (.a A2 (.k 3)) (.k 80) A4 [k] k3),?_⟩,Gu.Aw (DO.Aw Ik)⟩
  .unfold FO;rw[if_neg (Mu.mpr (Ax 1 AI AK AI AK A4 [Cj f.N B_ st] neg))]
  .rw [IM] at CT
   unfold Lv;rw[if_neg (Mu.mpr (Ax 1 AI AK AI AK A4 [Cj f.N B_ st] neg)),Oc];exact CT
 have jq:∀(h3:A0) (n:Nat) (k:Int) (p:Nat),0<=k->k<=3->St w h3 (s.C_ k) ob Ah->Fr h2 h3->Cj f.N B_ st=p->D_ (d+34) (n+6) (.B (q+1:Nat)) (.O 61 m) i j ((if f.N=0 then 0 else 3)+3*p) h3 (Lp (d+34) λx h2=>x=.A3 [.B (FO f (Cj f.N B_ st)).1,(FO f (Cj f.N B_ st)).2]/\
   (∃k,0<=k/\k<=80/\St w h2 (s.C_ k) (ob.set q (Ba l f.fs (.B (-1)))) (Ah++Lv f (Cj f.N B_ st)))/\Fr h h2):=by
  intro h3 n k p k0 k3 CQ DO ep;have hp:=(DM.mp (CB 1 AI A7 1 Aa A2 Cz A7 A4 [Cj f.N B_ st,f.N,p] cl.2 (Eg ep.symm)));have n3:=o.n3;refine aiX CQ (M2.C_.AX DO.sm () ()) fo Bx (DO.C3.a _ _ (D3 _) el) (DO.C3.b _ _ em) hp (By 1 AI A7 1 A7 (.k 3) A2 (.k 3) A4 [p,f.N] hp n3) ((hr p hp).C3 DO.C3 (Ds _)) (by exact CB 1 (.k 120) A2 1 A7 (.k 3) (.k 105) (.s A2 A7) A4 [s.BX,k] B8 k3) hq hl IL λh4 r k4 bX TX CT Ik=>Ku ⟨?_,⟨k+k4,(CB 1 AK A2 1 AK A7 AK (.a A2 A7) A4 [k,k4] k0 bX),(CB 1 A2 (.k 3) 1 A7 (.k 70) (.a A2 A7) (.k 80) A4 [k,k4] k3 TX),?_⟩,Gu.Aw (DO.Aw Ik)⟩
  .rw [ep]
  .rw [IM] at CT
   rw[ep];exact CT
 by_cases z:f.N=0
 .have neg:Cj f.N B_ st<0:=(CB 1 AI A7 1 A7 AK AI AK A4 [Cj f.N B_ st,f.N] cl.2 (DM.mpr (BQ z)))
  have e:=W5 h2 6 0 () () (by unfold EM.C_;simpa using CG) (Fr.BO _) neg;rw[z] at e;exact e
 .rw [if_neg z] at W5 jq Bx
  have hR:∃N',f.N=N'+1:=⟨f.N-1,(Xj (Nat.pos_of_ne_zero z)).symm⟩;obtain⟨N',hN⟩:=hR;have t0:Be R 0=H (.A3 [.B 23,TQ 7 98 (G9 7 w.c.A8 f.fs) (Kq (f.N+2)),.A3 ((Ey f.N).map λp=>.B (2+(f.N-1-p:Nat)))]):=by rw[eR];rw[hN];rfl
  have t1:Be R (0+1)=H (.A3 [.B 23,G9 7 w.c.A8 f.fs,.A3 (.B 1::B_.map λr=>.B (if r<0 then 1 else 2+r))]):=by rw[eR];rw[hN];rfl
  have t2:Be R (0+1+1)=H (Mr 1):=by rw[eR];rw[hN];rfl
  have fl:∀{h3:A0} {s3:EM},St w h3 s3 ob Ah->Md w h3 s3 K->Em (d+34) _ [.O 85 0,G9 7 w.c.A8 f.fs,.B _,.O 61 m] h3 (.B st) h3:=λCQ EV=>Mt CQ EV fo.hk hq hv;have u6:∀{h3:A0} {s3:EM},St w h3 s3 ob Ah->Md w h3 s3 K->Em (d+33) _ [.O 85 0,G9 7 w.c.A8 f.fs,.B _,.O 61 m] h3 (.B st) h3:=λCQ EV=>Mt CQ EV fo.hk hq hv;refine wg CG el em () t0 (Ax 1 (.k 120) A2 AF A2 A4 [s.BX] B8) (λQ x=>ahW (u6 (CG.C7 rfl) M2.C7) (Ls) x) (λlv Il=>?_) λhno h3 CQ Bv=>?_
  ·
   have hx:0<=st+(f.N+2):=by have:=o.lo;exact Ax 1 (.s (.s AK (.k 2)) A2) A7 AK (.a A7 (.a A2 (.k 2))) A4 [f.N,st] this
   obtain⟨u,hu⟩:∃u:Nat,st+(f.N+2)=u:=⟨(st+(f.N+2)).toNat,(S6 hx).symm⟩;rw[hu,Lw,GY] at Il;cases hg:(Ey f.N)[u]? with
   |none=>rw[hg] at Il;cases Il
   |some u'=>
    rw[hg] at Il;cases Il;have hlt:u<f.N:=by have:=(Dd.mp hg).1;rwa [List.length_range] at this
    rw[Yg hlt] at hg;cases hg;refine⟨_,_,rfl,Bx.mp _ (By 1 A2 A7 1 BB Aa AI Aa A4 [f.N-1-u,f.N-1,f.N] (Nat.sub_le (f.N-1) (u)) (K3 (BG 1 AI A7 AF A7 A4 [N',f.N] (BQ hN.symm)))),λh3 CQ Bv=>?_⟩;refine jq h3 2 1 _ () () CQ (.of Bv () () ()) ?_;unfold Cj;rw[if_pos (by exact CB 1 (.a A2 (.a A7 (.k 2))) Aa 1 Cz A7 AI (.s AK (.k 2)) A4 [st,f.N,u] (Eg hu) (DM.mpr hlt))];have E:f.N-1-u+(u+1)=f.N:=by rw[Nat.sub_sub,Xp 1];exact Xj hlt
    have E:=congrArg Dl E;exact En (CB 1 Aa (.a A2 (.a A7 (.k 2))) 1 A7 (.a Er Cz) (.s (.s AK (.k 3)) A2) Er A4 [st,f.N,u,↑(f.N-1-u)] (Eg hu.symm) (Eg E.symm)) (CB 1 (.a A2 (.a A7 (.k 2))) Aa 1 (.a Er Cz) A7 Er (.s (.s AK (.k 3)) A2) A4 [st,f.N,u,↑(f.N-1-u)] (Eg hu) (Eg E))
  ·
   have EV:=M2.Bb.AX Bv () ();have DO:Fr h2 h3:=.of Bv () () ();have Qg:-2<=st:=by
    by_cases c:-2<=st
    .exact c
    .exfalso
     have:=o.lo;obtain⟨u,hu⟩:∃u:Nat,st+(f.N+2)=u:=⟨(st+(f.N+2)).toNat,(S6 (Ax 1 (.s (.s AK (.k 2)) A2) A7 AK (.a A7 (.a A2 (.k 2))) A4 [f.N,st] this)).symm⟩;rw[hu,Lw,GY,Yg (DM.mp (CB 1 A2 (.a A7 (.a Aa (.k 2))) 1 BB (.s AK (.k 2)) AI Aa A4 [u,st,f.N] (Eg hu.symm) (Mu.mp c)))] at hno;cases hno
   refine wg CQ (DO.C3.a _ _ (D3 _) el) (DO.C3.b _ _ em) () t1 (by exact Ax 1 (.k 120) A2 AF (.s A2 AF) A4 [s.BX] B8) (fl (CQ.C7 rfl) EV.C7) (λlv Il=>?_) λhno h4 CT DR=>?_
   .have hx:0<=st:=by
     by_cases c:0<=st
     .exact c
     .unfold Be at Il;rw[if_neg c] at Il;cases Il
    obtain⟨u,hu⟩:∃u:Nat,st=u:=⟨st.toNat,(En (Ax 1 A2 A7 A2 A7 A4 [st,st.toNat] (Np (st))) (Ax 1 A2 A7 A2 A7 A4 [st.toNat,st] (KY (Ax 1 AK A2 AK A2 A4 [st] hx))))⟩;rw[hu,Lw] at Il;cases u with
    |zero=>
     cases Il;refine⟨_,_,rfl,Bx.me,λh4 CT DR=>?_⟩;rw[Kr] at CT;refine W5 h4 4 2 () () CT (DO.Aw (.of DR () () ())) ?_;unfold Cj;rw[if_neg (Ie.mpr (Ax 1 (.s AK (.k 2)) A2 (.s AK (.k 2)) A2 A4 [st] Qg)),if_neg (Ie.mpr (Ax 1 A2 AK A2 AK A4 [st] (Eg hu)))];decide
    |succ u=>
     rw[jr,GY] at Il;cases hg:B_[u]? with
     |none=>rw[hg] at Il;cases Il
     |some r=>
      rw[hg] at Il;cases Il;have hc:Cj f.N B_ st=r:=by unfold Cj;rw[if_neg (by exact Ie.mpr (Ax 1 (.s AK (.k 2)) A2 (.s AK (.k 2)) A2 A4 [st] Qg)),if_pos (by exact CB 1 AI A7 1 AK A2 (.a AK AF) A7 A4 [u,st] (Eg hu.symm) (CU (u))),show(st-1).toNat=u by exact Fl (DM.mp (CB 1 A2 BB 1 Aa (.s A2 AF) Aa A7 A4 [st,u,↑(st-1).toNat] (Eg hu) (KY (CB 1 AI A7 1 AK A2 AK (.s A7 AF) A4 [u,st] (Eg hu.symm) (CU (u)))))) (DM.mp (CB 1 (.s A2 AF) A7 1 Cz A2 Aa A7 A4 [st,↑(st-1).toNat,u] (Np (st-1)) (Eg hu.symm))),Lf,hg];rfl
      have hr1:=rg r (HE hg);by_cases rn:r<0
      .refine ⟨1,_,congrArg V.B (if_pos rn),Bx.me,λh4 CT DR=>?_⟩
       rw[Kr] at CT;exact W5 h4 4 2 () () CT (DO.Aw (.of DR () () ())) (CB 1 A2 A7 1 BB AK AI AK A4 [Cj f.N B_ st,r] (Eg hc) rn)
      .refine ⟨2+r,3+3*(r.toNat:Int),congrArg V.B (if_neg rn),?_,λh4 CT DR=>?_⟩
       .have:=Bx.mp r.toNat (DM.mp (CB 1 AI A7 1 Aa A2 Cz A7 A4 [r,f.N,r.toNat] hr1.2 (KY (Ax 1 AK A2 AK A2 A4 [r] (Ie.mp rn)))))
        rwa [S6 (Ie.mp rn)] at this⊢
       .rw [Kr] at CT
        exact jq h4 1 2 r.toNat () () CT (DO.Aw (.of DR () () ())) (En (CB 1 A2 A7 1 Aa A2 Aa A7 A4 [r,r.toNat,Cj f.N B_ st] (Np (r)) (Eg hc)) (CB 1 A2 A7 1 Aa A2 Aa A7 A4 [r,Cj f.N B_ st,r.toNat] (Eg hc.symm) (KY (Ax 1 AK A2 AK A2 A4 [r] (Ie.mp rn)))))
   .rw [Kr] at CT
    have Ik:Fr h3 h4:=.of DR () () ();have I6:=DO.Aw Ik;have ai2:Cj f.N B_ st<0:=by
     unfold Cj;rw[if_neg (Ie.mpr (Ax 1 (.s AK (.k 2)) A2 (.s AK (.k 2)) A2 A4 [st] Qg))];by_cases c:0<st
     .exfalso
      obtain⟨u,hu⟩:∃u:Nat,st=((u+1:Nat):Int):=⟨_,(En (Ax 1 (.s A2 AF) A7 A2 BB A4 [st,↑(st-1).toNat] (Np (st-1))) (Ax 1 A2 (.s A7 AF) AI A7 A4 [↑(st-1).toNat,st] (KY (Ax 1 (.a AK AF) A2 AK (.s A2 AF) A4 [st] c))))⟩;have hhi:=o.hi;rw[hu,Lw,jr,GY,DP (DM.mp (CB 1 A2 A7 1 Cz A2 Cz A7 A4 [st,I B_,u] hhi (Eg hu.symm)))] at hno;cases hno
     .rw [if_neg c];decide
    refine jd CT (I6.C3.a _ _ (D3 _) el) (I6.C3.b _ _ em) () t2 (by exact Ax 1 (.k 120) A2 AF (.s A2 (.k 2)) A4 [s.BX] B8) Bx.me λh5 Dj E8=>?_;rw[I3] at Dj;exact W5 h5 3 3 () () Dj (I6.Aw (.of E8 () () ())) ai2
end
theorem ai3:∀s∈Ij A8 fs em skip,Ms s:=by intro s hs;simp only[Ij,D4,Hz,or_false] at hs;rcases hs with rfl|rfl|rfl|rfl|rfl<;>exact⟨_,_,rfl,by decide,by decide⟩
theorem ai4(S:St w h s ob Ah)(M:Md w h s K)(fo:RK w f K)(hb:w.BL f.em=H (PY w.c.A8 f B_))(ne:f.em≠1000)(o:L1 f B_ st)(B8:130<=s.BX)(hq:ob[q]?=H l)(hl:I l<890)(IL:I Ah<890)
  (hv:(BP l f.fs).getD (.B 0)=.B st)(hs:¬(st< -2\/st=-1)):
  AL A5 (d+39) 78 [.O 85 0,.B f.Dp,.B (q+1:Nat)] h λx h2=>x=.A3 [.B (FO f (Cj f.N B_ st)).1,(FO f (Cj f.N B_ st)).2]/\
   (∃k,0<=k/\k<=90/\St w h2 (s.C_ k) (ob.set q (Ba l f.fs (.B (-1)))) (Ah++Lv f (Cj f.N B_ st)))/\Fr h h2:=by
 have mk:BP (E1 (Ij w.c.A8 f.fs f.em _) 0 []) f.ji=H _:=if_pos rfl;refine TS S fo.D ai3 λh2 i j m CG Gu el em eb=>⟨6,?_⟩;have M2:=M.AX Gu.sm () ();refine TP CG el em () rfl (Ax 1 (.k 130) A2 AF A2 A4 [s.BX] B8) mk (λQ x=>wR (Mt (CG.C7 rfl) M2.C7 fo.hk hq hv) (Ls) x) λh3 CQ Bv=>?_;rw[if_neg (show¬st< -2 from λz=>hs (.inl z))];have DO:Fr h2 h3:=.of Bv () () ();have EV:=M2.Bb.AX Bv () ();refine TP CQ (DO.C3.a _ _ (D3 _) el) (DO.C3.b _ _ em) () rfl (by exact Ax 1 (.k 130) A2 AF (.s A2 AF) A4 [s.BX] B8) mk (λQ x=>bA () () (Mt (CQ.C7 rfl) EV.C7 fo.hk hq hv) (Ls) x) λh4 CT DR=>?_;rw[if_neg (λz=>hs (.inr z))];rw[Kr] at CT;have Ik:Fr h3 h4:=.of DR () () ();have I6:=DO.Aw Ik;have Jl:Md w h4 (s.C_ 2) K:=by rw[<-Kr];exact EV.Bb.AX DR () ()
 refine jf CT (I6.C3.a _ _ (D3 _) el) () rfl (by exact Ax 1 (.k 130) A2 AF (.s A2 (.k 2)) A4 [s.BX] B8) ne (TR (CT.C7 rfl) Jl.C7) λh5 Dj E8=>?_;rw[I3] at Dj;have PX:Fr h4 h5:=.of E8 () () ();have KJ:=(Jl.C_ (k:=1)).AX E8 () ()|>λx=>by rw[IM] at x;exact x
 refine DL ?_ (xC Dj KJ fo hb o (by exact Ax 1 (.k 130) A2 (.k 120) (.s A2 (.a (.k 2) AF)) A4 [s.BX] B8) hq hl IL hv);rintro x h6 ⟨rfl,⟨k,k0,RJ,GB⟩,RM⟩;rw[IM] at GB;have jt:=(I6.Aw PX).Aw RM;have bP:=jt.C3.a _ _ (D3 _) el;refine⟨_,_,rfl,?_⟩;by_cases g:2<(FO f (Cj f.N B_ st)).1
 .rw [if_pos g,if_pos g]
  exact .inr ⟨(Ax 1 (.a (.k 2) AF) A2 (.k 2) A2 A4 [(FO f _).fst] g),λr=>Ku ⟨rfl,⟨_,(Ax 1 AK A2 AK (.a (.a (.k 2) AF) A2) A4 [k] k0),(Ax 1 A2 (.k 80) (.a (.a (.k 2) AF) A2) (.k 90) A4 [k] RJ),GB⟩,Gu.Aw jt⟩⟩
 .rw [if_neg g]
  refine .inl ⟨rfl,?_⟩;have ge:FO f (Cj f.N B_ st)=(2,.B 0):=by
   revert g;unfold FO;split
   .split
    .exact λg=>absurd (show(2:Int)<3 by decide) g
    .exact λu=>rfl
   .exact λu=>rfl
  refine TN GB bP () rfl (by exact CB 1 (.k 130) A2 1 A7 (.k 80) AF (.s A2 (.a (.a (.k 2) AF) A7)) A4 [s.BX,k] B8 RJ) λh7 Nz W6=>?_;rw[I3] at Nz;have TY:Fr h6 h7:=.of W6 () () ();refine bM Nz (TY.C3.a _ _ (D3 _) bP) () rfl (by exact CB 1 (.k 130) A2 1 A7 (.k 80) AF (.s A2 (.a (.a (.a (.k 2) AF) A7) AF)) A4 [s.BX,k] B8 RJ) λh8 r RN ju=>Ku ⟨by rw[ge],⟨2+1+k+1+1,(Ax 1 AK A2 AK (.a (.a (.a (.a (.k 2) AF) A2) AF) AF) A4 [k] k0),(Ax 1 A2 (.k 80) (.a (.a (.a (.a (.k 2) AF) A2) AF) AF) (.k 90) A4 [k] RJ),?_⟩,Gu.Aw (jt.Aw (TY.Aw (.of ju () () ())))⟩;rw[I3] at RN;exact RN
theorem ai5(S:St w h s ob Ah)(M:Md w h s K)(hb:w.BL mid=H (D8 [.A3 [.B 12,G9 k w.c.A8 cur]]))(hk:K cur=H k)(B8:2<=s.BX)(hq:ob[q]?=H l)(hv:(BP l cur).getD (.B 0)=.B v):
  AL A5 (d+15) 78 [.O 85 0,.B mid,.B (q+1:Nat)] h λx h2=>x=.A3 [.B 2,.B v]/\St w h2 (s.C_ 1) ob Ah/\Fr h h2:=by
 refine TS S hb (λs hs=>?_) λh2 i j m CG Gu el em eb=>⟨1,?_⟩
 .rw [EK.mp hs];exact⟨_,_,rfl,by decide,by decide⟩
 have M2:=M.AX Gu.sm () ();exact je CG el () rfl (Ax 1 (.k 2) A2 AF A2 A4 [s.BX] B8) (Mt (CG.C7 rfl) M2.C7 hk hq hv) λh3 r CQ Bv=>Ku ⟨rfl,CQ,Gu.Aw (.of Bv () () ())⟩
theorem bY{α:Type}:∀{l:List α} {i:Nat} {a:α},l[i]?=H a->l.set i a=l
 |x::l,0,a,e=>by cases e;rfl
 |x::l,i+1,a,e=>by rw[List.set_cons_succ,bY (by simpa using e)]
def RO(A8 lid:Int)(K:Int->Option Int)(p:Int×Int):V:=.A3 [.B 1,.A3 [.B 22,.B ((K p.1).getD 0),.A3 [.B 4,.B ((K p.1).getD 0),.A3 [.B 2,.B A8,.B lid],.A3 [.B A8,.B p.1]],G9 ((K p.2).getD 0) A8 p.2]]
def F9(src:Int->Int)(cps:List (Int×Int))(l:List (Int×V)):List (Int×V):=cps.foldl (λl p=>Ba l p.1 (.B (src p.2))) l
theorem xD{q B7:Nat}{lid:Int}{b m:Nat}{ll:List (Int×V)}{src:Int->Int}{R:List V}:∀(cps:List (Int×Int)) {h:A0} {s:EM} {ob:List (List (Int×V))} {l2:List (Int×V)} {at_:Int},St w h s ob Ah->Md w h s K->(h 58)[i]?=H (.A6 R)->0<=at_->
  (∀k:Nat,k<I cps->∃p,cps[k]?=H p/\Be R (at_+k)=H (RO w.c.A8 lid K p))->(∀p∈cps,(K p.1).isSome/\(K p.2).isSome)->I cps<=s.BX->(h 61)[b]?=H (.Ad ll)->BP ll lid=H (.B (B7+1:Nat))->
  ob[B7]?=H l2->I l2+I cps<900->(∀p∈cps,∃l,ob[q]?=H l/\(BP l p.2).getD (.B 0)=.B (src p.2))->(q≠B7\/∀p∈cps,∀p'∈cps,p.1≠p'.2)->
  (∀h2,St w h2 (s.C_ (I cps)) (ob.set B7 (F9 src cps l2)) Ah->Bs [85,60] h h2->D_ (d+8) m (.B (q+1:Nat)) (.O 61 b) i j (at_+I cps) h2 F)->D_ (d+8) (m+I cps) (.B (q+1:Nat)) (.O 61 b) i j at_ h F:=by
 intro BE;induction BE with
 |nil=>
  rintro h s ob l2 at_ S M el e0 rows kn B8 Jk lk hq2 hl2 hs Lx k;have k:=k h (by rw[show s.C_ _=s by unfold EM.C_;simp,bY hq2];exact S) (Bs.BO _ _);simpa using k
 |cons p cps ih=>
  rintro h s ob l2 at_ S M el e0 rows kn B8 Jk lk hq2 hl2 hs Lx k;obtain⟨p',Nb,e1⟩:=rows 0 (by simp);cases Nb;rw[show at_+((0:Nat))=at_ by simp] at e1;obtain⟨kd,hkd⟩:=Yr.mp (kn p D0).1;obtain⟨ks,hks⟩:=Yr.mp (kn p D0).2;obtain⟨l,hl,hv⟩:=hs p D0;have lt:=(Dd.mp hq2).1;rw[RO,hkd,hks] at e1;have o:=M.F7;refine jc (v:=src p.2) S M.RH el e0 (by rw[o];exact e1) (CB 1 AI A7 1 AK A2 AF A7 A4 [I cps,s.BX] B8 (CU _)) hkd (by rw[o];rfl) hq2 (BG 1 (.a (.a A2 BB) AF) (.k 900) AI (.k 1000) A4 [I l2,I cps] hl2) ?_ ?_ λh3 CQ Bv=>?_
  .exact λQ x=>Vm (Jk) lk x
  .exact Mt (S.C7 rfl) M.C7 hks hl hv
  .have EV:=M.Bb.AX Bv () ()
   have b_:(ob.set B7 _)[B7]?=H (Ba l2 p.1 (.B (src p.2))):=LS lt;refine ih CQ EV (by rw[Bv 58 ()];exact el) (Ax 1 AK A2 AK AI A4 [at_] e0) (λk hk=>?_) (λp hp=>kn p (DV _ hp)) (Ax 1 AI A7 A2 (.s A7 AF) A4 [I cps,s.BX] B8) (by rw[Bv 61 ()];exact Jk) lk b_
    (by have:=KH (l:=l2) (k:=p.1) (v:=.B (src p.2));exact By 1 A2 BB 1 (.a (.a A7 Cz) AF) (.k 900) (.a (.a A2 Aa) AF) (.k 900) A4 [I (Ba l2 ..),I l2,I cps] this hl2) (λp2 hp2=>?_) (Lx.imp id λz a ha b hb=>z a (DV _ ha) b (DV _ hb)) λh4 CT DR=>?_
   .obtain ⟨p2,a,b⟩:=rows (k+1) (by simp;assumption)
    refine⟨p2,by simpa using a,?_⟩;rw[<-b];congr 1;exact En (Co (.a AI A7) (.a A2 BB) A4 [at_,k]) (Co (.a A2 BB) (.a AI A7) A4 [at_,k])
   .obtain ⟨l',hl',hv'⟩:=hs p2 (DV _ hp2)
    by_cases z:q=B7
    .clear CQ lt k lk ih;subst z
     have Lx:=Lx.resolve_left λz=>z rfl;rw[hq2] at hl';cases hl';refine⟨_,b_,?_⟩;rw[FN,if_neg (FU (Lx p D0 p2 (DV _ hp2)))];exact hv'
    .exact ⟨l',by rw[Xz (FU z)];exact hl',hv'⟩
   .rw [RG,IM,TU] at CT
    have k:=k h4 (by rw[show s.C_ _=s.C_ (1+I cps) by congr 1;exact En (Co AI (.a AF A2) A4 [I cps]) (Co (.a AF A2) AI A4 [I cps])];exact CT) (Bv.Aw DR);rw[show at_+1+(I cps)=at_+((I cps+1)) by exact En (Co (.a AI A7) (.a A2 BB) A4 [at_,I cps]) (Co (.a A2 BB) (.a AI A7) A4 [at_,I cps])];exact k
structure W7 where
 Fb:Int
 DX:Int
 Gv:Int
 O0:Int
 fs:Int
 Bd:List (Int×Int)
 BV:List (Int×Int)
def jv(A8 lid:Int)(v:V):V:=.A3 [.B 1,.A3 [.B 22,.B A8,.A3 [.B 2,.B A8,.B lid],v]]
def xE(A8 ct:Int):V:=.A3 [.B 9,.B A8,.A3 [.B A8,.B ct,.A3 []],.A3 []]
def be(c:Nn)(g:W7):List V:=[.A3 [.B 22,TQ 1 88 (G9 7 c.A8 g.fs) (Kq (-2)),.B 0,.B g.Gv],Nt c.A8 g.fs 0,jv c.A8 g.Fb (Kp c.A8),Mr g.O0,Lr g.Gv,jv c.A8 g.Fb (xE c.A8 c.ct)]
def bf(c:Nn)(g:W7)(K:Int->Option Int):List V:=g.Bd.map (RO c.A8 g.Fb K)++(Lr g.O0::(g.BV.map (RO c.A8 g.Fb K)++[.A3 [.B 12,.A3 [.B 19,.B g.DX,.A3 [.B 2,.B c.A8,.B g.Fb],.B 2,.B 0]]]))
def HQ(c:Nn)(g:W7)(K:Int->Option Int):List V:=be c g++bf c g K
theorem xF:∀s∈HQ c g K,Ms s:=by intro s hs;simp only[HQ,be,bf,EY,D4,Eh,Hz,or_false] at hs;rcases hs with(rfl|rfl|rfl|rfl|rfl|rfl)|⟨p,_,rfl⟩|rfl|⟨p,_,rfl⟩|rfl;all_goals exact⟨_,_,rfl,by decide,by decide⟩
theorem xG:∀(cps:List (Int×Int)) (i:Int) (M:List (Int×V)),E1 (cps.map (RO A8 lid K)++tl) i M=E1 tl (i+I cps) M:=by
 intro BE;induction BE with
 |nil=>
  rintro i M;simp
 |cons p cps ih=>
  rintro i M;rw[ih];congr 1;exact En (Co (.a AI A7) (.a A2 BB) A4 [i,I cps]) (Co (.a A2 BB) (.a AI A7) A4 [i,I cps])
theorem jw:E1 (HQ c g K) 0 []=Ba (Ba [] g.Gv (.B 4)) g.O0 (.B (6+I g.Bd)):=by show E1 (bf c g K) _ (Ba [] ..)=_;rw[xG];rw[xG];rfl
theorem xH:(∀k:Nat,k<I g.Bd->∃p,g.Bd[k]?=H p/\Be (HQ c g K) (6+(k:Int))=H (RO c.A8 g.Fb K p))/\Be (HQ c g K) (6+(I g.Bd:Int))=H (Lr g.O0)/\
  (∀k:Nat,k<I g.BV->∃p,g.BV[k]?=H p/\Be (HQ c g K) (6+(I g.Bd:Int)+1+k)=H (RO c.A8 g.Fb K p))/\
  Be (HQ c g K) (6+(I g.Bd:Int)+1+I g.BV)=H (.A3 [.B 12,.A3 [.B 19,.B g.DX,.A3 [.B 2,.B c.A8,.B g.Fb],.B 2,.B 0]]):=by
 have b:∀k:Nat,Be (HQ c g K) ((6+k:Nat))=(bf c g K)[k]?:=λk=>by rw[Lw];rw[JT (by simp[be])];simp[be]
 have b2:∀k:Nat,Be (HQ c g K) ((6+(I g.Bd+1+k):Nat))=(g.BV.map _++[.A3 [.B 12,.A3 [.B 19,.B g.DX,.A3 [.B 2,.B c.A8,.B g.Fb],.B 2,.B 0]]])[k]?:=λk=>by rw[b];rw[JT (by simp;exact Ei A2 (.a AI A7) A4 [I g.Bd,k]),Ce,show I g.Bd+1+k-(I g.Bd)=k+1 by exact Fl (BG 1 (.a A2 A7) (.a BB Aa) A2 Cz A4 [I g.Bd+1+k-(I g.Bd),I g.Bd,k] (K3 (Ei A2 (.a AI A7) A4 [I g.Bd,k]))) (BG 1 (.a AI A7) (.a Aa A2) BB Aa A4 [I g.Bd,k,I g.Bd+1+k-(I g.Bd)] (LN (I g.Bd+1+k) _)),jr]
 refine⟨λk hk=>⟨_,DP hk,?_⟩,?_,λk hk=>⟨_,DP hk,?_⟩,?_⟩
 .have:=b k
  push_cast at this;rw[this];rw[JQ (by simpa using hk),GY,DP hk];rfl
 .have:=b (I g.Bd)
  push_cast at this;rw[this];rw[JT (by simp),Ce,RP];rfl
 .have:=b2 k
  rw[show((6+(I g.Bd+1+k):Nat))=6+(I g.Bd:Int)+1+k by exact En (Co (.a (.k 6) (.a AI A7)) (.a (.a (.a (.k 6) A2) AF) A7) A4 [I g.Bd,k]) (Co (.a (.a (.a (.k 6) A2) AF) A7) (.a (.k 6) (.a AI A7)) A4 [I g.Bd,k])] at this;rw[this,JQ (by simpa using hk),GY,DP hk];rfl
 .have:=b2 (I g.BV)
  rw[show((6+(I g.Bd+1+I g.BV):Nat))=6+(I g.Bd:Int)+1+I g.BV by exact En (Co (.a (.k 6) (.a AI A7)) (.a (.a (.a (.k 6) A2) AF) A7) A4 [I g.Bd,I g.BV]) (Co (.a (.a (.a (.k 6) A2) AF) A7) (.a (.k 6) (.a AI A7)) A4 [I g.Bd,I g.BV])] at this;rw[this,JT (by simp),Ce,RP];rfl
theorem xJ{q B7 m b:Nat}{ll l2:List (Int×V)}{src:Int->Int}(S:St w h s ob Ah)(M:Md w h s K)(E7:s.E7=g.DX)(el:(h 58)[i]?=H (.A6 (HQ w.c g K)))(kn:∀p∈g.BV,(K p.1).isSome/\(K p.2).isSome)(B8:(I g.BV:Int)+2<=s.BX)(Jk:(h 61)[b]?=H (.Ad ll))(lk:BP ll g.Fb=H (.B (B7+1:Nat)))
  (hq2:ob[B7]?=H l2)(hl2:I l2+I g.BV<900)(hs:∀p∈g.BV,∃l,ob[q]?=H l/\(BP l p.2).getD (.B 0)=.B (src p.2))(Lx:q≠B7\/∀p∈g.BV,∀p'∈g.BV,p.1≠p'.2)
  (k:∀h2 r,St w h2 (s.C_ (I g.BV+2)) (ob.set B7 (F9 src g.BV l2)) Ah->Fr h h2->F (.Ag (.A3 [.B 2,.B (B7+1:Nat)])) r h2):
  D_ (d+8) (m+1+I g.BV+1) (.B (q+1:Nat)) (.O 61 b) i j (6+I g.Bd) h F:=by
 obtain⟨_,n1,n2,n3⟩:=xH (c:=w.c) (g:=g) (K:=K);refine TN S el (Ax 1 AK A2 AK (.a (.k 6) A2) A4 [I g.Bd] (CU _)) n1 (CB 1 (.a A2 (.k 2)) A7 1 AK A2 AF A7 A4 [I g.BV,s.BX] B8 (CU _)) λh3 CQ Bv=>?_;have EV:=M.Bb.AX Bv () ();have DO:Fr h h3:=.of Bv () () ();refine xD _ CQ EV (DO.C3.a _ _ (D3 _) el) (Ax 1 AK A2 AK (.a (.a (.k 6) A2) AF) A4 [I g.Bd] (CU _)) n2 kn (Ax 1 (.a A2 (.k 2)) A7 A2 (.s A7 AF) A4 [I g.BV,s.BX] B8) (by rw[Bv 61 ()];exact Jk) lk hq2 hl2 hs Lx λh4 CT DR=>?_;rw[RG,IM] at CT;have Ik:Fr h3 h4:=.of DR () () ();have W8:(h4 61)[b]?=H (.Ad ll):=by rw[DR 61 (),Bv 61 ()];exact Jk
 refine je CT ((DO.Aw Ik).C3.a _ _ (D3 _) el) (CB 1 AK A2 1 AK A7 AK (.a (.a (.a (.k 6) A2) AF) A7) A4 [I g.Bd,I g.BV] (CU _) (CU _)) n3 (Ax 1 (.a A2 (.k 2)) A7 AF (.s A7 (.a AF A2)) A4 [I g.BV,s.BX] B8) (λQ x=>wQ jR E7 (λQ x=>Vm W8 lk x) x) λh5 r Dj E8=>k h5 r ?_ (DO.Aw (Ik.Aw (.of E8 () () ())));rw[I3] at Dj;rw[show(I g.BV:Int)+2=1+I g.BV+1 by exact En (Co (.a A2 (.k 2)) (.a (.a AF A2) AF) A4 [I g.BV]) (Co (.a (.a AF A2) AF) (.a A2 (.k 2)) A4 [I g.BV])];exact Dj
theorem ai6(S:St w h s ob Ah)(M:Md w h s K)(E7:s.E7=g.DX)(hb:w.BL mid=H (D8 (HQ w.c g K)))(hk:K g.fs=H 7)(kn:∀p∈g.BV,(K p.1).isSome/\(K p.2).isSome)(aE:g.Gv≠g.O0)
  (B8:(I g.BV:Int)+8<=s.BX)(hq:ob[q]?=H l)(hl:I l+I g.BV+1<900)(hv:(BP l g.fs).getD (.B 0)=.B (-2))(hs:∀p∈g.BV,p.2≠g.fs/\(BP l p.2).getD (.B 0)=.B (src p.2))(Lx:∀p∈g.BV,∀p'∈g.BV,p.1≠p'.2):
  AL A5 (d+15) 78 [.O 85 0,.B mid,.B (q+1:Nat)] h λx h2=>x=.A3 [.B 2,.B (q+1:Nat)]/\St w h2 (s.C_ (I g.BV+6)) (ob.set q (F9 src g.BV (Ba l g.fs (.B 0)))) Ah/\Fr h h2:=by
 refine TS S hb xF λh2 i j m CG Gu el em eb=>⟨0+1+I g.BV+1+4,?_⟩;have M2:=M.AX Gu.sm () ();have mo:BP (E1 (HQ w.c g K) 0 []) g.Gv=H (.B 4):=by rw[jw,FN,if_neg aE,FN,if_pos rfl]
 have mb:BP (E1 (HQ w.c g K) 0 []) g.O0=H (.B (6+I g.Bd)):=by rw[jw,FN,if_pos rfl]
 have lt:=(Dd.mp hq).1;refine TP CG el em () rfl (CB 1 (.a A2 (.k 8)) A7 1 AK A2 AF A7 A4 [I g.BV,s.BX] B8 (CU _)) mo (λQ x=>bA () () (Mt (CG.C7 rfl) M2.C7 hk hq hv) Ls x) λh3 CQ Bv=>?_;have EV:=M2.Bb.AX Bv () ();have DO:Fr h2 h3:=.of Bv () () ();refine jg CQ EV (DO.C3.a _ _ (D3 _) el) () rfl (CB 1 (.a A2 (.k 8)) A7 1 AK A2 AF (.s A7 AF) A4 [I g.BV,s.BX] B8 (CU _)) hk hq (BG 1 (.a (.a (.a A2 A7) AF) AF) (.k 900) AI (.k 1000) A4 [I l,I g.BV] hl) λh4 CT DR=>?_;have Jl:=EV.Bb.AX DR () ();have Ik:Fr h3 h4:=.of DR () () ();have I6:=DO.Aw Ik;have W8:(h4 61)[m]?=H (.Ad []):=by rw[DR 61 (),Bv 61 ()];exact eb
 refine aiD CT (I6.C3.a _ _ (D3 _) el) () rfl (CB 1 (.a A2 (.k 8)) A7 1 AK A2 AF (.s (.s A7 AF) AF) A4 [I g.BV,s.BX] B8 (CU _)) (.inl rfl) W8 () (TR (CT.C7 rfl) Jl.C7) λh5 Dj bg E8=>?_;have KJ:=Jl.Bb.AX E8 () ();have PX:Fr h4 h5:=.of E8 () () ();have T_:=I6.Aw PX;refine jd Dj (T_.C3.a _ _ (D3 _) el) (T_.C3.b _ _ em) () rfl (CB 1 (.a A2 (.k 8)) A7 1 AK A2 AF (.s (.s (.s A7 AF) AF) AF) A4 [I g.BV,s.BX] B8 (CU _)) mb λh6 GB Kv=>?_;have bh:=KJ.Bb.AX Kv () ();have RM:Fr h5 h6:=.of Kv () () ();have W9:=T_.Aw RM;have f4:s.Bb.Bb.Bb.Bb=s.C_ 4:=by rw[show s.Bb.Bb=s.C_ 2 from Kr,I3,I3];rfl
 rw[f4] at GB bh;have bk:(ob.set q _)[q]?=H (Ba l g.fs (.B 0)):=LS lt;refine xJ GB bh E7 (W9.C3.a _ _ (D3 _) el) kn (Ax 1 (.a A2 (.k 8)) A7 (.a A2 (.k 2)) (.s A7 (.k 4)) A4 [I g.BV,s.BX] B8) (by rw[Kv 61 ()];exact bg) (by rw[FN,if_pos rfl]) bk (by have:=KH (l:=l) (k:=g.fs) (v:=.B 0);exact By 1 A2 BB 1 (.a (.a (.a A7 Aa) AF) AF) (.k 900) (.a (.a A2 Aa) AF) (.k 900) A4 [I (Ba l ..),I l,I g.BV] this hl)
  (λp hp=>⟨_,bk,by rw[FN,if_neg (hs p hp).1];exact(hs p hp).2⟩) (.inr Lx) λh7 r Nz TY=>Ku ⟨rfl,?_,Gu.Aw (W9.Aw TY)⟩
 rw[IM,TU] at Nz;rw[show(I g.BV:Int)+6=4+(I g.BV+2) by exact En (Co (.a A2 (.k 6)) (.a (.k 4) (.a A2 (.k 2))) A4 [I g.BV]) (Co (.a (.k 4) (.a A2 (.k 2))) (.a A2 (.k 6)) A4 [I g.BV])];exact Nz
theorem ai7(S:St w h s ob Ah)(M:Md w h s K)(E7:s.E7=g.DX)(hb:w.BL mid=H (D8 (HQ w.c g K)))(hk:K g.fs=H 7)(kn:∀p∈g.Bd++g.BV,(K p.1).isSome/\(K p.2).isSome)(aE:g.Gv≠g.O0)
  (B8:(I g.Bd:Int)+I g.BV+8<=s.BX)(hq:ob[q]?=H l)(hn:I ob<1000)(hl:I g.Bd+I g.BV<900)(hv:(BP l g.fs).getD (.B 0)=.B st)(hst:st≠-2)(hs:∀p∈g.Bd++g.BV,(BP l p.2).getD (.B 0)=.B (src p.2)):
  AL A5 (d+15) 78 [.O 85 0,.B mid,.B (q+1:Nat)] h λx h2=>x=.A3 [.B 2,.B (I ob+1:Nat)]/\St w h2 (s.C_ (I g.Bd+I g.BV+5)) (ob++[F9 src (g.Bd++g.BV) []]) Ah/\Fr h h2:=by
 refine TS S hb xF λh2 i j m CG Gu el em eb=>⟨0+1+I g.BV+1+I g.Bd+3,?_⟩;have M2:=M.AX Gu.sm () ();have mo:BP (E1 (HQ w.c g K) 0 []) g.Gv=H (.B 4):=by rw[jw,FN,if_neg aE,FN,if_pos rfl]
 have lt:=(Dd.mp hq).1;refine TP CG el em () rfl (QG 1 (.a (.a A2 A7) (.k 8)) Aa 1 AK A2 1 AK A7 AF Aa A4 [I g.Bd,I g.BV,s.BX] B8 (CU _) (CU _)) mo (λQ x=>bA () () (Mt (CG.C7 rfl) M2.C7 hk hq hv) (Ls) x) λh3 CQ Bv=>?_;rw[if_neg hst];have EV:=M2.Bb.AX Bv () ();have DO:Fr h2 h3:=.of Bv () () ();refine TN CQ (DO.C3.a _ _ (D3 _) el) () rfl (by exact QG 1 (.a (.a A2 A7) (.k 8)) Aa 1 AK A2 1 AK A7 AF (.s Aa AF) A4 [I g.Bd,I g.BV,s.BX] B8 (CU _) (CU _)) λh4 CT DR=>?_;have Jl:=EV.Bb.AX DR () ();have Ik:Fr h3 h4:=.of DR () () ();have I6:=DO.Aw Ik;have W8:(h4 61)[m]?=H (.Ad []):=by rw[DR 61 (),Bv 61 ()];exact eb
 refine wh CT (I6.C3.a _ _ (D3 _) el) () (by rw[M.F7];rfl) (by exact QG 1 (.a (.a A2 A7) (.k 8)) Aa 1 AK A2 1 AK A7 AF (.s (.s Aa AF) AF) A4 [I g.Bd,I g.BV,s.BX] B8 (CU _) (CU _)) (.inl rfl) W8 () hn λh5 Dj bg E8=>?_;have KJ:=Jl.Bb.AX E8 () ();have PX:Fr h4 h5:=.of E8 () () ();have T_:=I6.Aw PX;have f3:s.Bb.Bb.Bb=s.C_ 3:=by rw[show s.Bb.Bb=s.C_ 2 from Kr,I3];rfl
 rw[f3] at Dj KJ;obtain⟨n0,_,_,_⟩:=xH (c:=w.c) (g:=g) (K:=K);have ai8:(ob++[[]])[q]?=H l:=by rw[JQ lt];exact hq
 have hqn:(ob++[([])])[I ob]?=H []:=by simp
 have lk:BP (Ba [] g.Fb (.B (I ob+1))) g.Fb=H (.B (I ob+1:Nat)):=by rw[FN,if_pos rfl];rfl
 have ne:q≠I ob:=(λEu=>K4 (By 1 AI A7 1 A7 A2 AF AK A4 [q,I ob] lt (BQ Eu.symm)));refine xD _ Dj KJ (T_.C3.a _ _ (D3 _) el) () n0 (λp hp=>kn p (Im _ hp)) (by exact CB 1 (.a (.a A2 A7) (.k 8)) Aa 1 AK A7 A2 (.s Aa (.k 3)) A4 [I g.Bd,I g.BV,s.BX] B8 (CU _)) bg lk hqn (by simp;exact BG 1 (.a (.a A2 A7) AF) (.k 900) AI (.k 900) A4 [I g.Bd,I g.BV] hl) (λp hp=>⟨l,ai8,hs p (Im _ hp)⟩) (.inl ne) λh6 GB Kv=>?_;have bh:=(KJ.C_ (k:=I g.Bd)).AX Kv () ();have RM:Fr h5 h6:=.of Kv () () ();have W9:=T_.Aw RM;have jx:(ob++[([])]).set (I ob) (F9 src g.Bd [])=ob++[F9 src g.Bd []]:=by simp
 rw[jx] at GB;have bk:(ob++[F9 src g.Bd []])[q]?=H l:=by rw[JQ lt];exact hq
 have ai9:(ob++[F9 src g.Bd []])[I ob]?=H (F9 src g.Bd []):=by simp
 have len:∀(cps:List _) (l:List _),I (F9 src cps l)<=I l+I cps:=by
  intro cps;induction cps with
  |nil=>exact λl=>Ds _|cons p cps ih=>
    intro l;have a:=ih (Ba l p.1 (.B (src p.2)));have b:=KH (l:=l) (k:=p.1) (v:=.B (src p.2));exact By 1 A2 (.a A7 Aa) 1 A7 Ob A2 (.a Er Cz) A4 [I (F9 src cps (Ba l _ _)),I (Ba l _ _),I cps,I l] a b
 have len0:=len g.Bd [];refine xJ GB bh E7 (W9.C3.a _ _ (D3 _) el) (λp hp=>kn p (IG _ hp)) (by exact Ax 1 (.a (.a A2 A7) (.k 8)) Aa (.a A7 (.k 2)) (.s (.s Aa (.k 3)) A2) A4 [I g.Bd,I g.BV,s.BX] B8) (by rw[Kv 61 ()];exact bg) lk ai9 (by simp at len0;exact By 1 A2 A7 1 (.a (.a A7 Aa) AF) (.k 900) (.a (.a A2 Aa) AF) (.k 900) A4 [I (F9 src _ []),I g.Bd,I g.BV] len0 hl)
  (λp hp=>⟨l,bk,hs p (IG _ hp)⟩) (.inl ne) λh7 r Nz TY=>Ku ⟨rfl,?_,Gu.Aw (W9.Aw TY)⟩
 rw[IM,IM] at Nz;have aja:(ob++[F9 src g.Bd []]).set (I ob) (F9 src g.BV (F9 src g.Bd []))=ob++[F9 src (g.Bd++g.BV) []]:=by unfold F9;simp
 rw[aja] at Nz;rw[show(I g.Bd:Int)+I g.BV+5=3+(I g.Bd+(I g.BV+2)) by exact En (Co (.a (.a A2 A7) (.k 5)) (.a (.k 3) (.a A2 (.a A7 (.k 2)))) A4 [I g.Bd,I g.BV]) (Co (.a (.k 3) (.a A2 (.a A7 (.k 2)))) (.a (.a A2 A7) (.k 5)) A4 [I g.Bd,I g.BV])];exact Nz
structure Row where
 D5:Int
 FA:Int
 E2:Int
 DS:Int
 BA:List Int
 CS:List Int
structure C1 where
 Ew:Int
 fs:Int
 IQ:Int
 th:Int
 t0:Int
 BA:List Int
 CS:List Int
def C1.Ly(C:C1):Nat->List (Int×(Row->Int))
 |0=>[]|k+1=>C.Ly k++[(C.BA.getD k 0,λx=>x.BA.getD k 0),(C.CS.getD k 0,λx=>x.CS.getD k 0)]
theorem C1.ajb{C:C1}:C.Ly (k+1)=C.Ly k++[(C.BA.getD k 0,λx=>x.BA.getD k 0),(C.CS.getD k 0,λx=>x.CS.getD k 0)]:=rfl
def C1.O1(C:C1):List (Int×(Row->Int)):=(C.fs,Row.D5)::(C.IQ,Row.FA)::((if C.th=0 then[] else[(C.th,Row.E2)])++(if C.t0=0 then[] else[(C.t0,Row.DS)]))
def C1.fl(C:C1)(n:Nat):List (Int×(Row->Int)):=C.O1++C.Ly n
def C1.CD(C:C1):List (Int×(Row->Int)):=C.fl (I C.BA)
def C1.Eb(C:C1):List Int:=C.CD.map (·.1)
def HR(fl:List (Int×(Row->Int)))(x:Row):List (Int×V):=fl.map λp=>(p.1,.B (p.2 x))
def Lz(h:A0)(v:V)(xs:List Int):Prop:=∃a b,v=.O a b/\(a=71\/a=74\/a=76)/\(h a)[b]?=H (.A6 (xs.map .B))
structure Fc(h:A0)(l:List (Nat×V))(x:Row):Prop where
 Aj:I l<50
 D5:Bw l 118=H (.B x.D5)
 FA:Bw l 92=H (.B x.FA)
 E2:Bw l 119=H (.B x.E2)
 DS:Bw l 102=H (.B x.DS)
 BA:∃v,Bw l 120=H v/\Lz h v x.BA
 CS:∃v,Bw l 121=H v/\Lz h v x.CS
def KL(h:A0)(r:V)(x:Row):Prop:=∃a b l,r=.O a b/\(a=73\/a=77)/\(h a)[b]?=H (.BC l)/\Fc h l x
structure O2(h:A0)(C:C1):Prop where
 ex:∃CE,(h 92)[0]?=H (.BC CE)/\Bw CE 22=H (.B C.Ew)/\Bw CE 118=H (.B C.fs)/\Bw CE 92=H (.B C.IQ)/\Bw CE 119=H (.B C.th)/\Bw CE 102=H (.B C.t0)/\Bw CE 120=H (.O 57 0)/\Bw CE 121=H (.O 93 0)
 BA:(h 57)[0]?=H (.A6 (C.BA.map .B))
 CS:(h 93)[0]?=H (.A6 (C.CS.map .B))
def C1.M0(C:C1):List Int:=(if C.th=0 then[] else[C.th])++C.BA++((if C.t0=0 then[] else[C.t0])++[C.fs])
def C1.Io(C:C1):List Int:=C.BA++(if C.t0=0 then(if C.th=0 then[] else[C.th]) else[C.t0])
def C1.HS(C:C1):List Int:=(if C.t0=0 then[] else[C.th])++C.CS
theorem C1.ajc(C:C1)(n:Nat):I (C.Ly n)=2*n:=by
 induction n with
 |zero=>rfl|succ n ih=>exact(El ..).trans (congrArg (·+2) ih)
theorem bl{α:Type} [Decidable c]{x:α}:I (if c then[] else[x])<=1:=by
 by_cases h:c
 .rw [if_pos h];exact D3 1
 .rw [if_neg h];exact Ds 1
theorem WA{α:Type}{a b:List α}(h:I a<=m)(k:I b<=n):I (a++b)<=m+n:=Cr (BQ (El ..)) (Nat.add_le_add h k)
theorem C1.xK(C:C1)(n:Nat):I (C.fl n)<=4+2*n:=WA (YL (WA bl bl) 2) (BQ (C.ajc n))
theorem C1.bq{C:C1}(n3:I C.BA<=3):I C.CD<20:=GH (C.xK _) (GH (Oq (Nat.mul_le_mul_left 2 n3) 4) (LO rfl))
theorem C1.ajd{C:C1}(n3:I C.BA<=3):I C.M0<=6:=WA (m:=1+3) (n:=1+1) (WA bl n3) (WA bl (Ds 1))
structure Jm(C:C1):Prop where
 nd:C.Eb.Nodup
 ps:C.M0.Nodup
 xM:∀k∈C.M0,k∈C.Eb
 WB:C.IQ∉C.M0/\C.IQ∉C.Io++C.HS/\C.IQ≠C.fs
 xN:∀k∈C.CS,k∉C.M0/\k∉C.Io/\k≠C.fs
 xO:C.fs∉C.Io++C.HS
 P_:∀k∈C.BA,k∉C.HS/\k≠C.fs
 Tc:C.t0≠0->C.t0∉C.HS/\C.t0≠C.fs/\C.th∉C.Io/\C.th∉C.CS/\C.th≠C.fs/\C.th≠0
 jy:C.th≠0->C.t0=0->C.th∉C.HS/\C.th≠C.fs
 pr:(C.Io++C.HS).Nodup
 RQ:∀k∈C.Io++C.HS,k∈C.Eb
 Aj:I C.CS=I C.BA
 n3:I C.BA<=3
theorem O2.AX(u:O2 h C)(e:∀k∈[92,57,93],h2 k=h k):O2 h2 C:=by obtain⟨CE,a⟩:=u.ex;exact⟨⟨CE,by rw[e 92 ()];exact a⟩,by rw[e 57 ()];exact u.BA,by rw[e 93 ()];exact u.CS⟩
theorem Lz.AX(i:Lz h v xs)(e:∀k∈[71,74,76],h2 k=h k):Lz h2 v xs:=by obtain⟨a,b,x,y,z⟩:=i;exact⟨a,b,x,y,by rw[e a (by clear z x;rcases y with rfl|rfl|rfl<;>decide)];exact z⟩
theorem Fc.AX(r:Fc h l x)(e:∀k∈[71,74,76],h2 k=h k):Fc h2 l x:=
 ⟨r.Aj,r.D5,r.FA,r.E2,r.DS,r.BA.imp λv q=>⟨q.1,q.2.AX e⟩,r.CS.imp λv q=>⟨q.1,q.2.AX e⟩⟩
theorem KL.AX(i:KL h r x)(e:∀k∈[71,74,76,73,77],h2 k=h k):KL h2 r x:=by obtain⟨a,b,l,x,y,z,w⟩:=i;exact⟨a,b,l,x,y,by rw[e a (by clear z;rcases y with rfl|rfl<;>decide)];exact z,w.AX λk hk=>e k (Im _ hk)⟩
theorem aje(n:k∉l.map (·.1)):Ba l k v=l++[(k,v)]:=by
 refine bI ?_;induction l with
 |nil=>rfl|cons a l ih=>
  rw[Hw,D4,not_or] at n;rw[OT,if_neg (FU n.1)];exact ih n.2
theorem xP:(HR fl x).map (·.1)=fl.map (·.1):=by rw[Qn];rfl
theorem br{x:Row}{f:Int}{a:Row->Int}(nd:(fl++[(f,a)]).map (·.1)|>.Nodup):Ba (HR fl x) f (.B (a x))=HR (fl++[(f,a)]) x:=by
 rw[aje]
 .unfold HR;rw[Gg];rfl
 .rw [xP]
  rw[Gg,Vy] at nd;exact λq=>nd.2.2 f q f (by simp) rfl
def ajf:Cb:=match uG.BL.dr 3 with
 |.AR (.Cm _ _ _ _ b) _=>b|_=>.AH
section
variable{C:C1}
theorem WC{α:Type}{a b:List α}(e:(a++b).Nodup):a.Nodup:=(Vy.mp e).1
theorem ajg:∀m,n<=m->∃r,C.fl m=C.fl n++r:=by
 intro m;induction m with
 |zero=>intro l;rw[Nat.le_zero.mp l];exact⟨[],by simp⟩|succ m ih=>
  intro l;by_cases e:n=m+1
  .clear l ih;subst e;exact⟨[],by simp⟩
  .obtain ⟨r,hr⟩:=ih (Mv (bV l e))
   refine⟨r++[(C.BA.getD m 0,λx=>x.BA.getD m 0),(C.CS.getD m 0,λx=>x.CS.getD m 0)],?_⟩;show C.O1++(C.Ly m++_)=_;rw[<-PM,<-PM];congr 1
structure Td(h:A0)(k:Nat)(l:List (Int×V))(h2:A0):Prop where
 DE:(h2 70)[k]?=H (.Ad l)
 sm:Bs [70] h h2
theorem RS{xs:List Int}(lt:k<I xs):Be (xs.map V.B) (k:Int)=H (.B (xs.getD k 0)):=by rw[Lw,GY,Lf,DP lt];rfl
set_option tactic.hygienic true in
theorem ajh(u:O2 h C)(ok:Jm C)(ra:KL h rf x)(jz:I x.BA=I C.BA)(wl:I x.CS=I C.BA):∀(m p:Nat) (h2:A0) (t3:T),p+m=I C.BA->Td h k (HR (C.fl p) x) h2->
  (∀h3 t3,Td h k (HR C.CD x) h3->F .B0 [.v (.O 92 0),.v rf,.v (.O 70 k),t3] h3)->
  GN A5 (AL A5 d) ajf [3] (λy=>True) F ((Ll p m).map λ(k:Nat)=>V.B k) [.v (.O 92 0),.v rf,.v (.O 70 k),t3] h2:=by
 intro m;induction m with
 |zero=>
  intro p h2 t3 e P k;refine Jj trivial (k _ _ ?_);rw[show C.CD=C.fl p by unfold C1.CD;rw[<-e,Nat.add_zero]];exact P
 |succ m ih=>
  intro p h2 t3 e P kk;refine JB (r':=[.v _,.v rf,.v _,.v _]) trivial rfl ?_;have u2:=u.AX λk hk=>P.sm k (by revert k;decide);have jX:=ra.AX λk hk=>P.sm k (by revert k;decide);obtain⟨CE,e1,e2,e3,e4,e5,e6,M1,xQ⟩:=u2.ex;obtain⟨a,b,l,rfl,hab,Bx,rl⟩:=jX;obtain⟨v1,aji,i1⟩:=rl.BA;obtain⟨v2,xR,i2⟩:=rl.CS;obtain⟨a1,b1,rfl,_,hi1⟩:=i1;obtain(⟨a2,b2,rfl,_,hi2⟩):=i2;have lp:p<I C.BA:=(BG 1 (.a A2 BB) Aa AI Aa A4 [p,m,I C.BA] (BQ e));obtain⟨rest,hrest⟩:=ajg (C:=C) (n:=p+1) (I C.BA) (BG 1 (.a A2 BB) Aa AI Aa A4 [p,m,I C.BA] (BQ e));have xS:C.fl (p+1)=C.fl p++[(C.BA.getD p 0,λx=>x.BA.getD p 0)]++[(C.CS.getD p 0,λx=>x.CS.getD p 0)]:=by show C.O1++(C.Ly p++_)=_;unfold C1.fl;simp
  have nd:((C.fl p++[(C.BA.getD p 0,λx:Row=>x.BA.getD p 0)]++[(C.CS.getD p 0,λx:Row=>x.CS.getD p 0)]).map (·.1)).Nodup:=by have:=ok.nd;unfold C1.Eb C1.CD at this;rw[hrest,xS,Gg] at this;exact WC this
  have ajj:((C.fl p++[(C.BA.getD p 0,λx:Row=>x.BA.getD p 0)]).map (·.1)).Nodup:=by rw[Gg] at nd;exact WC nd
  have ajk:∀n,n<=3->I (HR _ x)<100:=λn hn=>GH (BQ (Ce ..)) (GH (C.xK n) (GH (Oq (Nat.mul_le_mul_left 2 hn) 4) (LO rfl)));have n3:=ok.n3;have BE:=ajk p (By 1 (.a A2 BB) Aa 1 Aa (.k 3) A2 (.k 3) A4 [p,m,I C.BA] (BQ e) n3);refine Mm (.AE (x:=.B p) (.AE #[] #[] ((DI Bx).trans aji)) #[] ((F5 hi1).trans (RS (By 1 (.a A2 BB) Aa 1 Aa Er AI Er A4 [p,m,I C.BA,I x.BA] (BQ e) (BQ jz.symm))))) #[]
   (.AE (.AE #[] #[] ((DI e1).trans M1)) #[] ((F5 u2.BA).trans (RS lp))) P.DE (by exact DC BE rfl) ?_
  rw[br ajj];have ne:∀{o:A_} (k':Nat),k'≠70->Bf h2 70 k o k'=h2 k':=λk' n=>CZ n;have k6:a≠70:=by clear Bx kk ih ra;rcases hab with rfl|rfl<;>decide
  have ajl:a2≠70:=by rename_i q;clear hi2 xR;rcases q with rfl|rfl|rfl<;>decide
  have k7:(Bf h2 70 k (.Ad (HR (C.fl p++[(C.BA.getD p 0,λx:Row=>x.BA.getD p 0)]) x)) a)[b]?=H (.BC l):=by rw[ne _ k6];exact Bx
  refine Mm (l:=HR (C.fl p++[(C.BA.getD p 0,λx:Row=>x.BA.getD p 0)]) x) (.AE (x:=.B p) (.AE #[] #[] ((DI k7).trans xR)) #[] ((F5 (by rw[ne _ ajl];exact hi2)).trans (RS (By 1 (.a A2 BB) Aa 1 Aa Er AI Er A4 [p,m,I C.BA,I x.CS] (BQ e) (BQ wl.symm))))) #[]
   (.AE (.AE #[] #[] ((DI (by exact e1)).trans xQ)) #[] ((F5 (by exact u2.CS)).trans (RS (by rw[ok.Aj];exact lp)))) (GL P.DE) (by unfold HR at BE⊢;simp at BE⊢;exact BG 1 AI (.k 100) (.a AI AF) (.k 100000) A4 [I (C.fl p)] BE) ?_
  rw[br nd,<-xS];refine Gd (ih _ _ _ (Fl (BG 1 (.a A2 BB) Aa (.a AI A7) Aa A4 [p,m,I C.BA] (BQ e)) (BG 1 A2 (.a A7 Cz) A2 (.a BB Aa) A4 [I C.BA,p,m] (BQ e.symm))) ⟨GL (GL P.DE),λk' Cc=>?_⟩ kk);have Ks:k'≠70:=λq=>Cc (by rw[q];decide);rw[CZ Ks,CZ Ks];exact P.sm k' Cc
end
theorem xT(u:O2 h C)(ok:Jm C)(ra:KL h rf x)(jz:I x.BA=I C.BA)(wl:I x.CS=I C.BA):AL A5 (d+1) 82 [.O 92 0,rf] h λv h2=>∃k,v=.O 70 k/\Td h k (HR C.CD x) h2:=by
 obtain⟨CE,e1,e2,e3,e4,e5,e6,M1,xQ⟩:=u.ex;have xU:=ra;obtain⟨a,b,l,rfl,hab,Bx,rl⟩:=ra;have k6:a≠70:=by clear Bx xU;rcases hab with rfl|rfl<;>decide
 have xV:∀{n:Nat} {v:V},Bw CE n=H v->Hl A5.AM h ..=H v:=λq=>(DI e1).trans q;have RT:∀{n:Nat} {v:V},Bw l n=H v->Hl A5.AM h ..=H v:=λq=>(DI Bx).trans q;refine FJ (fr:=[.v _,.v _,.AQ,.AQ]) rfl rfl rfl ?_;have nd:=ok.nd;have bu:(C.O1.map (·.1)).Nodup:=by unfold C1.Eb C1.CD C1.fl at nd;rw[Gg] at nd;exact WC nd
 have bH:(([(C.fs,Row.D5)]++[(C.IQ,Row.FA)]).map (·.1)).Nodup:=by exact WC bu
 refine R7 (b6 (KD (.AE #[] #[] (xV e3)) (.AE #[] #[] (RT rl.D5)) (wK ())
  (KD (.AE #[] #[] (xV e4)) (.AE #[] #[] (RT rl.FA)) (wK ()) (b7 ?_))))
 rw[show Ba (Ba [] C.fs (.B x.D5)) ..=HR ([(C.fs,Row.D5)]++[(C.IQ,Row.FA)]) x from br bH];have part:∀(g:Int) (n:Nat) (acc:Row->Int) (fl:List _) (h3:A0) (rest:Cb) (F:DB->List T->A0->Prop),Td h (I (h 70)) (HR fl x) h3->I fl<10->(∀h,Bs [70] h h->True)->Bw CE n=H (.B g)->Bw l n=H (.B (acc x))->
   ((fl++(if g=0 then[] else[(g,acc)])).map (·.1)).Nodup->(∀h4,Td h (I (h 70)) (HR (fl++(if g=0 then[] else[(g,acc)])) x) h4->Ae A5 (AL A5 d) rest [.v (.O 92 0),.v (.O a b),.v (.O 70 (I (h 70))),.AQ] h4 F)->
   Ae A5 (AL A5 d) (.AR (.Ay (.AE (.Am 0) (.AO (.An n))) (.AR (.Cv (.Am 2) (.AE (.Am 0) (.AO (.An n))) (.AE (.Am 1) (.AO (.An n)))) .AH) .AH) rest) [.v (.O 92 0),.v (.O a b),.v (.O 70 (I (h 70))),.AQ] h3 F:=by
  intro g n acc fl h3 rest F P lf _ k8 el xW k;have k9:(h3 92)[0]?=H (.BC CE):=by rw[P.sm 92 ()];exact e1
  have k7:(h3 a)[b]?=H (.BC l):=by rw[P.sm a (by simp[k6])];exact Bx
  by_cases z:g=0
  .rw [if_pos z,Oc] at k
   exact BK (.PK #[] #[] ((DI k9).trans k8) (by simp[z])) (As (k _ P))
  .rw [if_neg z] at k xW
   refine DJ (.PK #[] #[] ((DI k9).trans k8) (by simp[z])) ?_;refine Mm (.AE #[] #[] ((DI k7).trans el)) #[] (.AE #[] #[] ((DI k9).trans k8)) P.DE (by rw[Ce];exact DC lf rfl) (As ?_);rw[br xW];exact k _ ⟨GL P.DE,λk' Cc=>by
    have Ks:k'≠70:=λq=>Cc (by rw[q];decide);rw[CZ Ks];exact P.sm k' Cc⟩
 have Cx:Td h _ (HR ([(C.fs,Row.D5)]++[(C.IQ,Row.FA)]) x) _:=⟨KG,Vq ()⟩;have ajm:((([(C.fs,Row.D5)]++[(C.IQ,Row.FA)])++(if C.th=0 then[] else[(C.th,Row.E2)])).map (·.1)).Nodup:=by have:C.O1=(([(C.fs,Row.D5)]++[(C.IQ,Row.FA)])++(if C.th=0 then[] else[(C.th,Row.E2)]))++(if C.t0=0 then[] else[(C.t0,Row.DS)]):=rfl;rw[this,Gg] at bu;exact WC bu
 refine part _ 119 _ _ _ _ _ Cx (by simp) (λw w=>trivial) e5 rl.E2 ajm λh4 ajn=>?_;refine part _ 102 _ _ _ _ _ ajn (by split<;>simp) (λw w=>trivial) e6 rl.DS ?_ λh5 kB=>?_
 .exact bu
 have ajo:(([(C.fs,Row.D5)]++[(C.IQ,Row.FA)])++(if C.th=0 then[] else[(C.th,Row.E2)]))++(if C.t0=0 then[] else[(C.t0,Row.DS)])=C.fl 0:=by unfold C1.fl C1.O1;simp[C1.Ly]
 rw[ajo] at kB;have xX:=u.AX λk hk=>kB.sm k (by revert k;decide);obtain⟨ajp,f1,f2,f3,f4,acf,RU,ajq,f8⟩:=xX.ex;have n3:=ok.n3;refine Nm (.Aj (n:=I C.BA) (.AE #[] #[] ((DI f1).trans ajq)) (by rw[IJ xX.BA,Ce])) #[] (TJ (BG 1 A2 (.k 3) AI (.k 1000) A4 [I C.BA] n3)) (λw q=>nomatch q) ?_;rw[PT];exact ajh u ok xU jz wl _ 0 h5 _ (Fl (Ei (.a AK A2) A2 A4 [I C.BA]) (Ei A2 (.a AK A2) A4 [I C.BA])) kB λh6 t3 ajr=>ET #[] ⟨_,rfl,ajr⟩
structure IS(C:C1)(l:List (Int×V))(x:Row):Prop where
 nd:(l.map (·.1)).Nodup
 ks:∀k∈l.map (·.1),k∈C.Eb
 DE:∀p∈C.CD,(BP l p.1).getD (.B 0)=.B (p.2 x)
structure Tb(h:A0)(rows:List Row)(refs:List V):Prop where
 DE:h 98=[.A6 (.O 99 0::refs)]
 Aj:I refs=I rows
 Gf:∀(i:Nat) (r:V) (x:Row),refs[i]?=H r->rows[i]?=H x->KL h r x
 nd:refs.Nodup
structure Jo(C:C1)(K:Int->Option Int)(ob:List (List (Int×V)))(rows:List Row):Prop where
 Aj:I ob=I rows
 ag:∀(i:Nat) (l:List (Int×V)) (x:Row),ob[i]?=H l->rows[i]?=H x->IS C l x
 ln:∀x∈rows,I x.BA=I C.BA/\I x.CS=I C.BA
 kk:∀f,(K f).isSome=U↔f∈C.Eb
 n:I rows<60
theorem ajs(m:k∈l.map (·.1)):∃v,BP l k=H v:=by
 cases e:BP l k with
 |some v=>exact⟨v,rfl⟩|none=>exact absurd m (ja e)
theorem xY:∀{fl:List (Int×(Row->Int))},(fl.map (·.1)).Nodup->∀p∈fl,BP (HR fl x) p.1=H (.B (p.2 x))
 |q::fl,nd,p,hp=>by
  rw[Hw,SN] at nd;show(if q.1=p.1 then H _ else BP (HR fl x) p.1)=_;rcases D4.mp hp with e|e
  .clear hp nd;subst e;rw[if_pos rfl]
  .rw [if_neg λz=>nd.1 (by rw[z];exact Eh.mpr ⟨p,e,rfl⟩)]
   exact xY nd.2 p e
def x_:Cb:=match uH.BL.dr 1 with
 |.AR (.Cm _ _ _ _ b) _=>b|_=>.AH
def ajt:Cb:=match x_.dr 2 with
 |.AR (.Cm _ _ _ _ b) _=>b|_=>.AH
theorem aju(e5:(h a)[b]?=H (.Ad l))(e4:(h 70)[k]?=H (.Ad shl))(rf:V):∀(fs:List Int) (ED:T),(∀f∈fs,∃v:Int,(BP l f).getD (.B 0)=.B v/\(BP shl f).getD (.B 0)=.B v)->
  (∀ED,F .B0 [.v (.O 92 0),.v (.O 85 0),.v rf,.v (.B at_),.v (.O 70 k),.v (.O a b),ED] h)->
  GN A5 (AL A5 d) ajt [6] (λx=>True) F (fs.map V.B) [.v (.O 92 0),.v (.O 85 0),.v rf,.v (.B at_),.v (.O 70 k),.v (.O a b),ED] h:=by
 intro fs;induction fs with
 |nil=>exact λED x kk=>Jj trivial (kk _)|cons f fs ih=>
  intro ED hv kk;obtain⟨v,v1,v2⟩:=hv f D0;refine JB trivial rfl ?_;refine BK (.AS (y:=.B v) ?_ ?_ RB) (As (Gd (ih _ (λf hf=>hv f (DV _ hf)) kk)))
  .rw [<-v1]
   exact .H8 #[] #[] #[] (Vg e5) (PI e5)
  .rw [<-v2]
   exact .H8 #[] #[] #[] (Vg e4) (PI e4)
theorem ajv{l l2:List (Int×V)}(e:∀k∈l.map (·.1),(BP l2 k).isSome):I ((l.map λp=>V.B p.1).filter λk=>match k with|.B a=>(BP l2 a).isNone|_=>A1)=0:=by
 rw[xd,List.filter_eq_nil_iff];intro v hv;obtain⟨p,hp,rfl⟩:=Eh.mp hv
 have:=e p.1 (Eh.mpr ⟨p,hp,rfl⟩);simp[Option.isSome_iff_ne_none.mp this]
theorem ajw(S:St w h s ob Ah)(M:Md w h s K)(u:O2 h C)(ok:Jm C)(tb:Tb h rows refs)(bo:Jo C K ob rows):∀(m p:Nat) (h2:A0) (t4 t5 ED:T),p+m=I rows->Bs [70] h h2->(∀h3 t3 t4 t5 ED,Bs [70] h h3->F .B0 [.v (.O 92 0),.v (.O 85 0),.v (.O 98 0),t3,t4,t5,ED] h3)->∀t3,
  GN A5 (AL A5 (d+1)) x_ [3] (λz=>True) F ((Ll (p+1) m).map λ(k:Nat)=>V.B k) [.v (.O 92 0),.v (.O 85 0),.v (.O 98 0),t3,t4,t5,ED] h2:=by
 intro m;induction m with
 |zero=>exact λp h2 t4 t5 ED z sm kk t3=>Jj trivial (kk _ _ _ _ _ sm)|succ m ih=>
  intro p h2 t4 t5 ED e sm kk t3;have lp:p<I rows:=(BG 1 (.a A2 BB) Aa AI Aa A4 [p,m,I rows] (BQ e));have lr:p<I refs:=by rw[tb.Aj];exact lp
  have lo:p<I ob:=by rw[bo.Aj];exact lp
  have hx:=DP lp;have hr:=DP lr;have hl:=DP lo;have ra:=(tb.Gf p _ _ hr hx).AX λk hk=>sm k (by revert k;decide);have u2:=u.AX λk hk=>sm k (by revert k;decide);have JI:=bo.ln _ (HE hx);have ag:=bo.ag p _ _ hl hx;have M3:(h2 98)[0]?=H (.A6 (.O 99 0::refs)):=by rw[sm 98 (),tb.DE];rfl
  have CG:=S.AX (λk hk=>sm k (by revert k;decide)) (Dw (sm 58 ()) (sm 59 ()));have M2:=M.AX sm () ();refine JB (r':=[.v _,.v _,.v _,.v _,t4,t5,ED]) trivial rfl ?_;refine I2 (.AR #[] (.AR (.AE #[] #[] ((F5 M3).trans (by exact hr))) .AH)) (DL ?_ (xT u2 ok ra JI.1 JI.2));rintro v h3 ⟨k,rfl,P⟩;have Bv:=sm.Aw P.sm;have CQ:=CG.AX (λk hk=>P.sm k (by revert k;decide)) (Dw (P.sm 58 ()) (P.sm 59 ()));have EV:=M2.AX P.sm () ();have m3:=CQ.m;have xe:=CQ.Dh hl;refine Ea (x:=.O 60 p) (.AE (x:=.B (p+1:Nat)) #[] #[] (jN CQ.Vz (Ei (.a AK AF) AI A4 [p]) (BG 1 AI A7 AI A7 A4 [p,I ob] lo))) ?_;obtain⟨ka,kl,apM,kx,ky,kz,kn⟩:=EV.kd;have RH:Ar A5 (AL A5 (d+1)) (.AE (.Am 1) _) _ [.v (.O 92 0),.v _,.v (.O 98 0),.v (.B (p+1:Nat)),.v (.O 70 k),.v (.O 60 p),ED] h3 (.v (.O ka 0)):=.AE (x:=.An 104) #[] #[] ((b8 m3).trans (by rw[<-kx];rfl));refine ahL RH #[] ky kn λl' pm=>?_;have ajx:∀f∈kl.map _,f∈C.Eb:=λf hf=>(bo.kk f).mp (by
   obtain⟨v,hv⟩:=ajs hf
   have:=kz f;rw[hv] at this;cases q:K f with
   |none=>rw[q] at this;cases this
   |some y=>rfl)
  refine aju xe P.DE _ l' ED (λf hf=>?_) λED=>?_
  .obtain ⟨q,hq,rfl⟩:=Eh.mp (ajx f (pm.mem_iff.mp hf))
   exact⟨_,ag.DE q hq,by rw[xY ok.nd q hq];rfl⟩
  .have bw:EG A5.AM h3 _ (.An 104)=H (H (.O ka 0)):=(ahG (d:=.O 85 0) (b9 m3)).trans (by rw[<-kx];rfl)
   refine BK (.AS (.cnt (l:=ob[p].map λq=>V.B q.1) rfl (by simp only[NN,xe]) rfl bw ky (ajv λk hk=>?_)) #[] rfl) (As (Gd ?_))
   .have:=(bo.kk k).mpr (ag.ks k hk)
    rw[kz k];cases q:K k with
    |none=>rw[q] at this;cases this
    |some y=>rfl
   .exact ih (p+1) h3 _ _ _ (Fl (BG 1 (.a A2 BB) Aa (.a AI A7) Aa A4 [p,m,I rows] (BQ e)) (BG 1 A2 (.a A7 Cz) A2 (.a BB Aa) A4 [I rows,p,m] (BQ e.symm))) Bv kk _
theorem bx(S:St w h s ob Ah)(M:Md w h s K)(u:O2 h C)(ok:Jm C)(tb:Tb h rows refs)(bo:Jo C K ob rows):
  AL A5 (d+2) 83 [.O 92 0,.O 85 0,.O 98 0] h λv h2=>v=.Au U/\Bs [70] h h2:=by
 have m:=S.m;have M3:(h 98)[0]?=H _:=congrArg (·[0]?) tb.DE;have ajy:(h 86)[0]?=H _:=congrArg (·[0]?) S.th;have ll:I (JD (I ob))=I rows+1:=by unfold JD;simp[bo.Aj]
 have lr:I (V.O 99 0::refs)=I rows+1:=by simp[tb.Aj]
 have rn:=bo.n;refine FJ rfl rfl rfl ?_;refine BK (.CF (.G8 (.AS (.Aj #[] (by rw[IJ ajy,ll])) (.Aj #[] (by rw[IJ M3,lr])) RB) (.GG (.PK #[] #[] ((b8 m).trans rfl) rfl)))) (As ?_);have rg:HA h .H7 (.v (.B 1)) (.B (I rows+1:Nat))=H ((Ll (0+1) (I rows)).map λ(k:Nat)=>V.B k):=by
  rw[ahF,if_pos]
  .unfold Ho
   rw[show(((I rows+1:Nat):Int)-1).toNat=I rows from congrArg Int.toNat (gE (I rows:Int) 1)];congr 1;rw[List.range'_eq_map_range,Qn];refine Yo λk z=>?_;congr 1
  .unfold Dr
   simp only[Gq,decide_eq_true_eq]
   have:I rows+1<BU:=BG 1 AI (.k 60) (.a AI AF) (.k 100000) A4 [I rows] rn;exact⟨⟨Co (.a (.s AK (.k 1000000000000)) AF) AF A4 [],Co (.a AF AF) (.k 1000000000000) A4 []⟩,⟨⟨Ax 1 AK A2 (.a (.s AK (.k 1000000000000)) AF) AI A4 [I rows] (CU _),Ax 1 AI (.k 60) (.a AI AF) (.k 1000000000000) A4 [I rows] (DM.mpr rn)⟩,Ax 1 (.a AI AF) A7 (.a AI AF) A7 A4 [I rows,BU] (DM.mpr this)⟩⟩
 refine Nm #[] (.Aj #[] (by rw[IJ M3,lr])) rg (λz q=>nomatch q) ?_;exact ajw S M u ok tb bo (I rows) 0 h _ _ _ (Fl (Ei (.a AK A2) A2 A4 [I rows]) (Ei A2 (.a AK A2) A4 [I rows])) (Bs.BO _ _) (λh3 t3 t4 t5 ED sm=>ET #[] ⟨rfl,sm⟩) _
structure kC(h:A0)(f:IP)(B_:List Int):Prop where
 ex:∃CE,(h 92)[0]?=H (.BC CE)/\Bw CE 116=H (.O 94 0)/\Bw CE 117=H (.O 68 0)/\Bw CE 94=H (.O 53 0)
 B_:(h 94)[0]?=H (.A6 (B_.map .B))
 xf:(h 68)[0]?=H (.A6 ((Ey f.N).map λp=>V.B (f.PW p)))
 xg:(h 53)[0]?=H (.A6 ((Ey f.N).map λp=>V.B (f.CR p)))
def bz:Cb:=match aI.BL.dr 4 with
 |.AR (.while _ b) _=>b|_=>.AH
def c5:E:=match aI.BL.dr 4 with
 |.AR (.while c _) _=>c|_=>.Am 0
theorem xh{g:Nat->Int}(lt:p<N):Be ((Ey N).map λp=>V.B (g p)) (p:Int)=H (.B (g p)):=by rw[Lw,GY,Yg lt];rfl
def kD(t:Option Int)(g:V):V:=match t with|some x=>.A3 [.B 3,.B x]|none=>g
theorem ajz(u:kC h f B_)(CR:∀p,p<f.N->0<=f.CR p->(f.CR p).toNat<p):∀(n p:Nat) (h2:A0) (L:List V) (g:V),p<=n->p<f.N->Bs [69] h h2->(h2 69)[k]?=H (.A6 L)->I L+n<1000->
  (∀h3 a,a<0->Bs [69] h h3->(h3 69)[k]?=H (.A6 (L++Kz f n p))->F .B0 [.v (.O 92 0),.v sv,.v (.B a),.v (.O 69 k),.v (kD (JG f n p) g)] h3)->
  Lj A5 (AL A5 d) c5 bz F (n+2) [.v (.O 92 0),.v sv,.v (.B p),.v (.O 69 k),.v g] h2:=by
 have step:∀(m p:Nat) (h2:A0) (L:List V) (g:V),p<f.N->Bs [69] h h2->(h2 69)[k]?=H (.A6 L)->I L<1000->
   (∀h3,Bs [69] h h3->(h3 69)[k]?=H (.A6 (L++[.B p]))->Lj A5 (AL A5 d) c5 bz F m [.v (.O 92 0),.v sv,.v (.B (f.CR p)),.v (.O 69 k),.v (kD (L0 f p) g)] h3)->
   Lj A5 (AL A5 d) c5 bz F (m+1) [.v (.O 92 0),.v sv,.v (.B p),.v (.O 69 k),.v g] h2:=by
  intro m p h2 L g lt sm e lL kk;have Bv:Bs _ h (Bf h2 69 k (.A6 (L++[.B p]))):=sm.Aw (Nq ());obtain⟨CE,e1,e2,e3,e4⟩:=u.ex;have f1:(Bf h2 69 k (.A6 (L++[.B p])) 92)[0]?=H (.BC CE):=by rw[Bv 92 ()];exact e1
  have fw:=u.xf;have fo:=u.xg;rw[<-Bv 68 ()] at fw;rw[<-Bv 53 ()] at fo;refine ahM (.AS #[] #[] (by simp)) ?_;refine Vk rfl e (Fw #[] (DG (R8 e (by exact DC lL rfl) ?_)));have kk:=kk _ Bv (GL e);have xj:Ar A5 (AL A5 d) (.AE (.AE (.Am 0) _) (.Am 2)) _ [.v _,.v sv,.v _,.v (.O 69 k),.v g] _ _:=
   .AE (.AE #[] #[] ((DI f1).trans e3)) #[] ((F5 fw).trans (xh lt))
  have oe:∀g,Ar A5 (AL A5 d) (.AE (.AE (.Am 0) _) (.Am 2)) _ [.v _,.v sv,.v _,.v (.O 69 k),.v g] _ _:=λg=>
   .AE (.AE #[] #[] ((DI f1).trans e4)) #[] ((F5 fo).trans (xh lt))
  by_cases w1:f.PW p=1
  .rw [show L0 f p=H _ from if_pos w1] at kk
   refine DJ (.AS xj #[] (by simp[w1])) ?_;refine Ea (.A3 (.AR #[] (.AR (.C9 #[] #[] rfl) .AH))) (As ?_);exact Ea (oe _) (Gd kk)
  .rw [show L0 f p=AB from if_neg w1] at kk
   refine BK (.AS xj #[] (by simp;exact λz=>w1 (xm z))) (As ?_);exact Ea (oe _) (Gd kk)
 have stop:∀(a:Int) (m:Nat) (g:V) (h3:A0),a<0->F _ _ h3->Lj A5 (AL A5 d) c5 bz F (m+1) [.v (.O 92 0),.v sv,.v (.B a),.v (.O 69 k),.v g] h3:=λa m g h3 na q=>
  w_end (.AS #[] #[] (by simp;assumption)) q
 intro n;induction n with
 |zero=>
  intro p h2 L g kE lt sm e g0 kk;refine step 1 p h2 L g lt sm e (BG 1 (.a (.a A2 AK) AF) (.k 1000) AI (.k 1000) A4 [I L] g0) λh3 Bv e3=>?_;have neg:f.CR p<0:=by
   by_cases z:0<=f.CR p
   .have:=CR p lt z;exact QG 1 A2 A7 1 BB Aa 1 Aa AK AI AK A4 [f.CR p,↑(f.CR p).toNat,p] (Np (f.CR p)) (DM.mpr this) (DM.mpr kE)
   .exact Ax 1 AI AK AI AK A4 [f.CR p] (Mu.mp z)
  exact stop _ 0 _ _ neg (kk h3 _ neg Bv e3)
 |succ n ih=>
  intro p h2 L g kE lt sm e g0 kk;refine step _ p h2 L g lt sm e (BG 1 (.a (.a A2 BB) AF) (.k 1000) AI (.k 1000) A4 [I L,n] g0) λh3 Bv e3=>?_;rw[jj,wo] at kk;by_cases z:0<=f.CR p
  .have:=CR p lt z
   obtain⟨o,ho⟩:∃o:Nat,f.CR p=o:=⟨_,(En (Ax 1 A2 A7 A2 A7 A4 [f.CR p,↑(f.CR p).toNat] (Np (f.CR p))) (Ax 1 A2 A7 A2 A7 A4 [↑(f.CR p).toNat,f.CR p] (KY (Ax 1 AK A2 AK A2 A4 [f.CR p] z))))⟩;rw[ho] at this kk⊢;rw[Int.toNat_natCast] at this kk;refine ih o h3 _ _ (By 1 AI A7 1 A7 Cz A2 Aa A4 [o,p,n] this kE) (By 1 AI A7 1 BB Aa AI Aa A4 [o,p,f.N] this lt) Bv e3 (by simp;exact BG 1 (.a (.a A2 BB) AF) (.k 1000) (.a (.a AI A7) AF) (.k 1000) A4 [I L,n] g0) λh4 a na DR e4=>?_;have kk:=kk h4 a na DR (by rw[PM] at e4;exact e4);cases ft:JG f n o with
   |none=>rw[ft] at kk;exact kk|some x=>rw[ft] at kk;exact kk
  .simp only[z,if_false] at kk
   exact stop _ _ _ _ (Ax 1 AI AK AI AK A4 [f.CR p] (Mu.mp z)) (kk h3 _ (Ax 1 AI AK AI AK A4 [f.CR p] (Mu.mp z)) Bv e3)
theorem ajA(u:kC h f B_)(CR:∀p,p<f.N->0<=f.CR p->(f.CR p).toNat<p)(o:L1 f B_ st):AL A5 (d+1) 81 [.O 92 0,.B st] h λv h2=>∃k,v=.A3 [.O 69 k,.A3 [.B (FO f (Cj f.N B_ st)).1,(FO f (Cj f.N B_ st)).2]]/\(h2 69)[k]?=H (.A6 (Lv f (Cj f.N B_ st)))/\Bs [69] h h2:=by
 have cl:=xB o;have n3:=o.n3;obtain⟨CE,e1,e2,e3,e4⟩:=u.ex;refine FJ (fr:=[.v _,.v _,.AQ,.AQ,.AQ]) rfl rfl rfl ?_;have main:∀(F:DB->List T->A0->Prop),(F=λfl w h'=>∃k,fl.Av=.A3 [.O 69 k,.A3 [.B (FO f (Cj f.N B_ st)).1,(FO f (Cj f.N B_ st)).2]]/\(h' 69)[k]?=H (.A6 (Lv f (Cj f.N B_ st)))/\Bs [69] h h')->
   Ae A5 (AL A5 d) (aI.BL.dr 2) [.v (.O 92 0),.v (.B st),.v (.B (Cj f.N B_ st)),.AQ,.AQ] h F:=by
  rintro F rfl;refine aq (Ar.A6 .AH) rfl () ?_;refine Ea #[] ?_;have xo:(Bm h 69 _ 69)[I (h 69)]?=H (.A6 []):=KG;by_cases z:0<=Cj f.N B_ st
  .obtain ⟨p,hp⟩:∃p:Nat,Cj f.N B_ st=p:=⟨_,(En (Ax 1 A2 A7 A2 A7 A4 [Cj f.N B_ st,↑(Cj f.N B_ st).toNat] (Np (Cj f.N B_ st))) (Ax 1 A2 A7 A2 A7 A4 [↑(Cj f.N B_ st).toNat,Cj f.N B_ st] (KY (Ax 1 AK A2 AK A2 A4 [Cj f.N B_ st] z))))⟩
   rw[hp];refine wM (ajz u CR 3 p _ [] _ (DM.mp (QG 1 A2 A7 1 BB Aa 1 Aa (.k 3) A2 (.k 3) A4 [p,Cj f.N B_ st,f.N] (Eg hp.symm) cl.2 (DM.mpr n3))) (DM.mp (CB 1 AI A7 1 Aa A2 Cz A7 A4 [Cj f.N B_ st,f.N,p] cl.2 (Eg hp.symm))) (Vq ()) xo (by simp) λh3 a na Bv e3=>?_);have kF:Lv f p=Kz f 3 p:=if_pos (Ax 1 AK A2 AK A2 A4 [p] (CU p));have kG:(V.A3 [.B (FO f p).1,(FO f p).2])=kD (JG f 3 p) (.A3 [.B 2,.B 0]):=by unfold FO;rw[Int.toNat_natCast];cases JG f 3 p<;>rfl
   rw[kG,kF];exact ET #[] ⟨_,rfl,by simpa using e3,Bv⟩
  .refine wM (n:=0+1) (w_end (.AS #[] #[] (by simp;exact Ax 1 AI AK AI AK A4 [Cj f.N B_ st] (Mu.mp z))) ?_)
   have kF:Lv f _=[]:=if_neg z;have kG:FO f _=(2,.B 0):=if_neg z;rw[kF,kG];exact ET #[] ⟨_,rfl,xo,Vq ()⟩
 have main:=main _ rfl;by_cases c1:st< -2
 .refine DJ (.AS #[] #[] (by simp[c1])) ?_
  refine Ea (.C9 #[] #[] rfl) (As ?_);rw[show Cj f.N B_ st=-3-st from if_pos c1] at main⊢;exact main
 .refine BK (.AS #[] #[] (by simp[c1])) ?_
  by_cases c2:0<st
  .obtain ⟨k,hk⟩:∃k:Nat,st-1=k:=⟨_,(En (Ax 1 (.s A2 AF) A7 (.s A2 AF) A7 A4 [st,↑(st-1).toNat] (Np (st-1))) (Ax 1 A2 (.s A7 AF) A2 (.s A7 AF) A4 [↑(st-1).toNat,st] (KY (Ax 1 (.a AK AF) A2 AK (.s A2 AF) A4 [st] c2))))⟩
   have lt:k<I B_:=by have:=o.hi;exact DM.mp (CB 1 A2 A7 1 Aa (.s A2 AF) Cz A7 A4 [st,I B_,k] this (Eg hk.symm))
   have ec:Cj f.N B_ st=B_.getD k (-1):=by unfold Cj;rw[if_neg c1,if_pos c2,hk];rfl
   refine DJ (.AS #[] #[] (by simp[c2])) ?_;refine Ea (x:=.B (B_.getD k (-1))) (.AE (x:=.B k) (.AE #[] #[] ((DI e1).trans e2)) (.C9 #[] #[] (by rw[<-hk];rfl)) ((F5 u.B_).trans (by rw[Lw,GY,Lf,DP lt];rfl))) (As (As ?_));rw[<-ec];exact main
  .refine BK (.AS #[] #[] (by simp;exact Ax 1 A2 AK A2 AK A4 [st] (Ie.mp c2))) (As (As ?_))
   have ec:Cj f.N B_ st=-1:=by unfold Cj;rw[if_neg c1,if_neg c2]
   rw[ec] at main⊢;exact main
theorem xq{l:List Int}{a:Int}(h0:0<=a)(h1:a<I l):∃x,Be (l.map V.B) a=H (.B x):=by
 unfold Be;rw[if_pos h0,GY]
 have:a.toNat<I l:=(DM.mp (CB 1 AI A7 1 Aa A2 Cz A7 A4 [a,I l,a.toNat] h1 (KY (Ax 1 AK A2 AK A2 A4 [a] h0))));rw[DP this];exact⟨_,rfl⟩
def xr:List Int:=[1,1,2,2,3,2,3,0,2,1,1,2,0,2,3,0,7,8,9,0,0,0,4,5,11,12,13,14,0,1,0,2,0,2,1,0]
theorem xu{nums:List Int}(e1:h 79=[.A6 (nums.map .B)])(e2:h 80=[.BC [(103,.O 79 0),(24,.B a)]])(ha:0<=a)(hc:0<c)
  (q:∀v,0<=v->v<c->Q (.B v) (DA h 80 [.BC [(103,.O 79 0),(24,.B (a+1))]])):AL A5 (d+1) 71 [.O 80 0,.B c] h Q:=by
 have o1:(h 80)[0]?=H (.BC [(103,.O 79 0),(24,.B a)]):=by rw[e2];rfl
 have s1:Bf h 80 0 (.BC (CX [(103,.O 79 0),(24,.B a)] 24 (.B (a+1))))=DA h 80 [.BC [(103,.O 79 0),(24,.B (a+1))]]:=by unfold Bf;rw[e2];rfl
 have o2:(DA h 80 [.BC [(103,.O 79 0),(24,.B (a+1))]] 80)[0]?=H _:=rfl;have o3:(DA h 80 [.BC [(103,.O 79 0),(24,.B (a+1))]] 79)[0]?=H (.A6 (nums.map .B)):=by show(h 79)[0]?=_;rw[e1];rfl
 have fin:∀n:Int,Q (.B (n%c)) _:=λn=>q _ (Int.emod_nonneg _ (λEu=>QH (CB 1 (.a AK AF) A2 1 A2 AK AF AK A4 [c] hc (Eg Eu)))) (Int.emod_lt_of_pos _ hc);refine FJ (fr:=[.v _,.v _,.AQ,.AQ]) rfl rfl rfl ?_;refine Ea (.AE #[] #[] ((DI o1).trans rfl)) ?_;refine Lh (.C9 #[] #[] rfl) #[] #[] o1 (show 2<BU by decide) ?_;rw[s1];generalize DA h 80 _=h2 at o2 o3 fin⊢;have xw:Ar A5 (AL A5 d) (.AE (.Am 0) _) _ [.v _,.v (.B c),.v (.B a),.v (.B (5*a+3))] h2 _:=.AE (x:=.An 103) #[] #[] ((DI o2).trans rfl);refine Ea (.C9 (.C9 #[] #[] rfl) #[] rfl) ?_;have ret:∀n:Int,Ae A5 (AL A5 d) (uB.BL.dr 4) [.v (.O 80 0),.v _,.v (.B a),.v _] h2 λfl w h'=>Q fl.Av h':=λn=>ET (.C9 (t:=.v (.B n)) (u:=.v (.B c)) #[] #[] (if_pos hc)) (fin n);refine Vi (z:=decide _) (.AS #[] (.Aj xw (IJ o3)) (by rw[Ce];rfl)) (λe=>?_) λe=>?_
 .obtain ⟨n,en⟩:=xq ha (of_decide_eq_true e)
  exact Ea (.AE xw #[] ((F5 o3).trans en)) (As (ret n))
 .refine Vi (z:=decide _) (.AS #[] (.Aj (t:=.v (.A3 (xr.map _))) #[] rfl) rfl) (λe=>?_) λe=>As (As (ret _))
  obtain⟨n,en⟩:=xq (l:=xr) ha (of_decide_eq_true e);exact Ea (.AE (t:=.v (.A3 _)) (x:=.B a) #[] #[] en) (As (As (ret n)))
def CJ(h:A0):Prop:=∃(nums:List Int) (a:Int),h 79=[.A6 (nums.map .B)]/\h 80=[.BC [(103,.O 79 0),(24,.B a)]]/\0<=a/\I nums<=40
theorem CJ.AX(D:CJ h)(a:h2 79=h 79)(b:h2 80=h 80):CJ h2:=by obtain⟨n,x,e1,e2,e3⟩:=D;exact⟨n,x,a.trans e1,b.trans e2,e3⟩
theorem Mw(D:CJ h)(hc:0<c):AL A5 (d+1) 71 [.O 80 0,.B c] h λv h2=>∃x,v=.B x/\0<=x/\x<c/\CJ h2/\Bs [80] h h2:=by obtain⟨nums,a,e1,e2,e3⟩:=D;exact xu e1 e2 e3.1 hc λv v0 ajB=>⟨v,rfl,v0,ajB,⟨nums,_,(if_neg ()).trans e1,if_pos rfl,(Ax 1 AK A2 AK AI A4 [a] e3.1),e3.2⟩,λk Cc=>if_neg λz=>Cc (by rw[z];decide)⟩
theorem ajC{i:Nat}(hc:0<c)(xx:∀h2,Bs [80] h h2->ok h2):∀(l:List V) (acc:List V) (r:List T) (h1:A0),CJ h1->Bs [80] h h1->I acc+I l<1000->
  (∀(xs:List Int) (h2:A0),I xs=I l->(∀x∈xs,0<=x/\x<c)->CJ h2->Bs [80] h h2->P (acc++xs.map V.B) h2)->
  QC (λr' h' Q'=>Az A5 (AL A5 (d+1)) (.Ab 71 (.AR (.Am 0) (.AR (.AO (.B c)) .AH))) A1 r' h' Q') (λr' h' Q'=>Az A5 (AL A5 (d+1)) (.AO (.Au U)) U r' h' λt h''=>match t with|.v (.Au b)=>Q' b h''|_=>False) [i+1] ok l (.v (.O 80 0)::r) h1 acc P:=by
 intro l;induction l with
 |nil=>exact λacc r h1 D sm u k=>⟨xx h1 sm,by simpa using k [] h1 rfl (λx hx=>nomatch hx) D sm⟩|cons x l ih=>
  intro acc r h1 D sm ln k;refine⟨xx h1 sm,BG 1 (.a (.a A2 BB) AF) (.k 1000) AI (.k 100000) A4 [I acc,I l] ln,_,rfl,?_⟩;refine⟨_,rfl,?_⟩;refine Ge #[] (DL ?_ (Mw D hc));rintro v h2 ⟨y,rfl,y0,ajD,D2,Lo⟩;refine DG (ih _ _ h2 D2 (sm.Aw Lo) (by simp at ln⊢;exact BG 1 (.a (.a A2 BB) AF) (.k 1000) (.a (.a AI A7) AF) (.k 1000) A4 [I acc,I l] ln) λxs h3 e hx Gw Bv=>?_)
  have:=k (y::xs) h3 (by simp[e]) (λz hz=>by
   rcases D4.mp hz with rfl|hz
   .exact ⟨y0,ajD⟩
   .exact hx z hz) Gw Bv
  rw[PM];exact this
theorem xy{i st s i':Nat}{Q:T->A0->Prop}(hc:0<c)(hs:st≠80)(pa:Ar A5 (AL A5 (d+1)) a A1 (.v (.O 80 0)::r) h (.v (.O st i')))(el:(h st)[i']?=H (.A6 l))(D:CJ h)(ln:I l<900)
  (k:∀(xs:List Int) (h2:A0),I xs=I l->(∀x∈xs,0<=x/\x<c)->CJ h2->Bs [80] h h2->Q (.v (.O s (I (h2 s)))) (Bm h2 s (.A6 (xs.map V.B)))):
  Az A5 (AL A5 (d+1)) (.CH s (.Ez (.Ab 71 (.AR (.Am 0) (.AR (.AO (.B c)) .AH))) [i+1] .Ci a (.AO .AV) (.AO (.Au U)))) A1 (.v (.O 80 0)::r) h Q:=by
 refine⟨rfl,rfl,pa.go _ (Ar.AO.go _ ⟨_,rfl,l,w7 el,?_⟩)⟩;refine ajC hc (λh2 sm=>?_) l [] r h D (Bs.BO _ _) (by simp;exact DC ln rfl) λxs h2 e hx D2 sm=>⟨by simp;exact By 1 A2 A7 1 BB (.k 900) AI (.k 100000) A4 [I xs,I l] (BQ e) ln,?_⟩
 .exact w7 (by rw[sm st (by simp[hs])];exact el)
 .exact k xs h2 e hx D2 sm
def RV(out lid:Int)(K:Int->Option Int)(p:Int×V×Int):V:=.A3 [.B 1,.A3 [.B 22,.B ((K p.1).getD 0),.A3 [.B 4,.B ((K p.1).getD 0),.A3 [.B 2,.B out,.B lid],.A3 [.B out,.B p.1]],p.2.1]]
def L2(c:Nn)(lid ret:Int)(K:Int->Option Int)(ps:List (Int×V×Int)):List V:=jv c.F6 lid (xE c.F6 c.ct)::(ps.map (RV c.F6 lid K)++[.A3 [.B 12,.A3 [.B 19,.B ret,.A3 [.B 2,.B c.F6,.B lid],.B 2,.B 0]]])
def KM(ps:List (Int×V×Int))(l:List (Int×V)):List (Int×V):=ps.foldl (λl p=>Ba l p.1 (.B p.2.2)) l
structure Mo(w:Lm)(h:A0)(s:EM)(K:Int->Option Int):Prop where
 F7:s.F7=w.c.F6
 kd:∃a l,(a=96\/a=97)/\s.kd=.O a 0/\(h a)[0]?=H (.Ad l)/\∀f,BP l f=(K f).map .B
theorem Mo.RH(M:Mo w h s K):RA h s.kd K:=by obtain⟨a,l,_,x,y,z⟩:=M.kd;exact⟨a,l,x,y,z⟩
theorem Mo.AX(M:Mo w h s K)(sm:Bs L h h2)(RI:96∉L)(Ks:97∉L):Mo w h2 s K:=⟨M.F7,by
 obtain⟨a,l,e,x,y,z⟩:=M.kd;exact⟨a,l,e,x,by rw[sm a (by clear y x;rcases e with rfl|rfl<;>assumption)];exact y,z⟩⟩
theorem Mo.Bb(M:Mo w h s K):Mo w h s.Bb K:=⟨M.F7,M.kd⟩
theorem ajE:∀(ps:List (Int×V×Int)) {h:A0} {s:EM} {ob:List (List (Int×V))} {l2:List (Int×V)} {at_:Int},St w h s ob Ah->Mo w h s K->s.tk=tk->(h 58)[i]?=H (.A6 R)->0<=at_->
  (∀k:Nat,k<I ps->∃p,ps[k]?=H p/\Be R (at_+k)=H (RV w.c.F6 lid K p))->(∀p∈ps,(K p.1).isSome)->I ps<=s.BX->(h 72)[b]?=H (.Ad ll)->BP ll lid=H (.B (B7+1:Nat))->
  ob[B7]?=H l2->I l2+I ps<900->(∀p∈ps,∀(h3:A0) (s3:EM),HM h3 w.c s3->s3.tk=tk->(h3 72)[b]?=H (.Ad ll)->Em (d+7) 75 [.O 85 0,p.2.1,this,.O 72 b] h3 (.B p.2.2) h3)->
  (∀h2,St w h2 (s.C_ (I ps)) (ob.set B7 (KM ps l2)) Ah->Bs [85,60] h h2->D_ (d+8) m this (.O 72 b) i j (at_+I ps) h2 F)->D_ (d+8) (m+I ps) this (.O 72 b) i j at_ h F:=by
 intro ps;induction ps with
 |nil=>
  intro h s ob l2 at_ S M kH el e0 rows kn B8 Pa lk hq2 hl2 hv k;have k:=k h (by rw[show s.C_ _=s by unfold EM.C_;simp,bY hq2];exact S) (Bs.BO _ _);simpa using k
 |cons p ps ih=>
  intro h s ob l2 at_ S M kH el e0 rows kn B8 Pa lk hq2 hl2 hv k;obtain⟨p',Nb,e1⟩:=rows 0 (by simp);cases Nb;rw[show at_+((0:Nat))=at_ by simp] at e1;obtain⟨kd,hkd⟩:=Yr.mp (kn p D0);have lt:=(Dd.mp hq2).1;rw[RV,hkd] at e1;have o:=M.F7;refine jc (v:=p.2.2) S M.RH el e0 (by rw[o];exact e1) (CB 1 AI A7 1 AK A2 AF A7 A4 [I ps,s.BX] B8 (CU _)) hkd (by rw[o];rfl) hq2 (BG 1 (.a (.a A2 BB) AF) (.k 900) AI (.k 1000) A4 [I l2,I ps] hl2) ?_ ?_ λh3 CQ Bv=>?_
  .exact λQ x=>Vm (Pa) lk x
  .exact hv p D0 _ _ jR kH (Pa)
  .have EV:=M.Bb.AX Bv () ()
   have b_:(ob.set B7 _)[B7]?=H (Ba l2 p.1 (.B p.2.2)):=LS lt;refine ih CQ EV kH (by rw[Bv 58 ()];exact el) (Ax 1 AK A2 AK AI A4 [at_] e0) (λk hk=>?_) (λp hp=>kn p (DV _ hp)) (Ax 1 AI A7 A2 (.s A7 AF) A4 [I ps,s.BX] B8) (by rw[Bv 72 ()];exact Pa) lk b_
    (by have:=KH (l:=l2) (k:=p.1) (v:=.B p.2.2);exact By 1 A2 BB 1 (.a (.a A7 Cz) AF) (.k 900) (.a (.a A2 Aa) AF) (.k 900) A4 [I (Ba l2 ..),I l2,I ps] this hl2) (λp2 hp2=>hv p2 (DV _ hp2)) λh4 CT DR=>?_
   .obtain ⟨p2,a,b⟩:=rows (k+1) (by simp;assumption)
    refine⟨p2,by simpa using a,?_⟩;rw[<-b];congr 1;exact En (Co (.a AI A7) (.a A2 BB) A4 [at_,k]) (Co (.a A2 BB) (.a AI A7) A4 [at_,k])
   .rw [RG,IM,TU] at CT
    have k:=k h4 (by rw[show s.C_ _=s.C_ (1+I ps) by congr 1;exact En (Co AI (.a AF A2) A4 [I ps]) (Co (.a AF A2) AI A4 [I ps])];exact CT) (Bv.Aw DR);rw[show at_+1+(I ps)=at_+((I ps+1)) by exact En (Co (.a AI A7) (.a A2 BB) A4 [at_,I ps]) (Co (.a A2 BB) (.a AI A7) A4 [at_,I ps])];exact k
theorem ajF{lid ret:Int}:∀s∈L2 c lid ret K ps,Ms s:=by intro s hs;simp only[L2,EY,D4,Eh,Hz,or_false] at hs;rcases hs with rfl|⟨p,_,rfl⟩|rfl;all_goals exact⟨_,_,rfl,by decide,by decide⟩
theorem ajG{lid ret:Int}(S:St w h s ob Ah)(M:Mo w h s K)(E7:s.E7=ret)(fa:HN h 0 (D8 (L2 w.c lid ret K ps)) laid)(eb:(h 72)[b]?=H (.Ad ll))(ajH:I ll<900)(hn:I ob<1000)(kn:∀p∈ps,(K p.1).isSome)(c6:I ps<900)(B8:(I ps:Int)+2<=s.BX)
  (hv:∀p∈ps,∀(h3:A0) (s3:EM),HM h3 w.c s3->s3.tk=s.tk->(h3 72)[b]?=H (.Ad (Ba ll lid (.B (I ob+1))))->Em (d+7) 75 [.O 85 0,p.2.1,this,.O 72 b] h3 (.B p.2.2) h3):
  AL A5 (d+9) 77 [.O 85 0,laid,this,.O 72 b] h λx h2=>x=.A3 [.B 2,.B (I ob+1:Nat)]/\St w h2 (s.C_ (I ps+2)) (ob++[KM ps []]) Ah/\Bs [85,60,86,72] h h2:=by
 cases fa with
 |@mk _ R i j ra _ el em=>
 have hR:=W0 ajF (W2 ra);clear ra em;subst hR;refine bK (n:=0+1+I ps+1) ?_;refine wh S el () (by rw[M.F7];rfl) (CB 1 (.a A2 (.k 2)) A7 1 AK A2 AF A7 A4 [I ps,s.BX] B8 (CU _)) (.inr rfl) eb (DC ajH rfl) hn λh3 CQ e3 Bv=>?_;have EV:=M.Bb.AX Bv () ();have HP:(h3 58)[i]?=H (.A6 (L2 w.c lid ret K ps)):=by rw[Bv 58 ()];exact el
 have hqn:(ob++[([])])[I ob]?=H []:=by simp
 have lk:BP (Ba ll lid (.B (I ob+1))) lid=H (.B (I ob+1:Nat)):=by rw[FN,if_pos rfl];rfl
 have xz:∀k:Nat,Be (L2 w.c lid ret K ps) (0+1+k)=(ps.map _++[.A3 [.B 12,.A3 [.B 19,.B ret,.A3 [.B 2,.B w.c.F6,.B lid],.B 2,.B 0]]])[k]?:=λk=>by rw[show 0+1+k=((k+1):Int) by exact En (Co (.a AF A2) AI A4 [k]) (Co AI (.a AF A2) A4 [k])];rfl
 refine ajE ps CQ EV rfl HP () (λk hk=>⟨_,DP hk,?_⟩) kn (by show _<=s.BX-1;omega) e3 lk hqn (by simp;omega) hv λh4 CT DR=>?_
 .rw [xz,JQ (by simpa using hk),GY,DP hk];rfl
 .have e4:(h4 72)[b]?=H (.Ad (Ba ll lid (.B (I ob+1)))):=by rw[DR 72 ()];exact e3
  rw[RG,IM] at CT;have jx:(ob++[([])]).set (I ob) (KM ps [])=ob++[KM ps []]:=by simp
  rw[jx] at CT;refine je CT (by rw[DR 58 ()];exact HP) (Ax 1 AK A2 AK (.a (.a AK AF) A2) A4 [I ps] (CU _)) (by rw[xz,JT (by simp),Ce,RP];rfl) (Ax 1 (.a A2 (.k 2)) A7 AF (.s A7 (.a AF A2)) A4 [I ps,s.BX] B8) (λQ x=>wQ jR E7 (λQ x=>Vm (e4) lk x) x) λh5 r Dj E8=>Ku ⟨rfl,?_,?_⟩
  .rw [I3] at Dj
   rw[show(I ps:Int)+2=1+I ps+1 by exact En (Co (.a A2 (.k 2)) (.a (.a AF A2) AF) A4 [I ps]) (Co (.a (.a AF A2) AF) (.a A2 (.k 2)) A4 [I ps])];exact Dj
  .intro k Cc
   rw[E8 k (λq=>Cc (by revert q;simp;rintro rfl;simp)),DR k (λq=>Cc (by revert q;simp;rintro(rfl|rfl)<;>simp)),Bv k (λq=>Cc (by revert q;simp;rintro(rfl|rfl|rfl|rfl)<;>simp))]
structure Pb where
 De:List Int
 pk:List Int
 Fb:Int
 O3:Int
 Ag:Int
 DX:Int
structure y9(h:A0)(t:Pb)(laid:V):Prop where
 ex:∃CE,(h 92)[0]?=H (.BC CE)/\Bw CE 16=H (.O 83 0)/\Bw CE 74=H (.O 17 0)/\Bw CE 123=H (.O 96 0)/\Bw CE 124=H laid/\Bw CE 125=H (.B t.DX)
 De:(h 83)[0]?=H (.A6 (t.De.map .B))
 fn:∃c l,(h 17)[0]?=H (.CK c l)/\Bw l 18=H (.B t.O3)/\Bw l 19=H (.B t.Ag)
def O4(C:C1)(t:Pb)(xs:List Int):Nat->List (Int×V×Int)
 |0=>[]|k+1=>O4 C t xs k++[(C.BA.getD k 0,.A3 [.B 2,.B (t.pk.getD k 0),.B (t.De.getD k 0)],xs.getD k 0)]
theorem ajI:O4 C t xs (k+1)=O4 C t xs k++[(C.BA.getD k 0,.A3 [.B 2,.B (t.pk.getD k 0),.B (t.De.getD k 0)],xs.getD k 0)]:=rfl
def GO(C:C1)(t:Pb)(xs:List Int)(this:Int):List (Int×V×Int):=
 (if C.th=0 then[] else[(C.th,Kp t.O3,this)])++O4 C t xs (I C.BA)++((if C.t0=0 then[] else[(C.t0,Kp t.O3,this)])++[(C.fs,Kq (-2),-2)])
def WD(C:C1)(xs:List Int)(this:Int):Row:=⟨-2,0,this,if C.Ew=2 then this else 0,xs,xs.map λx=>0⟩
structure Te(C:C1)(t:Pb)(K:Int->Option Int):Prop where
 Aj:I t.De=I C.BA
 nd:t.De.Nodup
 nl:t.Fb∉t.De
 sc:C.Ew=0\/C.Ew=1\/C.Ew=2
 th:C.th=0↔C.Ew=0
 t0:C.t0=0↔C.Ew≠2
 kk:∀f∈C.Eb,(K f).isSome=U
section
variable{C:C1}
theorem yC:∀{l:List (Int×V)},f∉ps.map (·.1)->BP (KM ps l) f=BP l f:=by
 induction ps with
 |nil=>exact λx=>rfl|cons p ps ih=>
  intro l n;rw[Hw,D4,not_or] at n;show BP (KM ps (Ba l p.1 _)) f=_;rw[ih n.2,FN,if_neg n.1]
theorem c7:∀{l:List (Int×V)},(ps.map (·.1)).Nodup->∀p:Int×V×Int,p∈ps->BP (KM ps l) p.1=H (.B p.2.2):=by
 induction ps with
 |nil=>exact λx p hp=>nomatch hp
 |cons q ps ih=>
  intro l nd p hp;rw[Hw,SN] at nd;rcases D4.mp hp with rfl|hp
  .rw [yC nd.1,FN,if_pos rfl]
  .exact ih nd.2 p hp
theorem WE:(l.map (·.1)).Nodup->((Ba l k v).map (·.1)).Nodup/\∀a∈(Ba l k v).map (·.1),a=k\/a∈l.map (·.1):=by
 intro nd;cases e:BP l k with
 |none=>
  rw[bI e,Gg];refine⟨Vy.mpr ⟨nd,by simp,λa ha b hb q=>?_⟩,λa ha=>?_⟩
  .simp at hb
   exact ja e (by rw[<-hb,<-q];exact ha)
  .rcases EY.mp ha with ha|ha
   .exact .inr ha
   .simp at ha;exact .inl ha
 |some y=>
  have:∀{l:List _},BP l k≠AB->(Ba l k v).map (·.1)=l.map (·.1):=by
   intro l;induction l with
   |nil=>exact λn=>absurd rfl n|cons a l ih=>
    obtain⟨p,q⟩:=a;intro n;rw[OT] at n;rw[OU];by_cases z:p=k
    .rw [if_pos z];rfl
    .rw [if_neg z] at n⊢
     rw[Hw,Hw,ih n]
  rw[this (by rw[e];exact λq=>nomatch q)];exact⟨nd,λa ha=>.inr ha⟩
theorem ajJ:∀{l:List (Int×V)},(l.map (·.1)).Nodup->((KM ps l).map (·.1)).Nodup/\∀a∈(KM ps l).map (·.1),a∈ps.map (·.1)\/a∈l.map (·.1):=by
 induction ps with
 |nil=>exact λnd=>⟨nd,λa ha=>.inr ha⟩|cons p ps ih=>
  intro l nd;obtain⟨a,b⟩:=WE (k:=p.1) (v:=.B p.2.2) nd;obtain⟨c,e⟩:=ih a;refine⟨c,λx hx=>?_⟩;rcases e x hx with q|q
  .exact .inl (DV _ q)
  .clear hx;rcases b x q with rfl|q
   .exact .inl D0
   .exact .inr q
theorem c8:∀{l:List (Int×V)},f∉ps.map (·.1)->BP (F9 src ps l) f=BP l f:=by
 induction ps with
 |nil=>exact λx=>rfl|cons p ps ih=>
  intro l n;rw[Hw,D4,not_or] at n;show BP (F9 src ps (Ba l p.1 _)) f=_;rw[ih n.2,FN,if_neg n.1]
theorem RW:∀{l:List (Int×V)},(ps.map (·.1)).Nodup->∀p∈ps,BP (F9 src ps l) p.1=H (.B (src p.2)):=by
 induction ps with
 |nil=>exact λx p hp=>nomatch hp
 |cons q ps ih=>
  intro l nd p hp;rw[Hw,SN] at nd;rcases D4.mp hp with rfl|hp
  .rw [c8 nd.1,FN,if_pos rfl]
  .exact ih nd.2 p hp
theorem yD:∀{l:List (Int×V)},(l.map (·.1)).Nodup->((F9 src ps l).map (·.1)).Nodup/\∀a∈(F9 src ps l).map (·.1),a∈ps.map (·.1)\/a∈l.map (·.1):=by
 induction ps with
 |nil=>exact λnd=>⟨nd,λa ha=>.inr ha⟩|cons p ps ih=>
  intro l nd;obtain⟨a,b⟩:=WE (k:=p.1) (v:=.B (src p.2)) nd;obtain⟨c,e⟩:=ih a;refine⟨c,λx hx=>?_⟩;rcases e x hx with q|q
  .exact .inl (DV _ q)
  .clear hx;rcases b x q with rfl|q
   .exact .inl D0
   .exact .inr q
theorem ajK:p∈C.Ly n->∃i,i<n/\(p=(C.BA.getD i 0,λx=>x.BA.getD i 0)\/p=(C.CS.getD i 0,λx=>x.CS.getD i 0)):=by
 induction n with
 |zero=>exact λh=>nomatch h
 |succ n ih=>
  intro h;rw[C1.ajb,EY] at h;rcases h with h|h
  .obtain ⟨i,a,b⟩:=ih h
   exact⟨i,(BG 1 AI A7 AI BB A4 [i,n] a),b⟩
  .simp only[D4,Hz,or_false] at h
   exact⟨n,(Ei AI AI A4 [n]),h⟩
theorem c9(m:p∈C.CD):p=(C.fs,Row.D5)\/p=(C.IQ,Row.FA)\/(C.th≠0/\p=(C.th,Row.E2))\/(C.t0≠0/\p=(C.t0,Row.DS))\/∃i,i<I C.BA/\(p=(C.BA.getD i 0,λx=>x.BA.getD i 0)\/p=(C.CS.getD i 0,λx=>x.CS.getD i 0)):=by
 unfold C1.CD C1.fl C1.O1 at m;simp only[EY,D4] at m;rcases m with(m|m|m|m)|m
 .exact .inl m
 .exact .inr (.inl m)
 .by_cases z:C.th=0
  .rw [if_pos z] at m;cases m
  .rw [if_neg z] at m;exact .inr (.inr (.inl ⟨z,by simpa using m⟩))
 .by_cases z:C.t0=0
  .rw [if_pos z] at m;cases m
  .rw [if_neg z] at m;exact .inr (.inr (.inr (.inl ⟨z,by simpa using m⟩)))
 .exact .inr (.inr (.inr (.inr (ajK m))))
theorem ajL:∀{n},n<=I C.BA->(O4 C t xs n).map (·.1)=C.BA.take n:=by
 intro n;induction n with
 |zero=>intro _;rfl|succ n ih=>
  intro l;rw[Gg,ih (Nat.le_of_succ_le l)];simp[DP (show n<I C.BA from l)]
theorem WG:(GO C t xs th).map (·.1)=C.M0:=by
 rw[Gg,Gg,Gg,ajL (Ds _),List.take_length];congr 1
 .congr 1;split<;>rfl
 .congr 1;split<;>rfl
theorem ajM:∀{n},i<n->(C.BA.getD i 0,V.A3 [.B 2,.B (t.pk.getD i 0),.B (t.De.getD i 0)],xs.getD i 0)∈O4 C t xs n:=by
 intro n;induction n with
 |zero=>exact λh=>absurd h (Mx _)|succ n ih=>
  intro l;rw[EY];by_cases z:i=n
  .clear l ih;subst z;exact .inr (by simp)
  .exact .inl (ih (bV (Mv l) z))
theorem O5{l:List Int}(lt:i<I l):l.getD i 0∈l:=by rw[Lf,DP lt];exact Si lt
theorem kI(ok:Jm C)(mo:Te C t K)(lx:I xs=I C.BA):IS C (KM (GO C t xs th) []) (WD C xs th):=by
 have nd:((GO C t xs th).map (·.1)).Nodup:=by rw[WG];exact ok.ps
 obtain⟨kn,ks⟩:=ajJ (ps:=GO C t xs th) (l:=[]) (by simp);have Gv:∀f,f∉C.M0->(BP (KM (GO C t xs th) []) f).getD _=.B 0:=λf n=>by rw[yC (by rw[WG];exact n)];rfl
 refine⟨kn,λk hk=>?_,λp hp=>?_⟩
 .rcases ks k hk with q|q
  .rw [WG] at q;exact ok.xM k q
  .cases q
 .rcases c9 hp with rfl|rfl|⟨z,rfl⟩|⟨z,rfl⟩|⟨i,li,rfl|rfl⟩
  .have:=c7 (l:=[]) nd (C.fs,Kq (-2),-2) (by unfold GO;simp)
   rw[this];rfl
  .exact Gv _ ok.WB.1
  .have:=c7 (l:=[]) nd (C.th,Kp t.O3,th) (by unfold GO;rw[if_neg z];simp)
   rw[this];rfl
  .have:=c7 (l:=[]) nd (C.t0,Kp t.O3,th) (by unfold GO;rw[if_neg z];simp)
   show(BP _ _).getD _=.B (if C.Ew=2 then th else 0);have s2:C.Ew=2:=by
    by_cases q:C.Ew=2
    .exact q
    .exact absurd (mo.t0.mpr q) z
   rw[this,if_pos s2];rfl
  .have:=c7 (l:=[]) nd (C.BA.getD i 0,.A3 _,xs.getD i 0) (by
    rw[EY,EY];exact .inl (.inr (ajM li)))
   rw[this];rfl
  .have:(WD C xs th).CS.getD i 0=0:=by rw[Lf,GY];cases xs[i]?<;>rfl
   show(BP _ (C.CS.getD i 0)).getD _=.B ((WD C xs th).CS.getD i 0);rw[this];exact Gv _ (ok.xN _ (O5 (by rw[ok.Aj];exact li))).1
end
structure Pre(w:Lm)(h:A0)(ml:List (Nat×V))(kd C8:V)(fuel:Int)(ob:List (List (Int×V)))(Ah:List V):Prop where
 DE:h 85=[.BC ml]
 out:Bw ml 94=H (.B w.c.F6)
 ajN:Bw ml 104=H kd
 Aj:I ml<50
 yE:∀own tk E7:Int,CX (CX (CX ml 105 (.B own)) 18 (.B tk)) 107 (.B E7)=JC w.c ⟨own,tk,E7,kd,C8,fuel⟩
 st:∀h2 (s2:EM),(∀k∈Vu,k≠85->h2 k=h k)->EU 0 h h2->h2 85=[.BC (JC w.c s2)]->s2.Ah=C8->St w h2 s2 ob Ah
theorem cA:I (CX l k v)<=I l+1:=by
 induction l with
 |nil=>exact Ds _|cons a l ih=>
  rw[OW];split
  .simp
  .exact BG 1 A2 BB AI (.a BB AF) A4 [I (CX l k v),I l] ih
def M4(De xs:List Int):Nat->List (Int×V)
 |0=>[]|k+1=>Ba (M4 De xs k) (De.getD k 0) (.B (xs.getD k 0))
theorem apN:M4 De xs (k+1)=Ba (M4 De xs k) (De.getD k 0) (.B (xs.getD k 0)):=rfl
theorem yF:I (M4 De xs n)<=n:=by
 induction n with
 |zero=>exact Ds _|succ n ih=>have:=KH (l:=M4 De xs n) (k:=De.getD n 0) (v:=.B (xs.getD n 0));exact By 1 A2 BB 1 A7 Aa A2 Cz A4 [I (Ba ..),I (M4 De xs n),n] this ih
theorem ajO{l:List Int}(nd:l.Nodup)(hi:i<I l)(hj:j<I l)(e:l.getD i 0=l.getD j 0):i=j:=by rw[Lf,Lf,DP hi,DP hj] at e;exact(List.getElem_inj nd).mp e
theorem ajP(nd:De.Nodup):∀{n},n<=I De->i<n->BP (M4 De xs n) (De.getD i 0)=H (.B (xs.getD i 0)):=by
 intro n;induction n with
 |zero=>exact λx h=>absurd h (Mx _)|succ n ih=>
  intro le lt;rw[FN];by_cases z:i=n
  .clear lt le ih;subst z;rw[if_pos rfl]
  .rw [if_neg λq=>z (ajO nd (By 1 AI BB 1 BB Aa AI Aa A4 [i,n,I De] lt le) (BG 1 AI A7 AI A7 A4 [n,I De] le) q)]
   exact ih (BG 1 AI A7 A2 A7 A4 [n,I De] le) (bV (Mv lt) z)
def ajQ:Cb:=match Lb.BL.dr 8 with
 |.AR (.Cm _ _ _ _ b) _=>b|_=>.AH
section
variable{w:Lm}{t:Pb}
theorem ajR{c:Nn}:(GO C t xs a).map (RV c.F6 t.Fb K)=(GO C t ys b).map (RV c.F6 t.Fb K):=by
 have p:∀n,(O4 C t xs n).map (RV c.F6 t.Fb K)=(O4 C t ys n).map (RV c.F6 t.Fb K):=by
  intro n;induction n with
  |zero=>rfl|succ n ih=>rw[Gg,Gg,ih];rfl
 unfold GO;simp only[Gg];rw[p];congr 1
 .congr 1;split<;>rfl
 .congr 1;split<;>rfl
theorem ajS{CE:List (Nat×V)}{xs:List Int}{t4 ED Cn:T}(Ip:(h 92)[0]?=H (.BC CE))(Tf:Bw CE 16=H (.O 83 0))(RX:(h 83)[0]?=H (.A6 (t.De.map .B)))(ll:I t.De=I xs)(lx:I xs<100)
  (Pc:(h 71)[a]?=H (.A6 (xs.map .B))):∀(m p:Nat) (h2:A0) (BF:T),p+m=I xs->Bs [72] h h2->(h2 72)[b]?=H (.Ad (M4 t.De xs p))->
  (∀h3 BF,Bs [72] h h3->(h3 72)[b]?=H (.Ad (M4 t.De xs (I xs)))->F .B0 [.v (.O 80 0),.v (.O 92 0),.v (.O 85 0),.v (.O 98 0),t4,.v (.O 71 a),ED,Cn,.v (.O 72 b),BF,.AQ,.AQ,.AQ] h3)->
  GN A5 (AL A5 d) ajQ [9] (λy=>True) F ((Ll p m).map λ(k:Nat)=>V.B k) [.v (.O 80 0),.v (.O 92 0),.v (.O 85 0),.v (.O 98 0),t4,.v (.O 71 a),ED,Cn,.v (.O 72 b),BF,.AQ,.AQ,.AQ] h2:=by
 intro m;induction m with
 |zero=>exact λp h2 BF e sm e2 k=>Jj trivial (k _ _ sm (by rw[<-e];exact e2))|succ m ih=>
  intro p h2 BF e sm e2 k;refine JB trivial rfl ?_;have n:=yF (De:=t.De) (xs:=xs) (n:=p);refine Mm (.AE (x:=.B p) #[] #[] ((F5 (by rw[sm 71 ()];exact Pc)).trans (RS (BG 1 (.a A2 BB) Aa AI Aa A4 [p,m,I xs] (BQ e))))) #[]
   (.AE (x:=.B p) (.AE #[] #[] ((DI (by rw[sm 92 ()];exact Ip)).trans Tf)) #[] ((F5 (by rw[sm 83 ()];exact RX)).trans (RS (By 1 (.a A2 BB) Aa 1 Aa Er AI Er A4 [p,m,I xs,I t.De] (BQ e) (BQ ll.symm))))) e2 (QJ 1 A2 A7 1 (.a A7 Cz) Er 1 Ob (.k 100) AI (.k 100000) A4 [I (M4 _ xs p),p,m,I xs] n (BQ e) lx) ?_
  exact Gd (ih _ _ _ (Fl (BG 1 (.a A2 BB) Aa (.a AI A7) Aa A4 [p,m,I xs] (BQ e)) (BG 1 A2 (.a A7 Cz) A2 (.a BB Aa) A4 [I xs,p,m] (BQ e.symm))) (sm.Aw (Nq ())) (GL e2) k)
theorem ajT(mo:Te C t K)(lx:I xs=I C.BA):∀p∈GO C t xs th,∀(h3:A0) (s3:EM),HM h3 w.c s3->s3.tk=t.O3->(h3 72)[b]?=H (.Ad (Ba (M4 t.De xs (I xs)) t.Fb (.B n)))->Em (d+7) 75 [.O 85 0,p.2.1,.B th,.O 72 b] h3 (.B p.2.2) h3:=by
 intro p hp h3 s3 m tk e;unfold GO at hp;simp only[EY] at hp;have kJ:∀(g:Int),p∈(if g=0 then[] else[(g,Kp t.O3,th)])->Em (d+7) 75 [.O 85 0,p.2.1,.B th,.O 72 b] h3 (.B p.2.2) h3:=by
  intro g hp;by_cases z:g=0
  .rw [if_pos z] at hp;cases hp
  .rw [if_neg z] at hp
   cases EK.mp hp;exact λQ q=>wO m tk q
 rcases hp with(hp|hp)|hp|hp
 .exact kJ _ hp
 .have:∀n,n<=I C.BA->p∈O4 C t xs n->∃i,i<n/\p=(C.BA.getD i 0,V.A3 [.B 2,.B (t.pk.getD i 0),.B (t.De.getD i 0)],xs.getD i 0):=by
   intro n;induction n with
   |zero=>exact λx h=>nomatch h
   |succ n ih=>
    intro le h;rw[ajI,EY] at h;rcases h with h|h
    .obtain ⟨i,a,b⟩:=ih (BG 1 AI A7 A2 A7 A4 [n,I C.BA] le) h;exact⟨i,(BG 1 AI A7 AI BB A4 [i,n] a),b⟩
    .exact ⟨n,(Ei AI AI A4 [n]),EK.mp h⟩
  clear kJ;obtain⟨i,li,rfl⟩:=this _ (Ds _) hp;have ll:=mo.Aj;refine λQ q=>Vm e ?_ q;rw[FN,if_neg λz=>mo.nl (by rw[<-z];exact O5 (By 1 AI A7 1 A7 Aa AI Aa A4 [i,I C.BA,I t.De] li (BQ ll.symm)))];exact ajP mo.nd (By 1 A2 A7 1 A7 Aa A2 Aa A4 [I xs,I C.BA,I t.De] (BQ lx) (BQ ll.symm)) (By 1 AI A7 1 A7 Aa AI Aa A4 [i,I C.BA,I xs] li (BQ lx.symm))
 .exact kJ _ hp
 .cases EK.mp hp
  exact Ls
end
theorem kK:Iz h .eq (.A3 [.B a,.B b]) (.A3 [.B a,.B b])=H U:=by show H _=H U;rw[decide_eq_true rfl,decide_eq_true rfl];rfl
section
variable{w:Lm}
theorem WH(m:HM h w.c s)(po:BD r i=.v (.O 85 0))(R9:Ar A5 (AL A5 d) e A1 r h (.v x))(hx:CX (JC w.c s) f x=JC w.c s2)(k:Ae A5 (AL A5 d) rest r (C7 h w.c s2) F):Ae A5 (AL A5 d) (.AR (.Cv (.Am i) (.AO (.An f)) e) rest) r h F:=by refine Lh R9 (.Am po) .AO (b9 m) (show 13<BU by decide) ?_;rw[hx,jS m];exact k
theorem Tb.RY{r:V}(tb:Tb h rows refs)(M3:h3 98=[.A6 (.O 99 0::(refs++[r]))])(ra:KL h3 r x)(kp:∀r∈refs,∀x,KL h r x->KL h3 r x)(nw:r∉refs):Tb h3 (rows++[x]) (refs++[r]) where
 DE:=M3
 Aj:=by rw[El,El,tb.Aj];rfl
 Gf:=λi r' x' hr hx=>by
  by_cases l:i<I refs
  .rw [JQ l] at hr
   rw[JQ (by rw[<-tb.Aj];exact l)] at hx;exact kp _ (HE hr) _ (tb.Gf i r' x' hr hx)
  .have l1:=(Dd.mp hr).1
   have ei:i=I refs:=by simp at l1;exact Fl (BG 1 AI BB A2 A7 A4 [i,I refs] l1) (BG 1 A2 A7 A2 A7 A4 [I refs,i] (J1 l))
   clear l1 l;subst ei;rw[JT (Ds _),RP] at hr;rw[tb.Aj,JT (Ds _),RP] at hx;cases hr;cases hx;exact ra
 nd:=Vy.mpr ⟨tb.nd,by simp,λa ha b hb q=>nw (by simp at hb;rw[<-hb,<-q];exact ha)⟩
theorem Tb.AX(tb:Tb h rows refs)(e:∀k∈[98,71,74,76,73,77],h3 k=h k):Tb h3 rows refs where
 DE:=(e 98 ()).trans tb.DE
 Aj:=tb.Aj
 Gf:=λi r x a b=>(tb.Gf i r x a b).AX λk hk=>e k (DV _ hk)
 nd:=tb.nd
end
abbrev L3(ka:Nat)(th:Int)(Cn C6 BF Bj EI:T):List T:=[.v (.O 80 0),.v (.O 92 0),.v (.O 85 0),.v (.O 98 0),.AQ,.v (.O 71 ka),.v (.B th),Cn,C6,BF,Bj,EI,.AQ]
section
variable{w:Lm}
theorem ajU(P:Pre w h0 ml kd C8 fuel ob Ah)(sm:Bs [80,71] h0 h)(e1:(h 92)[0]?=H (.BC CE))(kL:Bw CE 74=H (.O 17 0))(kM:Bw CE 123=H (.O 96 0))(O6:(h 17)[0]?=H (.CK cq JE))(WI:Bw JE 18=H (.B tk))(kN:Bw JE 19=H (.B E7))
  (k:∀h2,St w h2 ⟨w.c.F6,tk,E7,.O 96 0,C8,fuel⟩ ob Ah->Bs [85] h h2->Ae A5 (AL A5 d) (Lb.BL.dr 7) (L3 ka th (.v kd) C6 BF Bj EI) h2 F):
  Ae A5 (AL A5 d) (Lb.BL.dr 2) (L3 ka th .AQ C6 BF Bj EI) h F:=by
 have kO:(h 85)[0]?=H (.BC ml):=by rw[sm 85 (),P.DE];rfl
 have yG:∀{h4:A0} {n:Nat} {v:V},h4 92=h 92->h4 17=h 17->Bw JE n=H v->Ar A5 (AL A5 d) (.AN (.AE (.Am 1) (.AO (.An 74))) n) A1 (L3 ka th .AQ C6 BF Bj EI) h4 (.v v):=λp q e=>.AN (.AE (x:=.An 74) (.Am rfl) .AO ((DI (p▸e1)).trans kL)) ((TF (q▸O6)).trans e);have l1:=GH (cA (l:=ml) (k:=105) (v:=.B w.c.F6)) (cB P.Aj);refine Lh (.AE (x:=.An 94) (.Am rfl) .AO ((DI kO).trans P.out)) (.Am rfl) .AO kO (DC P.Aj rfl) ?_;have yH:=GL (o':=.BC (CX ml 105 (.B w.c.F6))) kO;refine Lh (yG (CZ ()) (CZ ()) WI) (.Am rfl) .AO yH (DC l1 rfl) ?_;refine Lh (yG ((CZ ()).trans (CZ ())) ((CZ ()).trans (CZ ())) kN) (.Am rfl) .AO (GL yH) (DC (GH cA (cB l1)) rfl) ?_;rw[P.yE];have Tg:Bs [85] h (Bf (Bf (Bf h 85 0 (.BC (CX ml 105 (.B w.c.F6)))) 85 0 (.BC (CX (CX ml 105 (.B w.c.F6)) 18 (.B tk)))) 85 0 (.BC (JC w.c ⟨w.c.F6,tk,E7,kd,C8,fuel⟩))):=((Nq ()).Aw (Nq ())).Aw (Nq ());have R_:HM (Bf (Bf (Bf h 85 0 (.BC (CX ml 105 (.B w.c.F6)))) 85 0 (.BC (CX (CX ml 105 (.B w.c.F6)) 18 (.B tk)))) 85 0 (.BC (JC w.c ⟨w.c.F6,tk,E7,kd,C8,fuel⟩))) w.c ⟨w.c.F6,tk,E7,kd,C8,fuel⟩:=by show Bf _ 85 0 _ 85=_;rw[Ji,Ji,Ji,sm 85 (),P.DE];rfl
 generalize Bf _ 85 0 _=h5 at Tg R_⊢;have a5:=b8 (tab:=A5.AM) (k:=104) R_;refine Ea (x:=kd) (.AE (x:=.An 104) (.Am rfl) .AO a5) ?_;refine WH (s2:=⟨w.c.F6,tk,E7,.O 96 0,C8,fuel⟩) R_ rfl (.AE (x:=.An 123) (.Am rfl) .AO ((DI (by rw[Tg 92 ()];exact e1)).trans kM)) rfl ?_;have Dj:=P.st h5 _ (λk hk n=>(Tg k (by revert n;simp)).trans (sm k (by revert k;decide))) (Dw ((Tg _ ()).trans (sm _ ())) ((Tg _ ()).trans (sm _ ()))) R_ rfl;exact k _ (Dj.C7 rfl) (Tg.Aw λk n=>FM λz=>n (by rw[z];decide))
theorem ajV(S:St w h ⟨w.c.F6,tk,E7,.O 96 0,C8,fuel⟩ ob Ah)(e1:(h 92)[0]?=H (.BC CE))(kP:Bw CE 125=H (.B DX))
  (k:∀h2,St w h2 ⟨w.c.A8,w.c.A8,DX,kd,C8,fuel⟩ ob Ah->Bs [85] h h2->Ae A5 (AL A5 d) (Lb.BL.dr 14) (L3 ka th (.v kd) C6 BF Bj EI) h2 F):
  Ae A5 (AL A5 d) (Lb.BL.dr 10) (L3 ka th (.v kd) C6 BF Bj EI) h F:=by
 have m:=S.m;refine WH (s2:=⟨w.c.A8,tk,E7,_,C8,fuel⟩) m rfl #[] rfl ?_;have CP:=S.C7 (s2:=⟨w.c.A8,tk,E7,.O 96 0,C8,fuel⟩) rfl;have m1:=CP.m;refine WH (s2:=⟨_,w.c.A8,E7,_,C8,fuel⟩) m1 rfl #[] rfl ?_;have CG:=CP.C7 (s2:=⟨w.c.A8,w.c.A8,E7,.O 96 0,C8,fuel⟩) rfl;refine WH (s2:=⟨_,_,DX,_,C8,fuel⟩) CG.m rfl (.AE (.Am rfl) .AO ((DI (by exact e1)).trans kP)) rfl ?_;have CQ:=CG.C7 (s2:=⟨w.c.A8,w.c.A8,DX,.O 96 0,C8,fuel⟩) rfl;refine WH (s2:=⟨_,_,DX,kd,C8,fuel⟩) CQ.m rfl (.Am rfl) rfl ?_;exact k _ (CQ.C7 rfl) λk n=>have n:k≠85:=λz=>n (by rw[z];decide);by rw[FM n,FM n,FM n,FM n]
theorem ajW(S:St w h ⟨w.c.F6,t.O3,E7,.O 96 0,C8,fuel⟩ ob Ah)(e1:(h 92)[0]?=H (.BC CE))(Tf:Bw CE 16=H (.O 83 0))(kQ:Bw CE 124=H laid)(RX:(h 83)[0]?=H (.A6 (t.De.map .B)))(Pc:(h 71)[ka]?=H (.A6 (xs.map V.B)))
  (ajX:(h 96)[0]?=H (.Ad l))(lk:∀f,BP l f=(K f).map .B)(fa:HN h 0 (D8 (L2 w.c t.Fb E7 K (GO C t xs th))) laid)(mo:Te C t K)(ok:Jm C)(lx:I xs=I C.BA)(B8:20<=fuel)(hn:I ob<50)
  (k:∀h2 b BF (kk:Int),0<=kk->kk<=10->St w h2 ⟨w.c.F6,t.O3,E7,.O 96 0,C8,fuel-kk⟩ (ob++[KM (GO C t xs th) []]) Ah->Bs [72,85,60,86] h h2->Ae A5 (AL A5 (d+11)) (Lb.BL.dr 10) (L3 ka th (.v kd) (.v (.O 72 b)) BF (.v (.A3 [.B 2,.B (I ob+1:Nat)])) .AQ) h2 F):
  Ae A5 (AL A5 (d+11)) (Lb.BL.dr 7) (L3 ka th (.v kd) C6 BF .AQ .AQ) h F:=by
 have e0:=KG (h:=h) (s:=72) (o:=.Ad []);have Ks:Bs [72] h (Bm h 72 (.Ad [])):=λk n=>F4 λz=>n (by rw[z];decide);refine wF ?_;rw[show Gk .id=.Ad [] from rfl];generalize I (h 72)=b at e0⊢;generalize Bm h 72 (.Ad [])=h7 at e0 Ks⊢;have yI:(h7 71)[ka]?=H (.A6 (xs.map V.B)):=by rw[Ks 71 ()];exact Pc
 have ajY:(h7 92)[0]?=H (.BC CE):=by rw[Ks 92 ()];exact e1
 have aj0:(h7 83)[0]?=H (.A6 (t.De.map .B)):=by rw[Ks 83 ()];exact RX
 have l3:I xs<=3:=lx▸ok.n3;refine Nm (bv:=.AV) (.Aj (t:=.v (.O 71 ka)) (n:=I xs) (.Am rfl) (by rw[IJ yI,Ce])) .AO (TJ (DC (HT l3) rfl)) (λ_ q=>nomatch q) ?_;rw[PT];refine ajS (t:=t) (a:=ka) (b:=b) ajY Tf aj0 (mo.Aj.trans lx.symm) (DC (HT l3) rfl) yI (I xs) 0 h7 BF (MT _) (Bs.BO _ _) e0 λh8 BF ju Pa=>?_;have Ko:Bs [72] h h8:=Ks.Aw ju;have RN:=S.AX (λk hk=>Ko k (by revert k;decide)) (Dw (Ko _ ()) (Ko _ ()));have c6:I (GO C t xs th)<=6:=by rw[<-Ce (f:=(·.1)),WG];exact C1.ajd ok.n3
 refine I2 (.AR (.Am rfl) (.AR (.AE (x:=.An 124) (.Am rfl) .AO ((DI (by rw[Ko 92 ()];exact e1)).trans kQ)) (.AR (.Am rfl) (.AR (.Am rfl) .AH)))) (DL ?_ (ajG (d:=d+2) RN ⟨rfl,96,l,.inl rfl,rfl,by rw[Ko 96 ()];exact ajX,lk⟩ rfl (fa.C3 (Dw (Ko _ ()) (Ko _ ())) (Ds _)) Pa (DC (HT (Cr yF l3)) rfl) (DC hn rfl) (λp hp=>mo.kk _ (ok.xM _ (WG (t:=t) (xs:=xs) (th:=th)▸Eh.mpr ⟨p,hp,rfl⟩))) (DC (HT c6) rfl) (Xi (yJ (DM.mpr c6) 2) (Xi () B8)) λp hp h3 s3 m tk e=>ajT (d:=d+2) mo lx p hp h3 s3 m tk e));rintro v h9 ⟨rfl,Ra,aj1⟩;exact k h9 b BF _ (nU (CU _) ()) (Xi (yJ (DM.mpr c6) 2) ()) Ra λk n=>(aj1 k λm=>n (by revert m;simp;rintro(rfl|rfl|rfl|rfl)<;>simp)).trans (Ko k λm=>n (by revert m;simp;rintro rfl;exact .inl rfl))
theorem aj2(aj3:Bw CE 22=H (.B C.Ew))(e1:(h 92)[0]?=H (.BC CE))(Pc:(h 71)[ka]?=H (.A6 (xs.map V.B)))(O7:h 98=[.A6 (.O 99 0::refs)])(l3:I xs<=3)(lr:I refs<50)
  (k:∀h2 EI,h2 98=[.A6 (.O 99 0::(refs++[.O 73 (I (h 73))]))]->Bs [73,74,98] h h2->(∀{j:Nat} {o:A_},(h 73)[j]?=H o->(h2 73)[j]?=H o)->(∀{j:Nat} {o:A_},(h 74)[j]?=H o->(h2 74)[j]?=H o)->KL h2 (.O 73 (I (h 73))) (WD C xs th)->
   Ae A5 (AL A5 (d+1)) (Lb.BL.dr 16) (L3 ka th (.v kd) C6 BF Bj EI) h2 F):
  Ae A5 (AL A5 (d+1)) (Lb.BL.dr 14) (L3 ka th (.v kd) C6 BF Bj .AQ) h F:=by
 have Pd:Ar A5 (AL A5 (d+1)) (.AE (.Am 1) (.AO (.An 22))) A1 (L3 ka th (.v kd) C6 BF Bj .AQ) h (.v (.B C.Ew)):=.AE (x:=.An 22) (.Am rfl) .AO ((DI e1).trans aj3);have aj4:Ar A5 (AL A5 (d+1)) (.Ay (.AS .eq (.AE (.Am 1) (.AO (.An 22))) (.AO (.B 2))) (.Am 6) (.AO (.B 0))) A1 (L3 ka th (.v kd) C6 BF Bj .AQ) h (.v (.B (if C.Ew=2 then th else 0))):=by
  by_cases z:C.Ew=2
  .rw [if_pos z];exact .TG (.AS Pd .AO (by simp[z])) (.Am rfl)
  .rw [if_neg z];exact .PL (.AS Pd .AO (by simp[z])) .AO
 refine Ea aj4 ?_;generalize hz:(if C.Ew=2 then th else 0)=t0;have Pe:(h 98)[0]?=H (.A6 (.O 99 0::refs)):=congrArg (·[0]?) O7;refine Vk (s:=98) (i:=0) rfl Pe (b6 (KD (x:=.An 118) (y:=.B (-2)) .AO .AO (Li (l:=[]) ()) (KD (x:=.An 120) (y:=.O 71 ka) .AO (.Am rfl) (Li (show(1:Nat)<BU by decide)) (ahP (x:=.An 121) .AO (ahQ (st:=71) (i':=ka) (l:=xs.map V.B) (.Am rfl) Pc (by rw[Ce];exact DC (HT l3) rfl) (DG (R5 (Li (show(2:Nat)<BU by decide))
  (KD (x:=.An 119) (y:=.B th) .AO (.Am rfl) (Li (show(3:Nat)<BU by decide)) (KD (x:=.An 102) (y:=.B t0) .AO (.Am rfl) (Li (show(4:Nat)<BU by decide)) (KD (x:=.An 92) (y:=.B 0) .AO .AO (Li (show(5:Nat)<BU by decide)) (b7 (DG ?_))))))))))))
 rw[show CX _ 92 (V.B 0)=[(118,.B (-2)),(120,.O 71 ka),(121,.O 74 (I (h 74))),(119,.B th),(102,.B t0),(92,.B 0)] from rfl,Qn,show((λ_=>V.B 0)∘V.B:Int->V)=V.B∘(λ_=>0) from rfl,<-Qn];have kR:=KG (h:=h) (s:=74) (o:=.A6 ((xs.map λ_=>(0:Int)).map V.B));have Th:∀{j:Nat} {o:A_},(h 74)[j]?=H o->(Bm h 74 (.A6 ((xs.map λ_=>(0:Int)).map V.B)) 74)[j]?=H o:=λq=>RE q;have WJ:∀k,k≠74->Bm h 74 (.A6 ((xs.map λ_=>(0:Int)).map V.B)) k=h k:=λk n=>F4 n;generalize Bm h 74 _=h1 at kR Th WJ⊢;generalize I (h 74)=kw at kR⊢;have kT:=KG (h:=h1) (s:=73) (o:=.BC [(118,.B (-2)),(120,.O 71 ka),(121,.O 74 kw),(119,.B th),(102,.B t0),(92,.B 0)]);have Rb:∀{j:Nat} {o:A_},(h1 73)[j]?=H o->(Bm h1 73 (.BC [(118,.B (-2)),(120,.O 71 ka),(121,.O 74 kw),(119,.B th),(102,.B t0),(92,.B 0)]) 73)[j]?=H o:=λq=>RE q;have Ti:∀k,k≠73->Bm h1 73 (.BC [(118,.B (-2)),(120,.O 71 ka),(121,.O 74 kw),(119,.B th),(102,.B t0),(92,.B 0)]) k=h1 k:=λk n=>F4 n;generalize Bm h1 73 _=h2 at kT Rb Ti⊢;rw[WJ 73 ()] at kT Rb⊢;have M3:h2 98=[.A6 (.O 99 0::refs)]:=by rw[Ti 98 (),WJ 98 ()];exact O7
 refine R8 (congrArg (·[0]?) M3) (DC (b:=BU) (cB lr) rfl) (k _ _ (by rw[Ji,M3];rfl) (λk n=>?_) (λq=>?_) (λq=>?_) ⟨73,_,[(118,.B (-2)),(120,.O 71 ka),(121,.O 74 kw),(119,.B th),(102,.B t0),(92,.B 0)],rfl,.inl rfl,(by rw[CZ ()];exact kT),(show(6:Nat)<50 by decide),rfl,rfl,rfl,(by rw[<-hz];rfl),⟨_,rfl,71,ka,rfl,.inl rfl,by rw[CZ (),Ti 71 (),WJ 71 ()];exact Pc⟩,⟨_,rfl,74,kw,rfl,.inr (.inl rfl),by rw[CZ (),Ti 74 ()];exact kR⟩⟩)
 .simp only[D4,Hz,or_false,not_or] at n
  rw[CZ n.2.2,Ti k n.1,WJ k n.2.1]
 .rw [CZ ()];exact Rb q
 .rw [CZ (),Ti 74 ()];exact Th q
theorem Jo.RY(bo:Jo C K ob rows)(ag:IS C l x)(l1:I x.BA=I C.BA)(l2:I x.CS=I C.BA)(n:I rows<59):Jo C K (ob++[l]) (rows++[x]) where
 Aj:=by rw[El,El,bo.Aj];rfl
 ag:=λi l x hl hx=>by
  by_cases z:i<I ob
  .rw [JQ z] at hl
   rw[JQ (by rw[<-bo.Aj];exact z)] at hx;exact bo.ag i l x hl hx
  .have l1:=(Dd.mp hl).1
   have ei:=Fl (Mv (by simpa using l1)) (J1 z);clear z l1;subst ei;rw[JT (Ds _),RP] at hl;rw[bo.Aj,JT (Ds _),RP] at hx;cases hl;cases hx;exact ag
 ln:=λx hx=>by
  rcases EY.mp hx with hx|hx
  .exact bo.ln x hx
  .cases EK.mp hx
   exact⟨l1,l2⟩
 kk:=bo.kk
 n:=by rw[El];exact cB n
theorem Bs.JJ(s:Bs l h0 h)(e:∀k∈l,k∈l2):Bs l2 h0 h:=λk n=>s k λm=>n (e k m)
theorem KL.up(ra:KL h0 r x)(aj5:h 76=h0 76)(aj6:h 77=h0 77)(aj7:∀{j:Nat} {o:A_},(h0 71)[j]?=H o->(h 71)[j]?=H o)(Rb:∀{j:Nat} {o:A_},(h0 73)[j]?=H o->(h 73)[j]?=H o)(Th:∀{j:Nat} {o:A_},(h0 74)[j]?=H o->(h 74)[j]?=H o):KL h r x:=by
 have yK:∀{v:V} {ys:List Int},Lz h0 v ys->Lz h v ys:=by
  rintro v ys ⟨a,b,rfl,q,g⟩;exact⟨a,b,rfl,q,by
   rcases q with rfl|rfl|rfl
   .exact aj7 g
   .exact Th g
   .exact aj5▸g⟩
 obtain⟨a,b,l,rfl,q,g,rl⟩:=ra;exact⟨a,b,l,rfl,q,by
  rcases q with rfl|rfl
  .exact Rb g
  .exact aj6▸g,rl.Aj,rl.D5,rl.FA,rl.E2,rl.DS,rl.BA.imp λv z=>⟨z.1,yK z.2⟩,rl.CS.imp λv z=>⟨z.1,yK z.2⟩⟩
abbrev yL(w:Lm)(C:C1)(t:Pb)(kd C8:V)(fuel:Int)(ob:List (List (Int×V)))(Ah:List V)(rows:List Row)(h:A0)(v:V)(h2:A0):Prop:=v=.Au U/\∃(xs:List Int) (th:Int) (cC:List V) (k:Int),I xs=I C.BA/\0<=k/\k<=10/\St w h2 ⟨w.c.A8,w.c.A8,t.DX,kd,C8,fuel-k⟩ (ob++[KM (GO C t xs th) []]) Ah/\Tb h2 (rows++[WD C xs th]) cC/\CJ h2/\Bs [80,71,85,72,60,86,74,73,98,70] h h2
theorem aj8:L2 w.c t.Fb E7 K (GO C t [] 0)=L2 w.c t.Fb E7 K (GO C t xs th):=by unfold L2;rw[ajR (ys:=xs) (b:=th)]
theorem Tb.H9(tb:Tb h rows refs)(e:n=I (h a)):V.O a n∉refs:=λq=>by obtain⟨i,hi⟩:=List.getElem?_of_mem q;obtain⟨a',b,l,e',_,g,_⟩:=tb.Gf i _ _ hi (DP (by rw[<-tb.Aj];exact(Dd.mp hi).1));cases e';exact Xf _ (e▸(Dd.mp g).1)
theorem aj9:H (T.v (.B (((n+2:Nat):Int)-1)))=H (.v (.B (n+1:Nat))):=congrArg (λx=>H (T.v _)) (gE (n+1:Nat) 1)
end
theorem yM(P:Pre w h ml kd C8 fuel ob Ah)(D:CJ h)(u:O2 h C)(us:y9 h t laid)(ok:Jm C)(mo:Te C t Pf)(fa:HN h 0 (D8 (L2 w.c t.Fb t.Ag Pf (GO C t [] 0))) laid)
  (Hp:∃l,(h 96)[0]?=H (.Ad l)/\∀f,BP l f=(Pf f).map .B)(Jb:∃l,kd=.O 97 0/\(h 97)[0]?=H (.Ad l)/\(∀f,BP l f=(K f).map .B)/\I l<64)(tb:Tb h rows refs)(bo:Jo C K ob rows)(B8:20<=fuel)(hn:I rows<50):
  AL A5 (d+12) 84 [.O 80 0,.O 92 0,.O 85 0,.O 98 0] h λv h2=>yL w C t kd C8 fuel ob Ah rows h v h2:=by
 obtain⟨CE,e1,Tf,kL,kM,kQ,kP⟩:=us.ex;obtain⟨cq,JE,O6,WI,kN⟩:=us.fn;obtain⟨ajp,f1,cD,_⟩:=u.ex;rw[e1] at f1;clear Zd;cases f1;have n3:=ok.n3;refine FJ rfl rfl rfl ?_;refine R7 (xy (d:=d+10) (i:=3) (st:=83) (i':=0) (l:=t.De.map .B) () () (.AE (x:=.An 16) (.Am rfl) .AO ((DI e1).trans Tf)) us.De D (by rw[Ce,mo.Aj];exact DC (HT n3) rfl) λxs h1 lx hx D1 I4=>?_);rw[Ce,mo.Aj] at lx;have kU:Bs [80,71] h (Bm h1 71 (.A6 (xs.map V.B))):=λk Cc=>(F4 λz=>Cc (by rw[z];decide)).trans (I4 k λz=>Cc (by revert z;simp;exact .inl));have cE:(Bm h1 71 (.A6 (xs.map V.B)) 71)[I (h1 71)]?=H (.A6 (xs.map V.B)):=KG;have kW:CJ (Bm h1 71 (.A6 (xs.map V.B))):=D1.AX (F4 ()) (F4 ());have yN:∀{j:Nat} {o:A_},(h 71)[j]?=H o->(Bm h1 71 (.A6 (xs.map V.B)) 71)[j]?=H o:=λq=>RE (by rw[I4 71 ()];exact q);generalize I (h1 71)=ka at cE⊢;generalize Bm h1 71 (.A6 (xs.map V.B))=h2 at kU cE kW yN⊢;have cont:∀(th:Int) (h3:A0),CJ h3->Bs [80] h2 h3->Ae A5 (AL A5 (d+11)) (Lb.BL.dr 2) (L3 ka th .AQ .AQ .AQ .AQ .AQ) h3 λfl _ h'=>yL w C t kd C8 fuel ob Ah rows h fl.Av h':=by
  intro th h3 Gw Bv;have sm:=kU.Aw (Bv.JJ ());refine ajU P sm (by rw[sm 92 ()];exact e1) kL kM (by rw[sm 17 ()];exact O6) WI kN λh6 GB RI=>?_;have RU:Bs [80,71,85] h h6:=(sm.JJ ()).Aw (RI.JJ ());obtain⟨l,k1,k2⟩:=Hp;refine ajW (K:=Pf) GB (by rw[RU 92 ()];exact e1) Tf kQ (by rw[RU 83 ()];exact us.De) (by rw[RI 71 (),Bv 71 ()];exact cE) (by rw[RU 96 ()];exact k1) k2 (aj8▸fa.C3 (Dw (RU _ ()) (RU _ ())) (Ds _)) mo ok lx B8 (bo.Aj▸hn) λh9 b BF kk aka cF Ra KC=>?_;have yO:Bs [80,71,85,72,60,86] h h9:=(RU.JJ ()).Aw (KC.JJ ());refine ajV Ra (by rw[yO 92 ()];exact e1) kP λMg akb cG=>?_;have Tj:=yO.Aw (cG.JJ ());have akc:Bs [71,85,72,60,86] h3 Mg:=((RI.JJ ()).Aw (KC.JJ ())).Aw (cG.JJ ());have akd:(Mg 71)[ka]?=H (.A6 (xs.map V.B)):=by rw[cG 71 (),KC 71 (),RI 71 (),Bv 71 ()];exact cE
  refine aj2 cD (by rw[Tj 92 ()];exact e1) akd (by rw[Tj 98 ()];exact tb.DE) (lx▸n3) (tb.Aj▸hn) λkX EI O7 Tk Rb Th ra=>?_;have WK:Bs [80,71,85,72,60,86,74,73,98] h kX:=(Tj.JJ ()).Aw (Tk.JJ ());have yP:=akb.AX (λk hk=>Tk k (by revert k;decide)) (Dw (Tk _ ()) (Tk _ ()));have yQ:Bs [71,85,72,60,86,74,73,98] h3 kX:=(akc.JJ ()).Aw (Tk.JJ ());rw[Tj 73 ()] at O7 ra;have yR:=tb.RY O7 ra (λr _ x q=>q.up (WK 76 ()) (WK 77 ()) (λq=>by rw[Tk 71 (),cG 71 (),KC 71 (),RI 71 (),Bv 71 ()];exact yN q) (λq=>Rb (by rw[Tj 73 ()];exact q)) λq=>Th (by rw[Tj 74 ()];exact q)) (tb.H9 rfl);have ake:=bo.RY (kI (th:=th) ok mo lx) lx ((Ce _).trans lx) (DC hn rfl);obtain⟨l2,a,b',c,e⟩:=Jb;have akf:(kX 98)[0]?=H (.A6 (.O 99 0::(refs++[.O 73 (I (h 73))]))):=congrArg (·[0]?) O7;refine R6 (ahN (.AS (x:=.A3 [.B 2,.B (I ob+1:Nat)]) (y:=.A3 [.B 2,.B (I ob+1:Nat)]) (.Am rfl) (.A3 (.AR .AO (.AR (.C9 (.Aj (n:=I refs+2) (.Am rfl) (by rw[IJ akf,er,El];rfl)) .AO (by rw[tb.Aj,<-bo.Aj];exact aj9)) .AH))) kK) (Ge (vs:=[.O 92 0,.O 85 0,.O 98 0]) (.AR (.Am rfl) (.AR (.Am rfl) (.AR (.Am rfl) .AH))) (DL ?_ (bx (d:=d+9) yP ⟨rfl,rfl,97,l2,.inr rfl,a,by rw[WK 97 ()];exact b',c,e⟩ (u.AX λk hk=>WK k (by revert k;decide)) ok yR ake))));rintro v apO ⟨rfl,Rc⟩;exact DG ⟨rfl,xs,th,_,kk,lx,aka,cF,yP.AX (λk hk=>Rc k (by revert k;decide)) (Dw (Rc _ ()) (Rc _ ())),yR.AX λk hk=>Rc k (by revert k;decide),Gw.AX ((Rc _ ()).trans (yQ _ ())) ((Rc _ ()).trans (yQ _ ())),(WK.JJ ()).Aw (Rc.JJ ())⟩
 have yS:∀{b:Bool},Hj h2 (.v (.B C.Ew))=H b->Ar A5 (AL A5 (d+11)) (.AE (.Am 1) (.AO (.An 22))) U [.v (.O 80 0),.v (.O 92 0),.v (.O 85 0),.v (.O 98 0),.AQ,.v (.O 71 ka),.AQ,.AQ,.AQ,.AQ,.AQ,.AQ,.AQ] h2 (.v (.Au b)):=.PK (.Am rfl) .AO ((DI (by rw[kU 92 ()];exact e1)).trans cD);by_cases z:C.Ew=0
 .exact Ea (x:=.B 0) (.PL (yS (congrArg H (decide_eq_false λq=>q z))) .AO) (cont 0 h2 kW (Bs.BO _ _))
 .refine R7 (ahK (yS (congrArg H (decide_eq_true z))) (Ge (vs:=[.O 80 0,.B 20]) (.AR (.Am rfl) (.AR .AO .AH)) (DL ?_ (Mw kW ()))))
  rintro v h3 ⟨th,rfl,_,_,Gw,Bv⟩;exact cont th h3 Gw Bv
structure Rd where
 w:Lm
 C:C1
 t:Pb
 K:Int->Option Int
 Pf:Int->Option Int
 f:IP
 B_:List Int
 KN:List Int
 kY:V
 k_:Int
 cH:Int
 g:W7
structure O8(G:Rd)(h:A0):Prop where
 u:O2 h G.C
 us:y9 h G.t G.kY
 up:kC h G.f G.B_
 Tn:∃CE,(h 92)[0]?=H (.BC CE)/\Bw CE 126=H (.O 95 0)/\Bw CE 127=H (.O 91 0)
 KN:(h 95)[0]?=H (.A6 (G.KN.map .B))
 Mq:∃l,(h 91)[0]?=H (.BC l)/\Bw l 99=H (.B G.k_)/\Bw l 100=H (.B G.cH)/\Bw l 128=H (.B G.f.Dp)/\Bw l 129=H (.B G.f.em)
 Jb:∃l,(h 97)[0]?=H (.Ad l)/\(∀f,BP l f=(G.K f).map .B)/\I l<64
 Hp:∃l,(h 96)[0]?=H (.Ad l)/\∀f,BP l f=(G.Pf f).map .B
 fa:HN h 0 (D8 (L2 G.w.c G.t.Fb G.t.Ag G.Pf (GO G.C G.t [] 0))) G.kY
structure KO(G:Rd):Prop where
 ok:Jm G.C
 mo:Te G.C G.t G.Pf
 fo:RK G.w G.f G.K
 hE:G.w.BL G.f.em=H (PY G.w.c.A8 G.f G.B_)
 yT:G.f.em≠1000
 hC:G.w.BL G.k_=H (D8 [.A3 [.B 12,G9 7 G.w.c.A8 G.C.IQ]])
 hG:G.w.BL G.cH=H (D8 (HQ G.w.c G.g G.K))
 st:∀st∈G.KN,L1 G.f G.B_ st
 kc:G.KN≠[]
 kg:I G.KN<900
 kk:∀f,(G.K f).isSome=U↔f∈G.C.Eb
 Sh:G.K G.C.IQ=H 7
 fs:G.f.fs=G.C.fs
 WL:G.g.fs=G.C.fs
 kh:G.g.DX=G.t.DX
 ob:G.g.Gv≠G.g.O0
 Bd:G.g.Bd=G.C.BA.map (λk=>(k,k))++(if G.C.t0=0 then(if G.C.th=0 then[] else[(G.C.th,G.C.th)]) else[(G.C.t0,G.C.t0)])
 BV:G.g.BV=(if G.C.t0=0 then[] else[(G.C.th,G.C.t0)])++G.C.CS.zip G.C.BA
def yU:List Nat:=[92,57,93,83,17,94,68,53,95,91,97,96]
theorem O8.AX(g:O8 G h)(e:∀k∈yU,h2 k=h k)(C3:EU 0 h h2):O8 G h2 where
 u:=g.u.AX λk hk=>e k (by revert k;decide)
 us:=by obtain⟨CE,a⟩:=g.us.ex;obtain⟨c,l,b⟩:=g.us.fn;exact⟨⟨CE,by rw[e 92 ()];exact a⟩,by rw[e 83 ()];exact g.us.De,⟨c,l,by rw[e 17 ()];exact b⟩⟩
 up:=by obtain⟨CE,a⟩:=g.up.ex;exact⟨⟨CE,by rw[e 92 ()];exact a⟩,by rw[e 94 ()];exact g.up.B_,by rw[e 68 ()];exact g.up.xf,by rw[e 53 ()];exact g.up.xg⟩
 Tn:=by obtain⟨CE,a⟩:=g.Tn;exact⟨CE,by rw[e 92 ()];exact a⟩
 KN:=by rw[e 95 ()];exact g.KN
 Mq:=by obtain⟨l,a⟩:=g.Mq;exact⟨l,by rw[e 91 ()];exact a⟩
 Jb:=by obtain⟨l,a⟩:=g.Jb;exact⟨l,by rw[e 97 ()];exact a⟩
 Hp:=by obtain⟨l,a⟩:=g.Hp;exact⟨l,by rw[e 96 ()];exact a⟩
 fa:=g.fa.C3 C3 (Ds _)
def JK(G:Rd)(C8:V)(fuel:Int):EM:=⟨G.w.c.A8,G.w.c.A8,G.t.DX,.O 97 0,C8,fuel⟩
structure FP(G:Rd)(h:A0)(C8:V)(fuel:Int)(ob:List (List (Int×V)))(Ah:List V)(rows:List Row)(refs:List V):Prop where
 S:St G.w h (JK G C8 fuel) ob Ah
 g:O8 G h
 tb:Tb h rows refs
 bo:Jo G.C G.K ob rows
 D:CJ h
 st:∀x∈rows,L1 G.f G.B_ x.D5
theorem FP.M(Ai:FP G h C8 fuel ob Ah rows refs):Md G.w h (JK G C8 fuel) G.K:=⟨rfl,rfl,by
 obtain⟨l,a,b,c⟩:=Ai.g.Jb;exact⟨97,l,.inr rfl,rfl,a,b,c⟩⟩
theorem St.akg(S:St w h s ob Ah)(e:∀k∈Vu,k≠85->h2 k=h k)(g:EU 0 h h2)(m:h2 85=[.BC (JC w.c s2)])(jn:s2.Ah=s.Ah):St w h2 s2 ob Ah where
 m:=m
 th:=(e 86 () ()).trans S.th
 IK:=(e 60 () ()).trans S.IK
 JF:=by
  obtain⟨a,b,x,y,z⟩:=S.JF;refine⟨a,b,jn.trans x,y,?_⟩;clear x;rcases y with rfl|rfl
  .rw [e 88 () ()];exact z
  .rw [e 75 () ()];exact z
 fl:=S.fl.imp λFx f=>f.AX (e 89 () ()) g
 fn:=λmid b q=>⟨(S.fn mid b q).1,(S.fn mid b q).2.1.AX λk hk=>e k (by revert k;decide) (by revert k;decide),(S.fn mid b q).2.2⟩
 ml:=S.ml
theorem St.pre(S:St w h s ob Ah):Pre w h (JC w.c s) s.kd s.Ah s.BX ob Ah:=⟨S.m,rfl,rfl,(show 13<50 by decide),λx x x=>rfl,λh2 s2 e g m l=>S.akg e g m l⟩
theorem Tb.DA(tb:Tb h rows refs)(Bx:refs[i]?=H (.O a b))(ab:a=73\/a=77)(DN:(h a)[b]?=H (.BC l))(rl:Fc h l' x'):Tb (Bf h a b (.BC l')) (rows.set i x') refs:=by
 have Jp:a≠98:=by clear DN Bx;rcases ab with rfl|rfl<;>decide
 have ii:∀k∈[71,74,76],Bf h a b (.BC l') k=h k:=λk hk=>CZ λz=>by subst z;clear Jp DN Bx;rcases ab with rfl|rfl<;>exact absurd hk ()
 refine⟨(CZ (FU Jp)).trans tb.DE,by rw[La];exact tb.Aj,λj r x hr hx=>?_,tb.nd⟩;by_cases z:j=i
 .subst z
  rw[Bx] at hr;cases hr;have lt:j<I rows:=by rw[<-tb.Aj];exact(Dd.mp Bx).1
  rw[LS lt] at hx;cases hx;exact⟨a,b,l',rfl,ab,GL DN,rl.AX ii⟩
 .rw [Xz (FU z)] at hx
  obtain⟨a2,b2,l2,e2,cI,g2,Vt⟩:=tb.Gf j r x hr hx;subst e2;refine⟨a2,b2,l2,rfl,cI,?_,Vt.AX ii⟩;by_cases y:a2=a
  .clear Jp ab;subst y
   have nb:b2≠b:=λq=>by clear ii DN;subst q;have e1:=(Dd.mp Bx).2;have e2:=(Dd.mp hr).2;exact z ((List.getElem_inj tb.nd).mp (e2.trans e1.symm))
   exact PS nb g2
  .rw [CZ y];exact g2
theorem cJ(e:Bw l k=H x):I (CX l k v)=I l:=by
 induction l with
 |nil=>cases e
 |cons a l ih=>
  obtain⟨p,q⟩:=a;rw[OV] at e;rw[OW];by_cases z:p=k
  .rw [if_pos z];rfl
  .rw [if_neg z] at e⊢
   rw[er,er,ih e]
theorem Fc.WM(r:Fc h l x)(v:Int):Fc h (CX l 118 (.B v)) {x with D5:=v} where
 Aj:=by rw[cJ r.D5];exact r.Aj
 D5:=ao ..
 FA:=by rw[GM ()];exact r.FA
 E2:=by rw[GM ()];exact r.E2
 DS:=by rw[GM ()];exact r.DS
 BA:=by rw[GM ()];exact r.BA
 CS:=by rw[GM ()];exact r.CS
theorem Fc.yV(r:Fc h l x)(v:Int):Fc h (CX l 119 (.B v)) {x with E2:=v} where
 Aj:=by rw[cJ r.E2];exact r.Aj
 D5:=by rw[GM ()];exact r.D5
 FA:=by rw[GM ()];exact r.FA
 E2:=ao ..
 DS:=by rw[GM ()];exact r.DS
 BA:=by rw[GM ()];exact r.BA
 CS:=by rw[GM ()];exact r.CS
theorem Fc.akh(r:Fc h l x)(v:Int):Fc h (CX l 92 (.B v)) {x with FA:=v} where
 Aj:=by rw[cJ r.FA];exact r.Aj
 D5:=by rw[GM ()];exact r.D5
 FA:=ao ..
 E2:=by rw[GM ()];exact r.E2
 DS:=by rw[GM ()];exact r.DS
 BA:=by rw[GM ()];exact r.BA
 CS:=by rw[GM ()];exact r.CS
theorem Fc.yW(r:Fc h l x)(i:Lz h v xs):Fc h (CX l 121 v) {x with CS:=xs} where
 Aj:=by obtain⟨q,e,_⟩:=r.CS;rw[cJ e];exact r.Aj
 D5:=by rw[GM ()];exact r.D5
 FA:=by rw[GM ()];exact r.FA
 E2:=by rw[GM ()];exact r.E2
 DS:=by rw[GM ()];exact r.DS
 BA:=by rw[GM ()];exact r.BA
 CS:=⟨v,ao ..,i⟩
theorem IS.WM(a:IS C l x)(ok:Jm C)(v:Int):IS C (Ba l C.fs (.B v)) {x with D5:=v}:=by
 obtain⟨k1,k2⟩:=WE (k:=C.fs) (v:=.B v) a.nd;have ki:C.fs∈C.Eb:=D0;refine⟨k1,λk hk=>(k2 k hk).elim (λe=>e▸ki) (a.ks k),λp hp=>?_⟩;rw[FN];rcases c9 hp with rfl|rfl|⟨z,rfl⟩|⟨z,rfl⟩|⟨i,li,rfl|rfl⟩
 .rw [if_pos rfl];rfl
 .rw [if_neg ok.WB.2.2];exact a.DE _ hp
 .rw [if_neg (by
   by_cases q:C.t0=0
   .exact (ok.jy z q).2
   .exact (ok.Tc q).2.2.2.2.1)];exact a.DE _ hp
 .rw [if_neg (ok.Tc z).2.1];exact a.DE _ hp
 .rw [if_neg (ok.P_ _ (O5 li)).2];exact a.DE _ hp
 .rw [if_neg (ok.xN _ (O5 (by rw[ok.Aj];exact li))).2.2];exact a.DE _ hp
def O9(G:Rd)(fuel:Int)(n:Nat)(v:V)(h2:A0):Prop:=v=.Au U/\∃C8 fuel2 ob Ah rows refs,FP G h2 C8 fuel2 ob Ah rows refs/\fuel-150<=fuel2/\rows≠[]/\I rows<=n+1
abbrev Pg(i:Nat)(rf:V)(op:Int):List T:=[.v (.O 80 0),.v (.O 92 0),.v (.O 85 0),.v (.O 98 0),.v (.B (i+1:Nat)),.v rf,.v (.B op),.AQ,.AQ,.AQ,.AQ,.AQ]
section
variable{i a b:Nat}
def yX(d:Nat)(r:List T)(a:E)(Q:T->A0->Prop)(t:T)(h1:A0):Prop:=opt (Hj h1 t) λb=>if b=U then Az A5 (AL A5 d) a A1 r h1 Q else Q t h1
theorem kj{a:E}(k:Az A5 (AL A5 d) a A1 r h Q):yX d r a Q (.v (.Au U)) h:=⟨U,rfl,(if_pos rfl).mpr k⟩
theorem ko{e a:E}(k:Az A5 (AL A5 d) e A1 r h (yX d r a Q)):Az A5 (AL A5 d) (.CF U (.AR e (.AR a .AH))) A1 r h Q:=k
theorem Jo.P8(bo:Jo C K ob rows){l:List (Int×V)}(ag:IS C l x)(l1:I x.BA=I C.BA)(l2:I x.CS=I C.BA):Jo C K (ob.set i l) (rows.set i x) where
 Aj:=by rw[La,La,bo.Aj]
 ag:=λj l' x' hl hx=>by
  by_cases z:j=i
  .subst z
   have lo:=(Dd.mp hl).1;rw[La] at lo;rw[LS lo] at hl;rw[LS (by rw[<-bo.Aj];exact lo)] at hx;cases hl;cases hx;exact ag
  .rw [Xz (FU z)] at hl hx
   exact bo.ag j l' x' hl hx
 ln:=λx' hx=>by
  clear ag;rcases kq hx with hx|rfl
  .exact bo.ln x' hx
  .exact ⟨l1,l2⟩
 kk:=bo.kk
 n:=by rw[La];exact bo.n
theorem KO.Re(g:KO G)(st:Int)(h1:-2<=st)(h2:st<=0):L1 G.f G.B_ st:=by
 obtain⟨s0,h0⟩:=List.exists_mem_of_ne_nil _ g.kc
 have:=g.st s0 h0;exact⟨(CB 1 (.s AK (.k 2)) A2 1 AK A7 (.s (.s AK (.k 2)) A7) A2 A4 [st,G.f.N] h1 (CU _)),(CB 1 AK A2 1 A7 AK A7 A2 A4 [I G.B_,st] (CU _) h2),this.rg,this.n3⟩
theorem FP.Gf(Ai:FP G h C8 fuel ob Ah rows refs)(Bx:refs[i]?=H (.O a b))(hx:rows[i]?=H x):(a=73\/a=77)/\∃l,(h a)[b]?=H (.BC l)/\Fc h l x:=by obtain⟨a',b',l,e,ab,g,rl⟩:=Ai.tb.Gf i _ _ Bx hx;cases e;exact⟨ab,l,g,rl⟩
theorem aki(g:KO G)(Ai:FP G h C8 fuel ob Ah rows refs)(B8:200<=fuel)(hn:I rows<45)(cK:V):
  Ae A5 (AL A5 (d+40)) (Lc.BL.dr 4) (Pg i cK 7) h λfl y h'=>O9 G fuel (I rows) fl.Av h':=by
 refine DJ #[] ?_;refine az #[] (DL ?_ (yM Ai.S.pre Ai.D Ai.g.u Ai.g.us g.ok g.mo Ai.g.fa Ai.g.Hp (Ai.g.Jb.imp λl q=>⟨rfl,q⟩) Ai.tb Ai.bo (Ax 1 (.k 200) A2 (.k 20) A2 A4 [fuel] B8) (DC hn rfl)));rintro v h2 ⟨rfl,xs,th,cC,k,lx,k0,W3,CG,To,D2,sm⟩;refine⟨rfl,_,_,_,_,_,_,⟨CG,Ai.g.AX (λk hk=>sm k (by revert k;decide)) (Dw (sm _ ()) (sm _ ())),To,Ai.bo.RY (kI g.ok g.mo lx) lx (by rw[Ce];exact lx) (DC hn rfl),D2,λx hx=>?_⟩,?_,by simp,by simp⟩
 .rcases EY.mp hx with hx|hx
  .exact Ai.st x hx
  .cases EK.mp hx
   exact g.Re (-2) () ()
 .exact Ax 1 A2 (.k 10) (.s A7 (.k 150)) (.s A7 A2) A4 [k,fuel] W3
theorem FP.run(Ai:FP G h C8 fuel ob Ah rows refs)(CG:St G.w h2 (JK G C8 fuel2) KP yY)(fr:Fr h h2)(tb:Tb h WN refs)(bo:Jo G.C G.K KP WN)(st:∀x∈WN,L1 G.f G.B_ x.D5):FP G h2 C8 fuel2 KP yY WN refs:=
 ⟨CG,Ai.g.AX (λk hk=>fr.sm k (by revert k;decide)) fr.C3,tb.AX λk hk=>fr.sm k (by revert k;decide),bo,Ai.D.AX (fr.sm _ ()) (fr.sm _ ()),st⟩
theorem FP.AX(Ai:FP G h C8 fuel ob Ah rows refs)(sm:Bs L h h2)(n:∀k∈Vu++yU++[98,71,74,76,73,77,79,80,58,59],k∉L):FP G h2 C8 fuel ob Ah rows refs:=by have e:=λk hk=>sm k (n k hk);have C3:=Dw (e _ ()) (e _ ());exact⟨Ai.S.AX (λk hk=>e k (by revert k;decide)) C3,Ai.g.AX (λk hk=>e k (by revert k;decide)) C3,Ai.tb.AX λk hk=>e k (by revert k;decide),Ai.bo,Ai.D.AX (e _ ()) (e _ ()),Ai.st⟩
theorem akj(g:KO G)(Ai:FP G h C8 fuel ob Ah rows refs)(Bx:refs[i]?=H (.O a b))(hx:rows[i]?=H x)(B8:200<=fuel)(hn:I rows<45):
  Ae A5 (AL A5 (d+40)) (Lc.BL.dr 4) (Pg i (.O a b) 6) h λfl y h'=>O9 G fuel (I rows) fl.Av h':=by
 obtain⟨ab,l,DN,rl⟩:=Ai.Gf Bx hx;obtain⟨CE,e1,_,WO⟩:=Ai.g.Tn;obtain⟨lm,Tp,akk,_⟩:=Ai.g.Mq;have lt:=(Dd.mp hx).1;have lo:i<I ob:=by rw[Ai.bo.Aj];exact lt
 have hl:=DP lo;have ag:=Ai.bo.ag i _ _ hl hx;refine BK #[] (As ?_);refine BK (.CF (.G8 #[] (.GG #[]))) (As ?_);refine DJ #[] ?_;refine R6 (ko (wI (Ge (.AR #[] (.AR (.AE (x:=.An 99) (.AE #[] #[] ((DI e1).trans WO)) #[] ((DI Tp).trans akk)) #[])) (DL ?_ (ai5 (d:=d+25) Ai.S Ai.M g.hC g.Sh (by exact Ax 1 (.k 200) A2 (.k 2) A2 A4 [fuel] B8) hl (ag.DE _ (DV _ D0)))))));rintro v h2 ⟨rfl,CG,fr⟩;have E9:FP G h2 C8 (fuel-1) ob Ah rows refs:=Ai.run CG fr Ai.tb Ai.bo Ai.st;have akl:(h2 a)[b]?=H (.BC l):=by rw[fr.sm a (by clear DN Bx;rcases ab with rfl|rfl<;>decide)];exact DN
 refine DG (Fw (.A3 (.AR .AO (.AR (.AE (x:=.An 92) #[] .AO ((DI akl).trans rl.FA)) .AH))) (DG (R5 kK (kj ?_))));refine Ge #[] (DL ?_ (bx (d:=d+38) E9.S E9.M E9.g.u g.ok E9.tb E9.bo));rintro v h3 ⟨rfl,Bv⟩;refine DG ⟨rfl,_,_,_,_,_,_,E9.AX Bv (),(Co (.s A2 (.k 150)) (.s A2 AF) A4 [fuel]),?_,(Ei A2 AI A4 [I rows])⟩;intro q;rw[q] at lt;exact absurd lt (Mx _)
theorem y_(hf:∀x:Int,f (.B x) (.B x)=H U):∀xs:List Int,Hi f (xs.map V.B) (xs.map V.B)=H U:=by
 intro BE;induction BE with
 |nil=>
  exact rfl
 |cons x xs ih=>
  show(match f ..,Hi f .. with|some a,H b=>H _|_,_=>AB)=_;rw[hf,ih];rfl
theorem ya{x:Int}:JO h n (.B x) (.B x)=H U:=by
 have:JO h n (.B x) (.B x)=H (decide (x=x)):=by cases n<;>rfl
 rw[this,decide_eq_true rfl]
theorem akm{xs:List Int}(e1:(h a)[b]?=H (.A6 (xs.map V.B)))(e2:(h c)[e]?=H (.A6 (xs.map V.B))):Iz h .eq (.A3 [.O a b,.A3 [.B y,.B z]]) (.A3 [.O c e,.A3 [.B y,.B z]])=H U:=by
 have r:JO h 5 (.O a b) (.O c e)=H U:=by show(match(h a)[b]?,(h c)[e]? with|some (.A6 a),H (.A6 b)=>Hi _ a b|_,_=>AB)=_;rw[e1,e2];exact y_ (λx=>ya) xs
 have p:JO h 5 (.A3 [.B y,.B z]) (.A3 [.B y,.B z])=H U:=y_ (λx=>ya) [y,z];show(match JO h 5 ..,(match JO h 5 (.A3 [.B y,.B z]) (.A3 [.B y,.B z]),H U with|some a,H b=>H _|_,_=>AB) with|some a,H b=>H (a&&b)|_,_=>AB)=_;rw[r,p];rfl
theorem akn:∃xs:List Int,Lv f p=xs.map V.B:=by
 have:∀n p,∃xs:List Int,Kz f n p=xs.map V.B:=by
  intro n;induction n with
  |zero=>exact λp=>⟨[p],rfl⟩|succ n ih=>
   intro p;rw[jj];by_cases z:0<=f.CR p
   .rw [if_pos z]
    obtain⟨xs,e⟩:=ih (f.CR p).toNat;exact⟨p::xs,by rw[e];rfl⟩
   .rw [if_neg z];exact⟨[p],rfl⟩
 unfold Lv;by_cases z:0<=p
 .rw [if_pos z];exact this ..
 .rw [if_neg z];exact⟨[],rfl⟩
theorem ako:∃y:Int,(FO f p).2=.B y:=by
 unfold FO;split
 .split
  .exact ⟨_,rfl⟩
  .exact ⟨0,rfl⟩
 .exact ⟨0,rfl⟩
theorem akp(g:KO G)(Ai:FP G h C8 fuel ob [] rows refs)(Bx:refs[i]?=H (.O a b))(hx:rows[i]?=H x)(B8:200<=fuel)(hn:I rows<45)(ho:op=2\/op=3):
  Ae A5 (AL A5 (d+40)) (Lc.BL.dr 4) (Pg i (.O a b) op) h λfl j h'=>O9 G fuel (I rows) fl.Av h':=by
 obtain⟨ab,l,DN,rl⟩:=Ai.Gf Bx hx;have lt:=(Dd.mp hx).1;have nr:rows≠[]:=λq=>by rw[q] at lt;exact absurd lt (Mx _)
 have lo:i<I ob:=by rw[Ai.bo.Aj];exact lt
 have hl:=DP lo;have ag:=Ai.bo.ag i _ _ hl hx;have JI:=Ai.bo.ln _ (HE hx);have so:=Ai.st _ (HE hx);have cL:=g.fo.hk;have hvs:(BP ob[i] G.f.fs).getD (.B 0)=.B x.D5:=by rw[g.fs];exact ag.DE _ D0
 have cM:I (ob[i])<800:=by have:=Vw ag.nd ag.ks;rw[Ce] at this;have h2:I G.C.Eb<20:=GH (BQ (Ce ..)) (C1.bq g.ok.n3);exact By 1 A2 A7 1 BB (.k 20) AI (.k 800) A4 [ob[i].length,I G.C.Eb] this h2
 refine BK (.AS #[] .AO (by rcases ho with rfl|rfl<;>rfl)) (As ?_);refine BK (.CF (.G8 (.AS #[] .AO (by rcases ho with rfl|rfl<;>rfl)) (.GG (.AS #[] .AO (by rcases ho with rfl|rfl<;>rfl))))) (As ?_);refine BK (.AS #[] .AO (by rcases ho with rfl|rfl<;>rfl)) (As ?_);refine BK (.AS #[] .AO (by rcases ho with rfl|rfl<;>rfl)) (As ?_);refine R7 (jL (Ii (wN (l:=[]) (.A6 .AH) rfl () (DG (Ii (Fw #[] (DG (Vj ?_))))))));have kr:(Bm h 78 (.A6 []) 78)[I (h 78)]?=H (.A6 []):=KG;have akq:Bs [78] h (Bm h 78 (.A6 [])):=Vq ();have Kl:=Ai.AX akq ();have WQ:(Bm h 78 (.A6 []) a)[b]?=H (.BC l):=by rw[F4 (by clear DN Bx;rcases ab with rfl|rfl<;>decide)];exact DN
 generalize I (h 78)=kw at kr⊢;generalize Bm h 78 (.A6 [])=h0 at kr Kl WQ⊢;have fin:∀(c e:Nat) (xs:List Int) (y z:Int) (h1:A0) (Iq:List Row),c=69\/c=78->Tb h1 Iq refs->O8 G h1->St G.w h1 (JK G C8 fuel) ob []->CJ h1->(h1 c)[e]?=H (.A6 (xs.map V.B))->I Iq=I rows->(∀x∈Iq,L1 G.f G.B_ x.D5)->
   (∃KP,Jo G.C G.K KP Iq/\AL A5 (d+40) 78 [.O 85 0,.B (if op=2 then G.f.Dp else G.f.em),.B (i+1:Nat)] h1 λv h2=>v=.A3 [.B y,.B z]/\(∃k,0<=k/\k<=100/\St G.w h2 ((JK G C8 fuel).C_ k) KP (xs.map V.B))/\Fr h1 h2)->
   Ae A5 (AL A5 (d+40)) (Lc.BL.dr 10) [.v (.O 80 0),.v (.O 92 0),.v (.O 85 0),.v (.O 98 0),.v (.B (i+1:Nat)),.v (.O a b),.v (.B op),.AQ,.AQ,.AQ,.AQ,.v (.A3 [.O c e,.A3 [.B y,.B z]])] h1 λfl j h'=>O9 G fuel (I rows) fl.Av h':=by
  rintro c e xs y z h1 Iq hc ku g1 CP D1 ec lr st1 ⟨KP,l0,run⟩;obtain⟨CE,e1,_,WO⟩:=g1.Tn;obtain⟨lm,Tp,_,_,akr,aks⟩:=g1.Mq;have mid:Ar A5 (AL A5 (d+40)) (.AE (.AE (.Am 1) (.AO (.An 127))) (.Ay (.AS .eq (.Am 6) (.AO (.B 2))) (.AO (.An 128)) (.AO (.An 129)))) A1 [.v (.O 80 0),.v (.O 92 0),.v (.O 85 0),.v (.O 98 0),.v (.B (i+1:Nat)),.v (.O a b),.v (.B op),.AQ,.AQ,.AQ,.AQ,.v (.A3 [.O c e,.A3 [.B y,.B z]])] h1 (.v (.B (if op=2 then G.f.Dp else G.f.em))):=by
   have yb:Ar A5 (AL A5 (d+40)) (.AE (.Am 1) _) A1 [.v (.O 80 0),.v (.O 92 0),.v (.O 85 0),.v (.O 98 0),.v (.B (i+1:Nat)),.v (.O a b),.v (.B op),.AQ,.AQ,.AQ,.AQ,.v (.A3 [.O c e,.A3 [.B y,.B z]])] h1 _:=.AE #[] .AO ((DI e1).trans WO);clear run;rcases ho with rfl|rfl
   .exact .AE yb (.TG #[] .AO) ((DI Tp).trans akr)
   .exact .AE yb (.PL #[] .AO) ((DI Tp).trans aks)
  refine I2 (.AR #[] (.AR mid (.AR #[] .AH))) (DL ?_ run);rintro v h2 ⟨rfl,⟨k,k0,k1,CG⟩,fr⟩;have E9:FP G h2 C8 (fuel-k) KP (xs.map V.B) Iq refs:=⟨CG,g1.AX (λk hk=>fr.sm k (by revert k;decide)) fr.C3,ku.AX λk hk=>fr.sm k (by revert k;decide),l0,D1.AX (fr.sm _ ()) (fr.sm _ ()),st1⟩;obtain⟨a2,b2,el,_,akt⟩:=E9.S.JF;clear CG run CP Kl Ai;subst el;have i2:=E9.S.m;refine R6 (ko (Fw (.AS (.A3 (.AR #[] (.AR #[] .AH))) #[] (akm akt (by rw[fr.sm c (by clear mid ec;rcases hc with rfl|rfl<;>decide)];exact ec))) (kj ?_)));refine Ge #[] (DL ?_ (bx E9.S E9.M E9.g.u g.ok E9.tb E9.bo));rintro v h3 ⟨rfl,Bv⟩;refine DG ⟨rfl,_,_,_,_,_,_,E9.AX Bv (),(Ax 1 A2 (.k 100) (.s A7 (.k 150)) (.s A7 A2) A4 [k,fuel] k1),?_,(BG 1 A2 A7 A2 BB A4 [I Iq,I rows] (BQ lr))⟩;intro q;rw[q] at lr;exact nr (xd.mp lr.symm)
 have IT:∀n,Ar A5 (AL A5 (d+40)) (.AE (.Am 5) _) A1 [.v (.O 80 0),.v (.O 92 0),.v (.O 85 0),.v (.O 98 0),.v (.B (i+1:Nat)),.v (.O a b),.v (.B op),.AQ,.AQ,.AQ,.AQ,.v n] h0 _:=λn=>.AE #[] .AO ((DI WQ).trans rl.D5);by_cases A:op=3\/x.D5=-2\/0<=x.D5
 ·
  have test:Ar A5 (AL A5 (d+40)) (.CF A1 (.AR (.AS .eq (.Am 6) (.AO (.B 3))) (.AR (.AS .eq (.AE (.Am 5) (.AO (.An 118))) (.AO (.B (-2)))) (.AR (.AS .ge (.AE (.Am 5) (.AO (.An 118))) (.AO (.B 0))) .AH)))) U [.v (.O 80 0),.v (.O 92 0),.v (.O 85 0),.v (.O 98 0),.v (.B (i+1:Nat)),.v (.O a b),.v (.B op),.AQ,.AQ,.AQ,.AQ,.v (.A3 [.O 78 kw,.A3 [.B 2,.B 0]])] h0 (.v (.Au U)):=by
   by_cases c1:op=3
   .exact .CF (.Nl (.AS #[] .AO (by simp[c1])) rfl)
   .by_cases c2:x.D5=-2
    .exact .CF (.G8 (.AS #[] .AO (by simp[c1])) (.Nl (.AS (IT _) .AO (by simp[c2])) rfl))
    .have c3:0<=x.D5:=by rcases A with q|q|q<;>first|exact q|exact absurd q c1|exact absurd q c2
     exact .CF (.G8 (.AS #[] .AO (by simp[c1])) (.G8 (.AS (IT _) .AO (by simp[c2])) (.GG (.AS (IT _) .AO (by simp[c3])))))
  refine DJ test ?_;refine I2 (.AR #[] (.AR (IT _) .AH)) (DL ?_ (ajA Kl.g.up (λp lp z=>g.fo.CR p lp z) so));rintro v h1 ⟨Sh,rfl,ec,I4⟩;obtain⟨xs,hxs⟩:=akn (f:=G.f) (p:=Cj G.f.N G.B_ x.D5);obtain⟨z,hz⟩:=ako (f:=G.f);rw[hxs] at ec;rw[hz];have My:=Kl.AX I4 ();have cN:(h1 a)[b]?=H (.BC l):=by rw[I4 a (by clear test IT fin WQ DN Bx;rcases ab with rfl|rfl<;>decide)];exact WQ
  have Vs:Fc h1 l x:=by obtain⟨_,l',g',WR⟩:=My.Gf Bx hx;rw[cN] at g';cases g';exact WR
  refine Lh (s:=a) (i:=b) (l:=l) (f:=118) .AO #[] .AO cN (by have:=Vs.Aj;unfold BU;exact DC this rfl) (As ?_);have To:=My.tb.DA Bx ab cN (Vs.WM (-1));have na:∀k,k≠73->k≠77->Bf h1 a b (.BC (CX l 118 (.B (-1)))) k=h1 k:=λk p q=>CZ (by clear To cN test IT fin WQ DN Bx;rcases ab with rfl|rfl<;>assumption);have WS:=Dw (na _ () ()) (na _ () ());have CG:=My.S.AX (λk hk=>na k (by revert k;decide) (by revert k;decide)) WS;have g2:=My.g.AX (λk hk=>na k (by revert k;decide) (by revert k;decide)) WS;have M2:Md G.w _ (JK G C8 fuel) G.K:=⟨rfl,rfl,by
   obtain⟨l,a,b,c⟩:=g2.Jb;exact⟨97,l,.inr rfl,rfl,a,b,c⟩⟩
  refine fin 69 Sh xs _ z _ _ (.inl rfl) To g2 CG (My.D.AX (na _ () ()) (na _ () ())) (by rw[na _ () ()];exact ec) (La ..) (λx' hx'=>?_) ⟨ob.set i (Ba ob[i] G.f.fs (.B (-1))),?_,?_⟩
  .rcases kq hx' with q|rfl
   .exact Ai.st x' q
   .exact g.Re (-1) () ()
  .rw [g.fs]
   exact Ai.bo.P8 (ag.WM g.ok (-1)) JI.1 JI.2
  .clear test IT fin;rcases ho with rfl|rfl
   .refine DL ?_ (ai4 (d:=d+1) CG M2 g.fo g.hE g.yT so (by exact Ax 1 (.k 200) A2 (.k 130) A2 A4 [fuel] B8) hl (DC cM rfl) (by simp) hvs (A.elim (λq=>absurd q ()) λq=>q.elim (λq=>by rw[q];decide) λq z=>z.elim (λz=>Ie.mpr q (fu z ())) λz=>absurd (z▸q) ()))
    rintro v h3 ⟨rfl,⟨k,k0,RL,CQ⟩,fr⟩;rw[r5,hxs] at CQ;exact⟨by rw[hz],⟨k,k0,(Ax 1 A2 (.k 90) A2 (.k 100) A4 [k] RL),CQ⟩,fr⟩
   .refine DL ?_ (xC (d:=d+4) CG M2 g.fo g.hE so (by exact Ax 1 (.k 200) A2 (.k 120) A2 A4 [fuel] B8) hl (DC cM rfl) (by simp) hvs)
    rintro v h3 ⟨rfl,⟨k,k0,RL,CQ⟩,fr⟩;rw[r5,hxs] at CQ;exact⟨by rw[hz],⟨k,k0,(Ax 1 A2 (.k 80) A2 (.k 100) A4 [k] RL),CQ⟩,fr⟩
 ·
  have c1:op≠3:=λq=>A (.inl q);have c2:x.D5≠-2:=λq=>A (.inr (.inl q));have c3:¬0<=x.D5:=λq=>A (.inr (.inr q));have o2:op=2:=ho.resolve_right c1;refine BK (.CF (.G8 (.AS #[] .AO (by simp[c1])) (.G8 (.AS (IT _) .AO (by simp[c2])) (.GG (.AS (IT _) .AO (by simp;exact Ax 1 AI AK AI AK A4 [x.D5] (Mu.mp c3))))))) (As ?_);refine fin 78 kw [] 2 0 h0 rows (.inr rfl) Kl.tb Kl.g Kl.S Kl.D kr rfl Ai.st ⟨ob,Ai.bo,?_⟩;rw[if_pos o2];refine DL ?_ (wm (d:=d+25) Kl.S Kl.M g.fo.D (by exact Ax 1 (.k 200) A2 (.k 4) A2 A4 [fuel] B8) cL hl hvs ((Int.lt_trichotomy x.D5 (-2)).elim .inl λq=>q.elim (λq=>absurd q c2) λq=>.inr (En (Ax 1 AI AK A2 (.s AK AF) A4 [x.D5] (Mu.mp c3)) q)));rintro v h3 ⟨rfl,⟨k,k0,RL,CQ⟩,fr⟩;exact⟨rfl,⟨k,k0,(Ax 1 A2 (.k 4) A2 (.k 100) A4 [k] RL),CQ⟩,fr⟩
end
section
variable{C:C1}
def Gi(l:List (Int×V))(f:Int):Int:=match(BP l f).getD (.B 0) with|.B v=>v|_=>0
theorem Ph(ag:IS C l x)(hp:p∈C.CD):(BP l p.1).getD (.B 0)=.B (Gi l p.1)/\Gi l p.1=p.2 x:=by have:=ag.DE p hp;unfold Gi;rw[this];exact⟨rfl,rfl⟩
theorem aku(m:f∈C.Eb):∃p∈C.CD,p.1=f:=Eh.mp m
theorem akv(ag:IS C l x)(m:f∈C.Eb):(BP l f).getD (.B 0)=.B (Gi l f):=by obtain⟨p,hp,rfl⟩:=aku m;exact(Ph ag hp).1
theorem akw:i<n->(C.BA.getD i 0,λx:Row=>x.BA.getD i 0)∈C.Ly n/\(C.CS.getD i 0,λx:Row=>x.CS.getD i 0)∈C.Ly n:=by
 induction n with
 |zero=>exact λh=>absurd h (Mx _)|succ n ih=>
  intro l;by_cases z:i=n
  .clear l ih;subst z
   exact⟨IG _ (by simp),IG _ (by simp)⟩
  .have:=ih (bV (Mv l) z)
   exact⟨Im _ this.1,Im _ this.2⟩
theorem l5(l:i<I C.BA):(C.BA.getD i 0,λx:Row=>x.BA.getD i 0)∈C.CD:=IG _ (akw l).1
theorem akx(z:C.th≠0):(C.th,Row.E2)∈C.CD:=by unfold C1.CD C1.fl C1.O1;rw[if_neg z];simp
theorem cO(z:C.t0≠0):(C.t0,Row.DS)∈C.CD:=by unfold C1.CD C1.fl C1.O1;rw[if_neg z];simp
theorem yc(e:I C.CS=I C.BA)(l:i<I C.BA):(C.CS.getD i 0,C.BA.getD i 0)∈C.CS.zip C.BA:=by rw[Lf,Lf,DP l,DP _];refine List.mem_iff_getElem.mpr ⟨i,by rw[List.length_zip];exact Nat.lt_min.mpr ⟨aG l e.symm,l⟩,?_⟩;rw[List.getElem_zip];rfl
theorem aky(e:I C.CS=I C.BA):(C.CS.zip C.BA).map (·.1)=C.CS:=List.map_fst_zip (BQ e)
def Tq(C:C1)(x:Row)(cur:Int):Row:={D5:=0,FA:=cur,E2:=if C.Ew=2 then x.DS else x.E2,DS:=x.DS,BA:=x.BA,CS:=x.BA}
section
variable(g:KO G)
include g
theorem Pi:G.g.BV.map (·.1)=G.C.HS:=by rw[g.BV,Gg,aky g.ok.Aj];congr 1;split<;>rfl
theorem cP:G.g.Bd.map (·.1)=G.C.Io:=by
 rw[g.Bd,Gg,Qn];congr 1
 .exact List.map_id' _
 .split
  .split<;>rfl
  .rfl
theorem akz:(∀k∈G.C.BA,k∈G.C.Eb)/\(∀k∈G.C.CS,k∈G.C.Eb):=by refine⟨λk hk=>?_,λk hk=>g.ok.RQ k (IG _ (IG _ hk))⟩;exact g.ok.RQ k (Im _ (Im _ hk))
theorem yd:∀p∈G.g.Bd,p.2=p.1:=by
 intro p hp;rw[g.Bd] at hp;rcases EY.mp hp with hp|hp
 .obtain ⟨k,_,rfl⟩:=Eh.mp hp;rfl
 .split at hp
  .split at hp
   .cases hp
   .cases EK.mp hp;rfl
  .cases EK.mp hp;rfl
theorem akA(z:G.C.t0≠0):G.C.t0∈G.C.Eb:=Eh.mpr ⟨_,cO z,rfl⟩
set_option tactic.hygienic true in
theorem cQ:∀p∈G.g.BV,p.2∈G.C.Eb/\(p.2=G.C.t0/\G.C.t0≠0\/p.2∈G.C.BA):=by
 intro p hp;rw[g.BV] at hp;rcases EY.mp hp with hp|hp
 .split at hp
  .cases hp
  .rename_i z
   cases EK.mp hp;exact⟨akA g z,.inl ⟨rfl,z⟩⟩
 .have:=(gg hp).2
  exact⟨(akz g).1 _ this,.inr this⟩
theorem cR:G.C.t0≠0↔G.C.Ew=2:=⟨λz=>by
  by_cases q:G.C.Ew=2
  .exact q
  .exact absurd (g.mo.t0.mpr q) z,λq z=>(g.mo.t0.mp z) q⟩
theorem akB(ag:IS G.C l x):IS G.C (F9 (Gi l) G.g.BV (Ba l G.C.fs (.B 0))) (Tq G.C x x.FA):=by
 have ok:=g.ok;obtain⟨k1,k2⟩:=WE (k:=G.C.fs) (v:=.B 0) ag.nd;obtain⟨k3,k4⟩:=yD (src:=Gi l) (ps:=G.g.BV) k1;have ki:G.C.fs∈G.C.Eb:=D0;have nd:(G.g.BV.map (·.1)).Nodup:=by rw[Pi g];exact(Vy.mp ok.pr).2.1
 have Gv:∀f,f∉G.C.HS->f≠G.C.fs->BP (F9 (Gi l) _ (Ba l _ (.B 0))) f=BP l f:=λf n m=>by rw[c8 (by rw[Pi g];exact n),FN,if_neg m]
 refine⟨k3,λk hk=>?_,λp hp=>?_⟩
 .rcases k4 k hk with q|q
  .rw [Pi g] at q
   exact ok.RQ k (IG _ q)
  .exact (k2 k q).elim (λe=>e▸ki) (ag.ks k)
 .rcases c9 hp with rfl|rfl|⟨z,rfl⟩|⟨z,rfl⟩|⟨i,li,rfl|rfl⟩
  .have:BP (F9 (Gi l) G.g.BV (Ba l G.C.fs (.B 0))) G.C.fs=H (.B 0):=by rw[c8 (by rw[Pi g];exact λq=>ok.xO (IG _ q)),FN,if_pos rfl]
   rw[this];rfl
  .rw [Gv _ (λq=>ok.WB.2.1 (IG _ q)) ok.WB.2.2]
   exact ag.DE _ hp
  .show (BP _ _).getD _=.B (if G.C.Ew=2 then x.DS else x.E2)
   by_cases t:G.C.t0=0
   .rw [Gv _ (ok.jy z t).1 (ok.jy z t).2,if_neg (λq=>(cR g).mpr q t)]
    exact ag.DE _ hp
   .have:=RW (src:=Gi l) (l:=Ba l G.C.fs (.B 0)) nd (G.C.th,G.C.t0) (by rw[g.BV,if_neg t];simp)
    rw[this,if_pos ((cR g).mp t),(Ph ag (cO t)).2];rfl
  .rw [Gv _ (ok.Tc z).1 (ok.Tc z).2.1]
   exact ag.DE _ hp
  .rw [Gv _ (ok.P_ _ (O5 li)).1 (ok.P_ _ (O5 li)).2]
   exact ag.DE _ hp
  .have:=RW (src:=Gi l) (l:=Ba l G.C.fs (.B 0)) nd _ (by rw[g.BV];exact IG _ (yc ok.Aj li))
   rw[this,(Ph ag (l5 li)).2];rfl
theorem akC(ag:IS G.C l x):IS G.C (F9 (Gi l) (G.g.Bd++G.g.BV) []) (Tq G.C x 0):=by
 have ok:=g.ok;obtain⟨k3,k4⟩:=yD (src:=Gi l) (ps:=G.g.Bd++G.g.BV) (l:=[]) (by simp);have DX:(G.g.Bd++G.g.BV).map (·.1)=G.C.Io++G.C.HS:=by rw[Gg,cP g,Pi g]
 have nd:((G.g.Bd++G.g.BV).map (·.1)).Nodup:=by rw[DX];exact ok.pr
 have Gv:∀f,f∉G.C.Io++G.C.HS->(BP (F9 (Gi l) _ []) f).getD _=.B 0:=λf n=>by rw[c8 (by rw[DX];exact n)];rfl
 refine⟨k3,λk hk=>?_,λp hp=>?_⟩
 .rcases k4 k hk with q|q
  .rw [DX] at q;exact ok.RQ k q
  .cases q
 .rcases c9 hp with rfl|rfl|⟨z,rfl⟩|⟨z,rfl⟩|⟨i,li,rfl|rfl⟩
  .exact Gv _ ok.xO
  .exact Gv _ ok.WB.2.1
  .show (BP _ _).getD _=.B (if G.C.Ew=2 then x.DS else x.E2)
   by_cases t:G.C.t0=0
   .have:=RW (src:=Gi l) (l:=[]) nd (G.C.th,G.C.th) (Im _ (by rw[g.Bd,if_pos t,if_neg z];simp))
    rw[this,if_neg (λq=>(cR g).mpr q t),(Ph ag (akx z)).2];rfl
   .have:=RW (src:=Gi l) (l:=[]) nd (G.C.th,G.C.t0) (IG _ (by rw[g.BV,if_neg t];simp))
    rw[this,if_pos ((cR g).mp t),(Ph ag (cO t)).2];rfl
  .have:=RW (src:=Gi l) (l:=[]) nd (G.C.t0,G.C.t0) (Im _ (by rw[g.Bd,if_neg z];simp))
   rw[this,(Ph ag (cO z)).2];rfl
  .have:=RW (src:=Gi l) (l:=[]) nd _ (Im _ (by rw[g.Bd];exact Im _ (Eh.mpr ⟨_,O5 li,rfl⟩)))
   rw[this,(Ph ag (l5 li)).2];rfl
  .have:=RW (src:=Gi l) (l:=[]) nd _ (IG _ (by rw[g.BV];exact IG _ (yc ok.Aj li)))
   rw[this,(Ph ag (l5 li)).2];rfl
theorem akD:I G.g.Bd<=4/\I G.g.BV<=4:=by
 have n3:=g.ok.n3;have a:=congrArg I (cP g);have b:=congrArg I (Pi g);rw[Ce] at a b;unfold C1.Io at a;unfold C1.HS at b;have e:=g.ok.Aj;constructor
 .rw [a]
  simp only[El];split
  .split<;>simp<;>first|exact n3|exact ye n3
  .simp;assumption
 .rw [b]
  split<;>simp<;>first|exact Cr (BQ e) n3|exact Cr (BQ e) (ye n3)
end
end
def l6:Cb:=match Lc.BL.dr 7 with
 |.AR (.Ay _ s _) _=>s|_=>.AH
def Mz(C:C1)(l:List (Nat×V))(f:V)(t0:Int):List (Nat×V):=if C.Ew=2 then CX (CX (CX l 118 (.B 0)) 121 f) 119 (.B t0) else CX (CX l 118 (.B 0)) 121 f
abbrev Rf(i:Nat)(rf:V)(op:Int)(n:Nat):List T:=[.v (.O 80 0),.v (.O 92 0),.v (.O 85 0),.v (.O 98 0),.v (.B (i+1:Nat)),.v rf,.v (.B op),.AQ,.AQ,.AQ,.v (.B n),.AQ]
theorem l7:Bf (Bf h a b o1) a b o2=Bf h a b o2:=by
 funext k;by_cases e:k=a
 .subst e
  rw[Ji,Ji,Ji,bQ]
 .rw [CZ e,CZ e,CZ e]
section
variable{i a b:Nat}
theorem yf(e2:(h a2)[b2]?=H (.BC l2))(e:(h a)[b]?=H (.BC l))(cS:Bw l 120=H f)(cT:Bw l 102=H (.B t))(k1:k≠120)(k2:k≠102):
  ∃l',(Bf h a2 b2 (.BC (CX l2 k v)) a)[b]?=H (.BC l')/\Bw l' 120=H f/\Bw l' 102=H (.B t):=by
 by_cases z:a=a2/\b=b2
 .obtain ⟨rfl,rfl⟩:=z
  rw[e2] at e;cases e;exact⟨_,GL e2,by rw[GM (FU k1)];exact cS,by rw[GM (FU k2)];exact cT⟩
 .refine ⟨l,?_,cS,cT⟩
  by_cases y:a=a2
  .clear e2;subst y
   exact PS (λq=>z ⟨rfl,q⟩) e
  .rw [CZ y];exact e
theorem yg{n a2 b2:Nat}(M3:(h 98)[0]?=H (.A6 L))(J:Be L (n:Int)=H (.O a2 b2))(e2:(h a2)[b2]?=H (.BC l2))(e:(h a)[b]?=H (.BC l))(cS:Bw l 120=H f)(cT:Bw l 102=H (.B t))(Ip:(h 92)[0]?=H (.BC CE))(cU:Bw CE 22=H (.B C.Ew))
  (cI:a2=73\/a2=77)(hl2:I l2<1000)(k:Ae A5 (AL A5 d) (l6.dr 5) (Rf i (.O a b) op n) (Bf h a2 b2 (.BC (Mz C l2 f t))) F):Ae A5 (AL A5 d) (l6.dr 2) (Rf i (.O a b) op n) h F:=by
 have Jp:98≠a2:=by clear k e2 J;rcases cI with rfl|rfl<;>decide
 have yh:92≠a2:=by clear Jp k e2 J;rcases cI with rfl|rfl<;>decide
 have tr:∀{h1:A0},h1 98=h 98->Ar A5 (AL A5 d) (.AE (.Am 3) (.Am 10)) _ (Rf i (.O a b) op n) h1 _:=λq=>.AE #[] #[] ((F5 (by rw[q];exact M3)).trans J);refine Lh .AO (tr rfl) .AO e2 (DC hl2 rfl) ?_;obtain⟨l',g1,g2,g3⟩:=yf (v:=.B 0) (k:=118) e2 e cS cT () ();have yi:=cA (l:=l2) (k:=118) (v:=.B 0);have l8:=GL (o':=.BC (CX l2 118 (.B 0))) e2;refine Lh (.AE #[] .AO ((DI g1).trans g2)) (tr (CZ Jp)) .AO l8 (By 1 A2 BB 1 BB (.k 1000) AI (.k 100000) A4 [I (CX l2 118 _),I l2] yi hl2) ?_;obtain⟨l'',cV,l9,M5⟩:=yf (v:=f) (k:=121) l8 g1 g2 g3 () ();have akE:=GL (o':=.BC (CX (CX l2 118 (.B 0)) 121 f)) l8;have akF:=cA (l:=CX l2 118 (.B 0)) (k:=121) (v:=f);have Pd:Ar A5 (AL A5 d) (.AE (.Am 1) _) _ (Rf i (.O a b) op n) (Bf (Bf h a2 b2 (.BC (CX l2 118 (.B 0)))) a2 b2 (.BC (CX (CX l2 118 (.B 0)) 121 f))) _:=.AE #[] .AO ((DI (by rw[CZ yh,CZ yh];exact Ip)).trans cU);unfold Mz at k;by_cases z:C.Ew=2
 .rw [if_pos z] at k
  refine DJ (.AS Pd .AO (by simp[z])) ?_;refine Lh (.AE #[] .AO ((DI cV).trans M5)) (tr (by rw[CZ Jp,CZ Jp])) .AO akE (QJ 1 A2 BB 1 A7 Cz 1 Cz (.k 1000) AI (.k 100000) A4 [I (CX _ 121 f),I (CX l2 118 _),I l2] akF yi hl2) (As ?_);rw[l7,l7];exact k
 .rw [if_neg z] at k
  refine BK (.AS Pd .AO (by simp[z])) (As ?_);rw[l7];exact k
theorem akG(g:KO G)(Ai:FP G h C8 fuel ob Ah rows refs)(Bx:refs[i]?=H (.O a b))(hx:rows[i]?=H x)(B8:200<=fuel)(hn:I rows<45)(ho:op=0\/op=1):
  Ae A5 (AL A5 (d+40)) (Lc.BL.dr 4) (Pg i (.O a b) op) h λfl m h'=>O9 G fuel (I rows) fl.Av h':=by
 obtain⟨ab,l,DN,rl⟩:=Ai.Gf Bx hx;obtain⟨fv,Qc,P_⟩:=rl.BA;obtain⟨CE,Ip,cU,_⟩:=Ai.g.u.ex;have lt:i<I rows:=(Dd.mp hx).1;have nr:rows≠[]:=λq=>by rw[q] at lt;exact absurd lt (Mx _)
 have lo:i<I ob:=by rw[Ai.bo.Aj];exact lt
 have hl:ob[i]?=H ob[i]:=DP lo;have ag:=Ai.bo.ag i _ _ hl hx;have JI:=Ai.bo.ln _ (HE hx);have Pe:(h 98)[0]?=H (.A6 (.O 99 0::refs)):=congrArg (·[0]?) Ai.tb.DE;have gl:=akD g;have cL:G.K G.g.fs=H 7:=by rw[g.WL,<-g.fs];exact g.fo.hk
 have hvs:(BP ob[i] G.g.fs).getD (.B 0)=.B x.D5:=by rw[g.WL];exact ag.DE (G.C.fs,Row.D5) D0
 have akH:=rl.Aj;refine BK (.AS (x:=.B op) (y:=.B 7) #[] .AO (by rcases ho with rfl|rfl<;>rfl)) (As ?_);refine BK (.CF (.G8 (.AS (x:=.B op) (y:=.B 4) #[] .AO (by rcases ho with rfl|rfl<;>rfl)) (.GG (.AS (x:=.B op) (y:=.B 5) #[] .AO (by rcases ho with rfl|rfl<;>rfl))))) (As ?_);refine BK (.AS (x:=.B op) (y:=.B 6) #[] .AO (by rcases ho with rfl|rfl<;>rfl)) (As ?_);refine DJ (.AS (x:=.B op) (y:=.B 2) #[] .AO (by rcases ho with rfl|rfl<;>rfl)) ?_;have tail:∀(VO:Nat) (h1:A0) (Iq:List Row) (lA:List V),St G.w h1 (JK G C8 fuel) ob Ah->O8 G h1->Tb h1 Iq lA->CJ h1->(∀x∈Iq,L1 G.f G.B_ x.D5)->I rows<=I Iq->I Iq<=I rows+1->
   (∃KP,Jo G.C G.K KP Iq/\AL A5 (d+40) 78 [.O 85 0,.B G.cH,.B (i+1:Nat)] h1 λv h2=>v=.A3 [.B 2,.B VO]/\(∃k,0<=k/\k<=20/\St G.w h2 ((JK G C8 fuel).C_ k) KP Ah)/\Fr h1 h2)->
   Ae A5 (AL A5 (d+40)) (l6.dr 5) (Rf i (.O a b) op VO) h1 (Fv A5 (AL A5 (d+40)) (Lc.BL.dr 8) λfl m h'=>O9 G fuel (I rows) fl.Av h'):=by
  rintro VO h1 Iq lA CP g1 ku D1 st1 l1 l2 ⟨KP,l0,run⟩;obtain⟨apP,e1,_,WO⟩:=g1.Tn;obtain⟨lm,Tp,_,akI,_⟩:=g1.Mq;refine R6 (ko (wI (Ge (.AR #[] (.AR (.AE (t:=.v (.O 91 0)) (x:=.An 100) (.AE (t:=.v (.O 92 0)) (x:=.An 127) #[] .AO ((DI e1).trans WO)) .AO ((DI Tp).trans akI)) #[])) (DL ?_ run))));rintro v h2 ⟨rfl,⟨k,k0,k1,CG⟩,fr⟩;have E9:FP G h2 C8 (fuel-k) KP Ah Iq lA:=⟨CG,g1.AX (λk hk=>fr.sm k (by revert k;decide)) fr.C3,ku.AX λk hk=>fr.sm k (by revert k;decide),l0,D1.AX (fr.sm _ ()) (fr.sm _ ()),st1⟩;refine DG (Fw #[] (DG (R5 kK (kj ?_))));refine Ge #[] (DL ?_ (bx (d:=d+38) E9.S E9.M E9.g.u g.ok E9.tb E9.bo));rintro v h3 ⟨rfl,Bv⟩;refine DG ⟨rfl,_,_,_,_,_,_,E9.AX Bv (),(Ax 1 A2 (.k 20) (.s A7 (.k 150)) (.s A7 A2) A4 [k,fuel] k1),λq=>?_,(BG 1 A2 BB A2 BB A4 [I Iq,I rows] l2)⟩;rw[q] at l1;exact nr (xd.mp (Nat.le_zero.mp l1))
 have yj:∀p∈G.g.Bd++G.g.BV,(BP ob[i] p.2).getD (.B 0)=.B (Gi ob[i] p.2):=λp hp=>by
  refine akv ag ?_;rcases EY.mp hp with hp|hp
  .rw [yd g p hp]
   have:p.1∈G.g.Bd.map (·.1):=Eh.mpr ⟨p,hp,rfl⟩;rw[cP g] at this;exact g.ok.RQ _ (Im _ this)
  .exact (cQ g p hp).1
 have yk:∀p∈G.g.Bd++G.g.BV,(G.K p.1).isSome/\(G.K p.2).isSome:=λp hp=>by
  have h1:p.1∈(G.g.Bd++G.g.BV).map (·.1):=Eh.mpr ⟨p,hp,rfl⟩;rw[Gg,cP g,Pi g] at h1;refine⟨(g.kk _).mpr (g.ok.RQ _ h1),(g.kk _).mpr ?_⟩;rcases EY.mp hp with hp|hp
  .rw [yd g p hp]
   exact g.ok.RQ _ h1
  .exact (cQ g p hp).1
 have IT:Ar A5 (AL A5 (d+40)) (.AE (.Am 5) (.AO (.An 118))) A1 (Rf i (.O a b) op (i+1)) h (.v (.B x.D5)):=.AE (t:=.v (.O a b)) (x:=.An 118) #[] .AO ((DI DN).trans rl.D5);by_cases z:x.D5=-2
 ·
  refine BK (.AS (x:=.B x.D5) (y:=.B (-2)) IT .AO (by simp[z])) (As ?_);refine yg (l2:=l) (C:=G.C) (L:=.O 99 0::refs) (f:=fv) Pe (by exact Bx) DN DN Qc rl.DS Ip cU ab (DC akH rfl) ?_;have na:∀k,k≠73->k≠77->Bf h a b (.BC (Mz G.C l fv x.DS)) k=h k:=λk p q=>CZ (by clear IT tail DN Bx;rcases ab with rfl|rfl<;>assumption);have WS:=Dw (na _ () ()) (na _ () ());have Vt:Fc h (Mz G.C l fv x.DS) (Tq G.C x x.FA):=by
   unfold Mz Tq;have r1:=(rl.WM 0).yW (v:=fv) (xs:=x.BA) P_;by_cases s:G.C.Ew=2
   .rw [if_pos s,if_pos s];exact r1.yV x.DS
   .rw [if_neg s,if_neg s];exact r1
  have To:=Ai.tb.DA Bx ab DN Vt;have CG:=Ai.S.AX (λk hk=>na k (by revert k;decide) (by revert k;decide)) WS;have g2:=Ai.g.AX (λk hk=>na k (by revert k;decide) (by revert k;decide)) WS;have M2:Md G.w _ (JK G C8 fuel) G.K:=⟨rfl,rfl,by
   obtain⟨l,a,b,c⟩:=g2.Jb;exact⟨97,l,.inr rfl,rfl,a,b,c⟩⟩
  have cM:I (ob[i])<800:=by have:=Vw ag.nd ag.ks;rw[Ce] at this;have h2:I G.C.Eb<20:=GH (BQ (Ce ..)) (C1.bq g.ok.n3);exact By 1 A2 A7 1 BB (.k 20) AI (.k 800) A4 [ob[i].length,I G.C.Eb] this h2
  have Lx:∀p∈G.g.BV,∀p'∈G.g.BV,p.1≠p'.2:=λp hp p' Nb q=>by
   have h1:p.1∈G.g.BV.map (·.1):=Eh.mpr ⟨p,hp,rfl⟩;rw[Pi g] at h1;rcases(cQ g p' Nb).2 with⟨e,t⟩|e
   .exact (g.ok.Tc t).1 (by rw[<-e,<-q];exact h1)
   .exact (g.ok.P_ _ e).1 (by rw[<-q];exact h1)
  refine tail (i+1) _ _ refs CG g2 To (Ai.D.AX (na _ () ()) (na _ () ())) (λx' hx'=>?_) (by rw[La];exact Ds _) (by rw[La];exact Ei A2 AI A4 [I rows]) ⟨_,Ai.bo.P8 (akB g ag) JI.1 JI.1,?_⟩
  .rcases kq hx' with q|rfl
   .exact Ai.st x' q
   .exact g.Re 0 () ()
  .refine DL ?_ (ai6 (d:=d+25) (src:=Gi ob[i]) CG M2 g.kh.symm g.hG cL (λp hp=>yk p (IG _ hp)) g.ob (by show _<=fuel;exact CB 1 (.k 200) A2 1 A7 (.k 4) (.a A7 (.k 8)) A2 A4 [fuel,I G.g.BV] B8 (DM.mpr gl.2)) hl (By 1 AI (.k 800) 1 A7 (.k 4) (.a (.a (.a A2 A7) AF) AF) (.k 900) A4 [ob[i].length,I G.g.BV] cM gl.2) (by rw[hvs,z]) (λp hp=>⟨?_,yj p (IG _ hp)⟩) Lx)
   .rintro v h3 ⟨rfl,CQ,fr⟩
    rw[g.WL] at CQ;exact⟨rfl,⟨_,(Ax 1 AK A2 AK (.a A2 (.k 6)) A4 [I G.g.BV] (CU (I G.g.BV))),(Ax 1 A2 (.k 4) (.a A2 (.k 6)) (.k 20) A4 [I G.g.BV] (DM.mpr gl.2)),CQ⟩,fr⟩
   .rw [g.WL]
    rcases(cQ g p hp).2 with⟨e,t⟩|e
    .rw [e];exact(g.ok.Tc t).2.1
    .exact (g.ok.P_ _ e).2
 ·
  refine DJ (.AS (x:=.B x.D5) (y:=.B (-2)) IT .AO (by simp[z])) ?_;have lr:=Ai.tb.Aj;refine Ea (.Aj (t:=.v (.O 98 0)) (n:=I rows+1) #[] (by rw[IJ Pe];simp[lr])) ?_;have RT:∀{n:Nat} {v:V},Bw l n=H v->Ar A5 (AL A5 (d+40)) (.AE (.Am 5) (.AO (.An n))) A1 (Rf i (.O a b) op (I rows+1)) h (.v v):=λq=>.AE (t:=.v (.O a b)) #[] .AO ((DI DN).trans q);refine Vk (s:=98) (i:=0) rfl Pe (b6 (KD (x:=.An 120) (y:=fv) .AO (RT Qc) (Li (l:=[]) ()) (KD (x:=.An 119) (y:=.B x.E2) .AO (RT rl.E2) (Li (show(1:Nat)<BU by decide)) (KD (x:=.An 102) (y:=.B x.DS) .AO (RT rl.DS) (Li (show(2:Nat)<BU by decide)) (KD (x:=.An 92) (y:=.B 0) .AO .AO (Li (show(3:Nat)<BU by decide)) (b7 (DG ?_)))))));rw[show CX _ 92 (V.B 0)=[(120,fv),(119,.B x.E2),(102,.B x.DS),(92,.B 0)] from rfl];have lB:(Bm h 77 _ 77)[I (h 77)]?=H (.BC [(120,fv),(119,.B x.E2),(102,.B x.DS),(92,.B 0)]):=KG;have lC:∀{j:Nat} {o:A_},(h 77)[j]?=H o->(Bm h 77 (.BC [(120,fv),(119,.B x.E2),(102,.B x.DS),(92,.B 0)]) 77)[j]?=H o:=λq=>RE q;have cW:∀k,k≠77->Bm h 77 (.BC [(120,fv),(119,.B x.E2),(102,.B x.DS),(92,.B 0)]) k=h k:=λk n=>F4 n;have nw:V.O 77 (I (h 77))∉refs:=Ai.tb.H9 rfl;generalize I (h 77)=L4 at lB nw⊢;generalize Bm h 77 _=h1 at lB lC cW⊢;have lD:(h1 98)[0]?=H (.A6 (.O 99 0::refs)):=by rw[cW 98 ()];exact Pe
  refine R8 lD (by unfold BU;simp;exact By 1 A2 A7 1 BB (.k 45) (.a AI AF) (.k 100000) A4 [I refs,I rows] (BQ lr) hn) (As ?_);have lE:Bf h1 98 0 (.A6 ((.O 99 0::refs)++[.O 77 L4])) 98=[.A6 (.O 99 0::(refs++[.O 77 L4]))]:=by rw[Ji,cW 98 (),Ai.tb.DE];rfl
  have Jp:∀k,k≠98->Bf h1 98 0 (.A6 ((.O 99 0::refs)++[.O 77 L4])) k=h1 k:=λk n=>CZ n;generalize Bf h1 98 0 _=h3 at lE Jp⊢;have f3:∀k,k≠98->k≠77->h3 k=h k:=λk a b=>by rw[Jp k a,cW k b]
  have yl:(h3 77)[L4]?=H (.BC [(120,fv),(119,.B x.E2),(102,.B x.DS),(92,.B 0)]):=by rw[Jp _ ()];exact lB
  have akJ:(h3 a)[b]?=H (.BC l):=by
   clear RT IT tail Bx;rcases ab with rfl|rfl
   .rw [f3 _ () ()];exact DN
   .rw [Jp _ ()];exact lC DN
  refine yg (a2:=77) (b2:=L4) (C:=G.C) (f:=fv) (congrArg (·[0]?) lE) (by rw[Lw,jr,JT (BG 1 A2 A7 A2 A7 A4 [I refs,I rows] (BQ lr)),lr,RP];rfl) yl akJ Qc rl.DS (by rw[f3 92 () ()];exact Ip) cU (.inr rfl) (show(4:Nat)<1000 by decide) ?_;have n4:∀k,k≠77->Bf h3 77 L4 (.BC (Mz G.C [(120,fv),(119,.B x.E2),(102,.B x.DS),(92,.B 0)] fv x.DS)) k=h3 k:=λk n=>CZ n;have ym:(Bf h3 77 L4 _ 77)[L4]?=H (.BC (Mz G.C [(120,fv),(119,.B x.E2),(102,.B x.DS),(92,.B 0)] fv x.DS)):=GL yl;have yo:∀{j:Nat} {o:A_},j≠L4->(h 77)[j]?=H o->(Bf h3 77 L4 (.BC (Mz G.C [(120,fv),(119,.B x.E2),(102,.B x.DS),(92,.B 0)] fv x.DS)) 77)[j]?=H o:=λn q=>PS n (by rw[Jp _ ()];exact lC q);generalize Bf h3 77 L4 _=h4 at n4 ym yo⊢;have f4:∀k,k≠98->k≠77->h4 k=h k:=λk a b=>by rw[n4 k b,f3 k a b]
  have ii:∀k∈[71,74,76],h4 k=h k:=λk hk=>f4 k (by revert k;decide) (by revert k;decide);have akK:Fc h4 (Mz G.C [(120,fv),(119,.B x.E2),(102,.B x.DS),(92,.B 0)] fv x.DS) (Tq G.C x 0):=by
   have cX:=P_.AX ii;unfold Mz Tq;by_cases s:G.C.Ew=2
   .rw [if_pos s,if_pos s]
    exact⟨(show(6:Nat)<50 by decide),rfl,rfl,rfl,rfl,⟨_,rfl,cX⟩,⟨_,rfl,cX⟩⟩
   .rw [if_neg s,if_neg s]
    exact⟨(show(6:Nat)<50 by decide),rfl,rfl,rfl,rfl,⟨_,rfl,cX⟩,⟨_,rfl,cX⟩⟩
  have akL:=Ai.tb.RY (by rw[n4 98 ()];exact lE) ⟨77,L4,_,rfl,.inr rfl,ym,akK⟩ (λr hr x' ra=>by
   obtain⟨a',b',l',rfl,WT,g',WR⟩:=ra;refine⟨a',b',l',rfl,WT,?_,WR.AX ii⟩;rcases WT with rfl|rfl
   .rw [f4 _ () ()];exact g'
   .exact yo (λq=>nw (by rw[<-q];exact hr)) g') nw
  have WU:EU 0 h h4:=Dw (f4 _ () ()) (f4 _ () ());have CT:=Ai.S.AX (h2:=h4) (λk hk=>f4 k (by revert k;decide) (by revert k;decide)) WU;have cV:=Ai.g.AX (h2:=h4) (λk hk=>f4 k (by revert k;decide) (by revert k;decide)) WU;have Jl:Md G.w h4 (JK G C8 fuel) G.K:=⟨rfl,rfl,by
   obtain⟨l,a,b,c⟩:=cV.Jb;exact⟨97,l,.inr rfl,rfl,a,b,c⟩⟩
  refine tail (I rows+1) h4 _ _ CT cV akL (Ai.D.AX (f4 _ () ()) (f4 _ () ())) (λx' hx'=>?_) (by simp) (by simp) ⟨_,Ai.bo.RY (akC g ag) JI.1 JI.1 (DC hn rfl),?_⟩
  .rcases EY.mp hx' with q|q
   .exact Ai.st x' q
   .cases EK.mp q
    exact g.Re 0 () ()
  .refine DL ?_ (ai7 (d:=d+25) (src:=Gi ob[i]) CT Jl g.kh.symm g.hG cL yk g.ob (by show _<=fuel;exact QG 1 (.k 200) A2 1 A7 (.k 4) 1 Aa (.k 4) (.a (.a A7 Aa) (.k 8)) A2 A4 [fuel,I G.g.Bd,I G.g.BV] B8 (DM.mpr gl.1) (DM.mpr gl.2)) hl (by rw[Ai.bo.Aj];exact DC hn rfl) (By 1 A2 (.k 4) 1 A7 (.k 4) (.a (.a A2 A7) AF) (.k 900) A4 [I G.g.Bd,I G.g.BV] gl.1 gl.2) hvs z yj)
   rintro v h5 ⟨rfl,Dj,fr⟩;refine⟨by rw[Ai.bo.Aj],⟨_,(CB 1 AK A2 1 AK A7 AK (.a (.a A2 A7) (.k 5)) A4 [I G.g.Bd,I G.g.BV] (CU (I G.g.Bd)) (CU (I G.g.BV))),(CB 1 A2 (.k 4) 1 A7 (.k 4) (.a (.a A2 A7) (.k 5)) (.k 20) A4 _ (DM.mpr gl.1) (DM.mpr gl.2)),Dj⟩,fr⟩
end
def Rg(ps:List (Int×V))(l:List (Int×V)):List (Int×V):=ps.foldl (λl p=>Ba l p.1 p.2) l
theorem akM:∀{l:List (Int×V)},f∉ps.map (·.1)->BP (Rg ps l) f=BP l f:=by
 induction ps with
 |nil=>exact λx=>rfl|cons p ps ih=>
  intro l n;rw[Hw,D4,not_or] at n;show BP (Rg ps (Ba l p.1 p.2)) f=_;rw[ih n.2,FN,if_neg n.1]
theorem akN:∀{l:List (Int×V)},(ps.map (·.1)).Nodup->∀p∈ps,BP (Rg ps l) p.1=H p.2:=by
 induction ps with
 |nil=>exact λx p hp=>nomatch hp
 |cons q ps ih=>
  intro l nd p hp;rw[Hw,SN] at nd;rcases D4.mp hp with rfl|hp
  .rw [akM nd.1,FN,if_pos rfl]
  .exact ih nd.2 p hp
theorem akO:∀{l:List (Int×V)},(l.map (·.1)).Nodup->((Rg ps l).map (·.1)).Nodup/\∀a∈(Rg ps l).map (·.1),a∈ps.map (·.1)\/a∈l.map (·.1):=by
 induction ps with
 |nil=>exact λnd=>⟨nd,λa ha=>.inr ha⟩|cons p ps ih=>
  intro l nd;obtain⟨a,b⟩:=WE (k:=p.1) (v:=p.2) nd;obtain⟨c,e⟩:=ih a;refine⟨c,λx hx=>?_⟩;rcases e x hx with q|q
  .exact .inl (DV _ q)
  .clear hx;rcases b x q with rfl|q
   .exact .inl D0
   .exact .inr q
def yp:Cb:=match Lc.BL.dr 5 with
 |.AR (.Ay _ s _) _=>s|_=>.AH
def akP:Cb:=match yp.dr 4 with
 |.AR (.Cm _ _ _ _ b) _=>b|_=>.AH
section
variable{op:Int}
def WV(d:Nat)(r:List T)(rest:Cb)(j n:Nat)(F:DB->List T->A0->Prop):T->A0->Prop:=λt h1=>opt t.Av λx=>Az A5 (AL A5 d) (.Am j) A1 r h1 λu h2=>Az A5 (AL A5 d) (.AO (.An n)) A1 r h2 λw h3=>opt w.Av λkv=>match u with
  |.v (.O s i)=>match(h3 s)[i]?,kv with
   |some (.A6 l),.B n=>0<=n/\n.toNat<I l/\Ae A5 (AL A5 d) rest r (Bf h3 s i (.A6 (l.set n.toNat x))) F|some (.A6 _),_=>False|some o,kv=>opt (Ef A5.AM o kv x) λo'=>Ae A5 (AL A5 d) rest r (Bf h3 s i o') F|none,_=>False
  |_=>False
theorem cY{j n:Nat}(z:Az A5 (AL A5 d) e A1 r h (WV d r rest j n F)):Ae A5 (AL A5 d) (.AR (.Cv (.Am j) (.AO (.An n)) e) rest) r h F:=b5 z
theorem c_{j n:Nat}{v:V}{l:List (Nat×V)}(p:BD r j=.v (.O a b))(el:(h a)[b]?=H (.BC l))(ln:I l<1000)(k:Ae A5 (AL A5 d) rest r (Bf h a b (.BC (CX l n v))) F):WV d r rest j n F (.v v) h:=
 show Ae A5 (AL A5 d) (.AR (.Cv (.Am j) (.AO (.An n)) (.AO v)) rest) r h F from Lh .AO (.Am p) .AO el (DC ln rfl) k
theorem akQ{Ac:List Nat}{es:Dg}{vs:List V}{f:Nat}(p:I1 A5 (AL A5 d) es r h vs)(z:AL A5 d f vs h λx h1=>∃l,E4 h1 x=H (.Ad l)/\I l<64/\(l.all λp=>(Rx p.2).isSome)=U/\∀l':List (Int×V),l'.Perm l->GN A5 (AL A5 d) body Ac (λy=>True) (Fv A5 (AL A5 d) rest F) (l'.map λp=>.A3 [.B p.1,p.2]) r h1):
  Ae A5 (AL A5 d) (.AR (.Cm Ac .Ci (.Q5 (.Ab f es)) (.AO .AV) body) rest) r h F:=by
 refine p.go _ (DL ?_ z);rintro x h1 ⟨l,DN,ln,al,k⟩;refine⟨_,rfl,?_⟩;simp only[DN];refine⟨ln,al,λl' p=>⟨_,rfl,_,rfl,λy y=>rfl,?_⟩⟩;have e:Fv A5 _ rest F=λfl r1 h1=>(match fl with|.B0=>Ae A5 (AL A5 d) rest r1 h1 F|.Ag v=>F (.Ag v) r1 h1):=funext λfl=>by cases fl<;>rfl
 have k:=k l' p;rw[e] at k;have st:(λh'=>Gl h' .Ci (.Al _) .AV (l'.map λp=>V.A3 [.B p.1,p.2]))=λy=>True:=funext λh'=>eq_true rfl;rw[st];exact k
theorem akR:∀(ps:List (Int×V)) {h:A0} {ob:List (List (Int×V))} {l:List (Int×V)} {C6 BF:T},St w h s ob Ah->ob[i]?=H l->I l+I ps<1000->
  (∀h2 C6 BF,St w h2 s (ob.set i (Rg ps l)) Ah->Bs [60] h h2->F .B0 [.v (.O 80 0),.v (.O 92 0),.v (.O 85 0),.v (.O 98 0),.v (.B (i+1:Nat)),t5,ED,Cn,C6,BF,Bj,EI] h2)->
  GN A5 (AL A5 d) akP [8,9] (λy=>True) F (ps.map λp=>.A3 [.B p.1,p.2]) [.v (.O 80 0),.v (.O 92 0),.v (.O 85 0),.v (.O 98 0),.v (.B (i+1:Nat)),t5,ED,Cn,C6,BF,Bj,EI] h:=by
 intro ps;induction ps with
 |nil=>
  intro h ob l C6 BF S hl ln k;exact Jj trivial (k h C6 BF (by rw[bY hl];exact S) (Bs.BO _ _))
 |cons p ps ih=>
  intro h ob l C6 BF S hl ln k;have lt:=(Dd.mp hl).1;have m:=S.m;refine JB (r':=[.v _,.v _,.v _,.v _,.v _,t5,ED,Cn,.v _,.v p.2,Bj,EI]) trivial rfl ?_;have tp:Ar A5 (AL A5 d) (.AE (.Am 2) (.AO (.An 106))) A1 [.v (.O 80 0),.v (.O 92 0),.v (.O 85 0),.v (.O 98 0),.v (.B (i+1:Nat)),t5,ED,Cn,.v (.B p.1),.v p.2,Bj,EI] h (.v (.O 86 0)):=by decreasing_trivial
  have pl:=KH (l:=l) (k:=p.1) (v:=p.2);refine Mm (i:=i) #[] (.AE (x:=.B (i+1:Nat)) tp #[] (jN S.Vz (Ei (.a AK AF) AI A4 [i]) (BG 1 AI A7 AI A7 A4 [i,I ob] lt))) #[] (S.Dh hl) (BG 1 (.a (.a A2 BB) AF) (.k 1000) AI (.k 100000) A4 [I l,I ps] ln) (Gd ?_);refine ih (S.obj) (LS lt) (By 1 A2 BB 1 (.a (.a A7 Cz) AF) (.k 1000) (.a (.a A2 Aa) AF) (.k 1000) A4 [I (Ba l ..),I l,I ps] pl ln) λh2 C6 BF CG sm=>k h2 C6 BF ?_ ((Nq ()).Aw sm);rw[TU] at CG;exact CG
theorem akS(a:0<=op)(b:op<8):op=7\/op=6\/(op=2\/op=3)\/(op=0\/op=1)\/(op=4\/op=5):=by
 have q:∀n:Nat,n<8->(n:Int)=7\/(n:Int)=6\/((n:Int)=2\/(n:Int)=3)\/((n:Int)=0\/(n:Int)=1)\/((n:Int)=4\/(n:Int)=5):=by decide
 rw[<-S6 a] at b⊢;exact q _ (Kf.mp b)
theorem akT(ag:IS C l x)(n3:I C.BA<=3):I l<20:=by have:=Vw ag.nd ag.ks;have h2:=C1.bq n3;unfold C1.Eb at this;rw[Ce,Ce] at this;exact By 1 A2 A7 1 BB (.k 20) AI (.k 20) A4 [I l,I C.CD] this h2
theorem akU(ag:IS C l x)(ok:Jm C)(p:l'.Perm (HR C.CD x')):IS C (Rg l' l) x':=by
 have kp:(l'.map (·.1)).Perm C.Eb:=by have:=p.map (·.1);rw[xP] at this;exact this
 have nd:=kp.nodup_iff.mpr ok.nd;obtain⟨k1,k2⟩:=akO (ps:=l') ag.nd;refine⟨k1,λk hk=>(k2 k hk).elim (λq=>kp.mem_iff.mp q) (ag.ks k),λq hq=>?_⟩;have m:=p.mem_iff.mpr (Eh.mpr ⟨q,hq,rfl⟩);rw[akN nd _ m];rfl
structure M6(G:Rd)(C8:V)(fuel:Int)(ob:List (List (Int×V)))(Ah:List V)(refs:List V)(a b:Nat)(h:A0)(rows:List Row)(l:List (Nat×V))(x:Row):Prop where
 S:St G.w h (JK G C8 fuel) ob Ah
 g:O8 G h
 tb:Tb h rows refs
 DN:(h a)[b]?=H (.BC l)
 rl:Fc h l x
 D:CJ h
section
variable(ab:a=73\/a=77)
include ab
theorem M6.B5(Ec:M6 G C8 fuel ob Ah refs a b h rows BE x)(Bx:refs[i]?=H (.O a b))(r:Fc h l2 x2):M6 G C8 fuel ob Ah refs a b (Bf h a b (.BC l2)) (rows.set i x2) l2 x2:=by have na:∀{o:A_} (k:Nat),k≠73->k≠77->Bf h a b o k=h k:=λk p q=>CZ (by clear Ec Bx;rcases ab with rfl|rfl<;>assumption);exact⟨Ec.S.AX (λk hk=>na k (by revert k;decide) (by revert k;decide)) (Dw (na _ () ()) (na _ () ())),Ec.g.AX (λk hk=>na k (by revert k;decide) (by revert k;decide)) (Dw (na _ () ()) (na _ () ())),Ec.tb.DA Bx ab Ec.DN r,GL Ec.DN,r.AX λk hk=>na k (by revert k;decide) (by revert k;decide),Ec.D.AX (na _ () ()) (na _ () ())⟩
theorem M6.I0(Ec:M6 G C8 fuel ob Ah refs a b h rows BE x)(sm:Bs [80] h h2)(D:CJ h2):M6 G C8 fuel ob Ah refs a b h2 rows BE x:=
 have C3:=Dw (sm _ ()) (sm _ ())
 ⟨Ec.S.AX (λk hk=>sm k (by revert k;decide)) C3,Ec.g.AX (λk hk=>sm k (by revert k;decide)) C3,Ec.tb.AX λk hk=>sm k (by revert k;decide),by rw[sm a (by clear Ec sm;rcases ab with rfl|rfl<;>decide)];exact Ec.DN,Ec.rl.AX λk hk=>sm k (by revert k;decide),D⟩
theorem M6.akV(Ec:M6 G C8 fuel ob Ah refs a b h rows BE x){xs:List Int}:M6 G C8 fuel ob Ah refs a b (Bm h 76 (.A6 (xs.map V.B))) rows BE x:=by
 have nn:∀{o:A_} (k:Nat),k≠76->Bm h 76 o k=h k:=λk n=>F4 n;have WV:∀{l:List _} {x:Row},Fc h l x->Fc _ l x:=λr=>
  have z:∀{v:V} {ys:List Int},Lz h v ys->Lz (Bm h 76 (.A6 (xs.map V.B))) v ys:=by
   rintro v ys ⟨a,b,rfl,q,g⟩;refine⟨a,b,rfl,q,?_⟩;rcases q with rfl|rfl|rfl
   .exact g
   .exact g
   .exact RE g
  ⟨r.Aj,r.D5,r.FA,r.E2,r.DS,r.BA.imp λv q=>⟨q.1,z q.2⟩,r.CS.imp λv q=>⟨q.1,z q.2⟩⟩
 exact⟨Ec.S.AX (λk hk=>nn k (by revert k;decide)) (Dw (nn _ ()) (nn _ ())),Ec.g.AX (λk hk=>nn k (by revert k;decide)) (Dw (nn _ ()) (nn _ ())),⟨(nn _ ()).trans Ec.tb.DE,Ec.tb.Aj,λj r y hr hy=>by
  obtain⟨a',b',l',rfl,WT,g',WR⟩:=Ec.tb.Gf j r y hr hy;exact⟨a',b',l',rfl,WT,by rw[nn _ (by clear g' hr;rcases WT with rfl|rfl<;>decide)];exact g',WV WR⟩,Ec.tb.nd⟩,by rw[nn _ (by clear Ec;rcases ab with rfl|rfl<;>decide)];exact Ec.DN,WV Ec.rl,Ec.D.AX (nn _ ()) (nn _ ())⟩
end
theorem yq{x0 y:Row}{yr:List (Nat×V)}{l:List (Int×V)}(g:KO G)(Ai:FP G h C8 fuel ob Ah rows refs)(Bx:refs[i]?=H (.O a b))(hx:rows[i]?=H x0)(hl:ob[i]?=H l)(ag:IS G.C l x0)(ab:a=73\/a=77){h6:A0}(Ec:M6 G C8 fuel ob Ah refs a b h6 (rows.set i y) yr y)(hy:L1 G.f G.B_ y.D5)(l1:I y.BA=I G.C.BA)(l2:I y.CS=I G.C.BA):
  Ae A5 (AL A5 (d+40)) (yp.dr 3) (Pg i (.O a b) op) h6 (Fv A5 (AL A5 (d+40)) (Lc.BL.dr 6) λfl c h'=>O9 G fuel (I rows) fl.Av h'):=by
 refine cY (Ge #[] (DL ?_ (Mw Ec.D ())));rintro v h7 ⟨w_,rfl,_,_,WW,W6⟩;have OA:=Ec.I0 ab W6 WW;refine c_ rfl OA.DN (DC OA.rl.Aj rfl) ?_;have L5:=OA.B5 ab Bx (OA.rl.akh w_);rw[bQ] at L5;generalize CX yr 92 _=DK at L5⊢;refine akQ #[] (DL ?_ (xT L5.g.u g.ok ⟨a,b,DK,rfl,ab,L5.DN,L5.rl⟩ l1 l2));rintro v h9 ⟨ks,rfl,sp⟩;have yt:=C1.bq g.ok.n3;refine⟨_,sp.DE,by rw[Ce];exact DC yt rfl,?_,λl' pm=>?_⟩
 .rw [Gm]
  intro p hp;obtain⟨q,_,rfl⟩:=Eh.mp hp;rfl
 .have yu:=Dw (sp.sm _ ()) (sp.sm _ ())
  have akW:=L5.g.AX (λk hk=>sp.sm k (by revert k;decide)) yu;have akX:=L5.tb.AX λk hk=>sp.sm k (by revert k;decide);have akY:=L5.D.AX (sp.sm _ ()) (sp.sm _ ());have ll:=pm.length_eq;unfold HR at ll;rw[Ce] at ll;refine akR l' (L5.S.AX (λk hk=>sp.sm k (by revert k;decide)) yu) hl (QJ 1 AI (.k 20) 1 A7 Aa 1 Cz (.k 20) (.a (.a A2 A7) AF) (.k 1000) A4 [I l,I l',I G.C.CD] (akT ag g.ok.n3) (BQ ll) yt) λsE C6 BF ak0 Tr=>?_;refine ET #[] ⟨rfl,C8,fuel,_,Ah,_,refs,⟨ak0,akW.AX (λk hk=>Tr k (by revert k;decide)) (Dw (Tr _ ()) (Tr _ ())),akX.AX λk hk=>Tr k (by revert k;decide),Ai.bo.P8 (akU ag g.ok pm) l1 l2,akY.AX (Tr _ ()) (Tr _ ()),λz hz=>?_⟩,(Co (.s A2 (.k 150)) A2 A4 [fuel]),λq=>?_,by rw[La];exact SO _⟩
  .rcases kq hz with q|rfl
   .exact Ai.st z q
   .exact hy
  .have:=congrArg I q
   rw[La] at this;exact absurd (Dd.mp hx).1 (this▸Mx _)
theorem ak1(g:KO G)(Ai:FP G h C8 fuel ob Ah rows refs)(Bx:refs[i]?=H (.O a b))(hx:rows[i]?=H x)(B8:200<=fuel)(hn:I rows<45)(ho:op=4\/op=5):
  Ae A5 (AL A5 (d+40)) (Lc.BL.dr 4) (Pg i (.O a b) op) h λfl c h'=>O9 G fuel (I rows) fl.Av h':=by
 obtain⟨ab,l,DN,rl⟩:=Ai.Gf Bx hx;have lo:i<I ob:=by rw[Ai.bo.Aj];exact(Dd.mp hx).1
 have hl:=DP lo;have ag:=Ai.bo.ag i _ _ hl hx;have JI:=Ai.bo.ln _ (HE hx);have n3:=g.ok.n3;have Ec:M6 G C8 fuel ob Ah refs a b h rows l x:=⟨Ai.S,Ai.g,Ai.tb,DN,rl,Ai.D⟩;refine BK (.AS #[] .AO (by rcases ho with rfl|rfl<;>rfl)) (As ?_);refine DJ (.CF (by
  rcases ho with rfl|rfl
  .exact .Nl #[] rfl
  .exact .G8 #[] (.GG #[]))) ?_
 obtain⟨CE,e1,ak2,_⟩:=Ai.g.Tn;have yv:Ar A5 (AL A5 (d+40)) (.AE (.Am 1) _) A1 (Pg i (.O a b) op) h _:=.AE #[] .AO ((DI e1).trans ak2);have kg:=List.length_pos_iff.mpr g.kc;refine cY (wH (Fw yv (Ge (.AR #[] (.AR (.Aj yv (by rw[IJ Ai.g.KN,Ce])) .AH)) (DL ?_ (Mw Ai.D (Ax 1 (.a AK AF) A2 (.a AK AF) A2 A4 [I G.KN] (DM.mpr kg)))))));rintro v h1 ⟨kv,rfl,k0,k1,D1,I4⟩;obtain⟨k,rfl⟩:=Ov k0;have kl:=(DM.mp (Ax 1 AI A7 AI A7 A4 [k,I G.KN] k1));have cg:=Ec.I0 ab I4 D1;refine DG (R5 ((F5 cg.g.KN).trans (RS kl)) (c_ rfl cg.DN (DC rl.Aj rfl) ?_));have Pj:=g.st _ (O5 kl);generalize G.KN.getD k 0=sv at Pj⊢;have U2:=cg.B5 ab Bx (cg.rl.WM sv);generalize CX l 118 _=l2 at U2⊢;obtain⟨wv,ew,wa,wb,rfl,yw,lF⟩:=U2.rl.CS;refine cY (xy (i:=6) (l:=x.CS.map V.B) () (by clear lF ew;rcases yw with rfl|rfl|rfl<;>decide) (.AE #[] .AO ((DI U2.DN).trans ew)) lF U2.D (by rw[Ce,JI.2];exact DC (HT n3) rfl) λxs h3 lx hxs Gw Bv=>?_);rw[Ce,JI.2] at lx;have Tt:=(U2.I0 ab Bv Gw).akV ab (xs:=xs);have i4:Lz (Bm h3 76 (.A6 (xs.map V.B))) (.O 76 (I (h3 76))) xs:=⟨76,_,rfl,.inr (.inr rfl),KG⟩;generalize Bm h3 76 _=h4 at Tt i4⊢;refine c_ rfl Tt.DN (DC Tt.rl.Aj rfl) ?_;have Rh:=Tt.B5 ab Bx (Tt.rl.yW i4);rw[bQ] at Rh;generalize Bf h4 a b _=h5 at Rh⊢;generalize CX l2 121 _=apQ at Rh⊢;clear Tt U2 i4 Gw Bv lF ew yw;obtain⟨apR,f1,cD,_⟩:=Rh.g.u.ex;have Pd:Ar A5 (AL A5 (d+40)) (.AE (.Am 1) _) A1 (Pg i (.O a b) op) h5 _:=.AE #[] .AO ((DI f1).trans cD);by_cases z:G.C.Ew=2
 .refine DJ (.AS Pd .AO (by simp[z])) ?_
  refine cY (Ge #[] (DL ?_ (Mw Rh.D ())));rintro v h7 ⟨th,rfl,_,_,WW,W6⟩;have OA:=Rh.I0 ab W6 WW;refine c_ rfl OA.DN (DC OA.rl.Aj rfl) (As ?_);have L5:=OA.B5 ab Bx (OA.rl.yV th);rw[bQ] at L5;exact yq g Ai Bx hx hl ag ab L5 Pj JI.1 lx
 .exact BK (.AS Pd .AO (by simp[z])) (As (yq g Ai Bx hx hl ag ab Rh Pj JI.1 lx))
theorem ak3{a b:E}{op:LI}(k:Az A5 (AL A5 d) a A1 r h λt h1=>Az A5 (AL A5 d) b A1 r h1 λu h2=>opt (Jz A5.AM op t u) λy=>Cp m Q y h2):Az A5 (AL A5 d) (.C9 op a b) m r h Q:=k
theorem ak4(g:KO G)(Ai:FP G h C8 fuel ob Ah rows refs)(B8:200<=fuel)(hn:I rows<45)(nr:rows≠[]):AL A5 (d+41) 85 [.O 80 0,.O 92 0,.O 85 0,.O 98 0] h λv h2=>O9 G fuel (I rows) v h2:=by
 have Pe:(h 98)[0]?=H _:=congrArg (·[0]?) Ai.tb.DE;have lr:=Ai.tb.Aj;have rp:=List.length_pos_iff.mpr nr;refine FJ rfl rfl rfl ?_;refine R7 (ak3 (Fw .AO (Ge (vs:=[.O 80 0,.B (I rows)]) (.AR #[] (.AR (.C9 (.Aj (n:=I rows+1) #[] (by rw[IJ Pe];simp[lr])) .AO ?_) .AH)) (DL ?_ (Mw Ai.D (Ax 1 (.a AK AF) A2 (.a AK AF) A2 A4 [I rows] (DM.mpr rp)))))))
 .show H _=_
  congr 3;exact En (Co (.s AI AF) A2 A4 [I rows]) (Co A2 (.s AI AF) A4 [I rows])
 .rintro v h1 ⟨y,rfl,y0,y1,D1,I4⟩
  obtain⟨i,rfl⟩:=Ov y0;have li:=Kf.mp y1;refine R5 (x:=T.v (.B (i+1:Nat))) (congrArg (λx=>H (T.v (V.B x))) (Int.add_comm 1 i)) ?_;have My:FP G h1 C8 fuel ob Ah rows refs:=⟨Ai.S.AX (λk hk=>I4 k (by revert k;decide)) (Dw (I4 _ ()) (I4 _ ())),Ai.g.AX (λk hk=>I4 k (by revert k;decide)) (Dw (I4 _ ()) (I4 _ ())),Ai.tb.AX λk hk=>I4 k (by revert k;decide),Ai.bo,D1,Ai.st⟩;have ak5:i<I refs:=(By 1 AI A7 1 A7 Aa AI Aa A4 [i,I rows,I refs] li (BQ lr.symm));have Bx:=DP ak5;have hx:=DP li;have lD:(h1 98)[0]?=H _:=congrArg (·[0]?) My.tb.DE;refine Ea (.AE #[] #[] ((F5 lD).trans (by exact Bx))) ?_;refine I2 #[] (DL ?_ (Mw D1 ()));rintro v h2 ⟨op,rfl,yx,yy,D2,Lo⟩;have E9:FP G h2 C8 fuel ob Ah rows refs:=⟨My.S.AX (λk hk=>Lo k (by revert k;decide)) (Dw (Lo _ ()) (Lo _ ())),My.g.AX (λk hk=>Lo k (by revert k;decide)) (Dw (Lo _ ()) (Lo _ ())),My.tb.AX λk hk=>Lo k (by revert k;decide),Ai.bo,D2,Ai.st⟩;refine b5 (wN (.A6 .AH) rfl () (DG (Fw #[] (Fw .AO (DG ?_)))));have nn:∀{o:A_} (k:Nat),k≠75->Bm h2 75 o k=h2 k:=λk n=>F4 n;have m3:HM (Bm h2 75 (.A6 [])) _ _:=(nn _ ()).trans E9.S.m;have yz:(Bm h2 75 _ 75)[I (h2 75)]?=H (.A6 []):=KG;simp only[b9 m3];refine R5 (Li (show(13)<BU by decide)) ?_;rw[show CX _ 108 _=JC _ (JK G _ fuel) from rfl,jS m3];generalize I (h2 75)=Qx at yz⊢;have n4:∀k,k≠75->k≠85->C7 (Bm h2 75 (.A6 [])) G.w.c (JK G (.O 75 Qx) fuel) k=h2 k:=λk a b=>by rw[FM b,nn k a]
  have z0:(C7 (Bm h2 75 (.A6 [])) G.w.c (JK G (.O 75 Qx) fuel) 75)[Qx]?=H (.A6 []):=by exact yz
  have m4:HM (C7 (Bm h2 75 (.A6 [])) _ _) G.w.c (JK G (.O 75 Qx) fuel):=rfl;generalize C7 _ _ _=h4 at n4 z0 m4⊢;have WU:=Dw (n4 _ () ()) (n4 _ () ());have CT:St G.w h4 _ ob []:={
   m:=m4
   th:=(n4 86 () ()).trans E9.S.th
   IK:=(n4 60 () ()).trans E9.S.IK
   JF:=⟨75,Qx,rfl,.inr rfl,z0⟩
   fl:=E9.S.fl.imp λFx f=>f.AX (n4 89 () ()) WU
   fn:=λmid b q=>⟨(E9.S.fn mid b q).1,(E9.S.fn mid b q).2.1.AX λk hk=>n4 k (by revert k;decide) (by revert k;decide),(E9.S.fn mid b q).2.2⟩
   ml:=E9.S.ml}
  have Tu:FP G h4 _ fuel ob [] rows refs:=⟨CT,E9.g.AX (λk hk=>n4 k (by revert k;decide) (by revert k;decide)) WU,E9.tb.AX λk hk=>n4 k (by revert k;decide) (by revert k;decide),Ai.bo,D2.AX (n4 _ () ()) (n4 _ () ()),Ai.st⟩;obtain⟨ra,rb,_,ak6,_⟩:=Tu.tb.Gf i _ _ Bx hx;rw[ak6] at Bx⊢;have ops:=akS yx yy;clear yy yx;rcases ops with rfl|rfl|ho|ho|ho
  .exact aki g Tu B8 hn _
  .exact akj g Tu Bx hx B8 hn
  .exact akp g Tu Bx hx B8 hn ho
  .exact akG g Tu Bx hx B8 hn ho
  .exact ak1 g Tu Bx hx B8 hn ho
end
theorem z3:∀{r:List T} {i:Nat} {t:T},i<I r->BD (Cq r i t) i=t
 |x::r,0,t,_=>rfl|x::r,i+1,t,l=>z3 (r:=r) (by simpa using l)
theorem OB:∀{r:List T} {i j:Nat} {t:T},j≠i->BD (Cq r i t) j=BD r j
 |[],_,_,_,_=>rfl|x::r,0,0,t,n=>absurd rfl n|x::r,0,j+1,t,_=>rfl|x::r,i+1,0,t,_=>rfl|x::r,i+1,j+1,t,n=>OB (r:=r) λq=>n (by rw[q])
theorem z4(p:I1 A5 (AL A5 d) es r h vs)(k:AL A5 d f vs h λv h2=>v=.Au U/\Ae A5 (AL A5 d) rest r h2 F):Ae A5 (AL A5 d) (.AR (.Ay (.NH (.Ab f es)) s1 .AH) rest) r h F:=by
 have e:Fv A5 _ rest F=λfl r1 h1=>(match fl with|.B0=>Ae A5 (AL A5 d) rest r1 h1 F|.Ag v=>F (.Ag v) r1 h1):=funext λfl=>by cases fl<;>rfl
 refine⟨rfl,p.go _ (DL ?_ k)⟩;rintro v h2 ⟨rfl,k⟩;exact⟨U,rfl,k⟩
theorem ak7(k:HB A5 (AL A5 d) es r h λvs h1=>Cp m Q (.Al vs) h1):Az A5 (AL A5 d) (.A6 es) m r h Q:=k
def ak8:Cb:=match Di.BL.dr 37 with
 |.AR (.Cm _ _ _ _ b) _=>b|_=>.AH
theorem ak9(Vr:∀h,ok h)(g:KO G):∀(us:List V) {h:A0} {C8:V} {fuel:Int} {ob:List (List (Int×V))} {Ah:List V} {rows:List Row} {refs:List V} {r:List T},BD r 2=.v (.O 80 0)->BD r 33=.v (.O 92 0)->BD r 18=.v (.O 85 0)->BD r 38=.v (.O 98 0)->FP G h C8 fuel ob Ah rows refs->rows≠[]->200*(I us:Int)<=fuel->I rows+I us<45->
  (∀r h,F .B0 r h)->GN A5 (AL A5 (d+41)) ak8 [39] ok F us r h:=by
 intro BE;induction BE with
 |nil=>
  rintro h C8 fuel ob Ah rows refs r r2 Tv Tw z5 Ai nr B8 ln k;exact Jj (Vr _) (k ..)
 |cons u us ih=>
  rintro h C8 fuel ob Ah rows refs r r2 Tv Tw z5 Ai nr B8 ln k;refine JB (Vr _) rfl ?_;have B7:BD (Cq r 39 (.v u)) 2=.v _:=(OB ()).trans r2;have WX:BD (Cq r 39 (.v u)) 33=.v _:=(OB ()).trans Tv;have WY:BD (Cq r 39 (.v u)) 18=.v _:=(OB ()).trans Tw;have W_:BD (Cq r 39 (.v u)) 38=.v _:=(OB ()).trans z5;refine z4 (.AR (.Am B7) (.AR (.Am WX) (.AR (.Am WY) (.AR (.Am W_) .AH)))) (DL ?_ (ak4 g Ai (CB 1 (.m 200 AI) A7 200 AK A2 (.k 200) A7 A4 [I us,fuel] B8 (CU _)) (BG 1 (.a (.a A2 BB) AF) (.k 45) AI (.k 45) A4 [I rows,I us] ln) nr));rintro v h2 ⟨rfl,apS,fuel2,KP,yY,WN,cC,E9,f2,ala,ln2⟩;exact⟨rfl,Gd (ih B7 WX WY W_ E9 ala (CB 1 (.s A2 (.k 150)) A7 1 (.m 200 Cz) A2 (.m 200 Aa) A7 A4 [fuel,fuel2,I us] f2 B8) (By 1 A2 BB 1 (.a (.a A7 Cz) AF) (.k 45) (.a (.a A2 Aa) AF) (.k 45) A4 [I WN,I rows,I us] ln2 ln) k)⟩
theorem alb(g:KO G)(P:Pre G.w h ml (.O 97 0) C8 4000 [] [])(alc:O8 G h)(D:CJ h)(z6:h 98=[])(ald:h 99=[])(Wa:(h 79)[0]?=H (.A6 nums))(ln:I nums<=40)(rl:I r=40)
  (r1:BD r 1=.v (.O 79 0))(r2:BD r 2=.v (.O 80 0))(Tv:BD r 33=.v (.O 92 0))(Tw:BD r 18=.v (.O 85 0)):
  Ae A5 (AL A5 (d+42)) (Di.BL.dr 35) r h λfl y h'=>fl.Av=.Au U:=by
 refine R7 ⟨rfl,rfl,?_⟩;refine ak7 (Ii (b3 (DG (Vj ⟨(show 1<BU by decide),?_⟩))));rw[show I (h 99)=0 by rw[ald];rfl,show I (Bm h 99 _ 98)=0 by rw[F4 (),z6];rfl];have n2:∀k,k≠99->k≠98->Bm (Bm h 99 (Gk .id)) 98 (.A6 [.O 99 0]) k=h k:=λk a b=>by rw[F4 b,F4 a]
 have O7:Bm (Bm h 99 (Gk .id)) 98 (.A6 [.O 99 0]) 98=[.A6 [.O 99 0]]:=by rw[Vf,F4 (),z6];rfl
 generalize Bm _ 98 _=h2 at n2 O7⊢;have C3:=Dw (n2 _ () ()) (n2 _ () ());have P2:Pre G.w h2 ml _ C8 4000 [] []:=⟨(n2 _ () ()).trans P.DE,P.out,P.ajN,P.Aj,P.yE,λh3 s2 e ale m l=>P.st h3 s2 (λk hk n=>(e k hk n).trans (n2 k (by revert k;decide) (by revert k;decide))) (C3.Aw ale) m l⟩;have Tz:=alc.AX (λk hk=>n2 k (by revert k;decide) (by revert k;decide)) C3;have D2:=D.AX (n2 _ () ()) (n2 _ () ());have tb:Tb h2 [] []:=⟨O7,rfl,(λi r x hr=>nomatch hr),V4⟩;have bo:Jo G.C G.K [] []:=⟨rfl,(λi l x hl=>nomatch hl),(λx hx=>nomatch hx),g.kk,by decide⟩;have B7:BD (Cq r 38 (.v (.O 98 0))) 2=.v _:=(OB ()).trans r2;have WX:BD (Cq r 38 (.v (.O 98 0))) 33=.v _:=(OB ()).trans Tv;have WY:BD (Cq r 38 (.v (.O 98 0))) 18=.v _:=(OB ()).trans Tw;have P6:BD (Cq r 38 (.v (.O 98 0))) 1=.v _:=(OB ()).trans r1;have W_:BD _ 38=.v (.O 98 0):=z3 (BG 1 (.k 40) A2 (.a (.k 38) AF) A2 A4 [I r] (BQ rl.symm));refine z4 (.AR (.Am B7) (.AR (.Am WX) (.AR (.Am WY) (.AR (.Am W_) .AH)))) (DL ?_ (yM P2 D2 Tz.u Tz.us g.ok g.mo Tz.fa Tz.Hp (Tz.Jb.imp λl q=>⟨rfl,q⟩) tb bo () ()));rintro v h3 ⟨rfl,xs,th,cC,k,lx,k0,W3,CQ,alf,Gw,sm⟩;refine⟨rfl,?_⟩;have alg:FP G h3 C8 _ _ [] ..:=⟨CQ,Tz.AX (λk hk=>sm k (by revert k;decide)) (Dw (sm _ ()) (sm _ ())),alf,bo.RY (kI g.ok g.mo lx) lx (by rw[Ce];exact lx) (),Gw,λx hx=>by
  cases EK.mp hx;exact g.Re (-2) () ()⟩
 have alh:(h3 79)[0]?=H (.A6 nums):=by rw[sm 79 (),n2 79 () ()];exact Wa
 have CE:(6+I nums/5)<=14:=Oq (Nat.div_le_div_right (c:=5) ln) 6;refine Nm (t:=.v (.B ((6+I nums/5:Nat)))) (.C9 (u:=.v (.B ((I nums/5:Nat)))) .AO (.C9 (.Aj (.Am P6) (IJ alh)) .AO rfl) rfl) .AO (TJ (BG 1 (.a (.k 6) A2) (.k 14) (.a (.a (.k 6) A2) AF) (.k 1000) A4 [I nums/5] CE)) (λy q=>nomatch q) ?_;refine ak9 (λh=>?_) g _ B7 WX WY W_ alg (by simp) ?_ ?_ λr h=>ET .AO rfl
 .exact trivial
 .rw [PT,Ce,List.length_range'];exact CB 1 A2 (.k 10) 200 (.a (.k 6) A7) (.k 14) (.m 200 (.a (.k 6) A7)) (.s (.k 4000) A2) A4 [k,↑(I nums/5)] W3 (DM.mpr CE)
 .rw [PT];simp;exact BG 1 (.a (.k 6) A2) (.k 14) (.a (.a AF (.a (.k 6) A2)) AF) (.k 45) A4 [I nums/5] CE
def EO(k:Nat)(l:List Nat):Bool:=List.rec (motive:=λx=>Bool) A1 (λa x ih=>Bool.rec (motive:=λx=>Bool) ih U (Ct k a)) l
def ali:List Nat:=[1,2,3,4,5,6,7,8,9,10,11,12,13,14,15,16,17,18,19,20,21,22,23,24,25,26,27,28,29,30,31,32,33,34,35,36,37,38,39,40,41,42,43,44,45,46,47,48,49,50,51,52,53,54,55,56,57,58,59,60,61,62,63,64,65,66,67,68,69,70,71,72,73,74,75,76,77,78,81,82,83,84,85,86,87,88,89,90,91,92,93,94,95,96,97,98,99]
def Fy(e:List Nat):List Nat:=List.rec (motive:=λx=>List Nat) [] (λa x ih=>Bool.rec (motive:=λx=>List Nat) (a::ih) ih (EO a e)) ali
theorem lG(m:k∈l):EO k l=U:=by
 induction l with
 |nil=>exact absurd m Hz|cons a l ih=>
  show Bool.rec (EO k l) U _=U;cases e:Ct k a with
  |true=>rfl|false=>exact ih ((D4.mp m).resolve_left (VX e))
theorem lH(m:EO k l=U):k∈l:=by
 induction l with
 |nil=>exact absurd m nofun|cons b kp ih=>
  have m:Bool.rec (EO k kp) U _=U:=m;cases e:Ct k b with
  |true=>exact D4.mpr (.inl (HC e))|false=>rw[e] at m;exact DV _ (ih m)
theorem cj(e:EO j l=A1)(m:k∈l):k≠j:=λz=>QI ((lG (z▸m)).symm.trans e)
def HU(kp:List Nat)(h0 h:A0):Prop:=CJ h/\h 79=h0 79/\∀k∈kp,h k=h0 k
def Eo(kp:List Nat):Ga:=λk=>Bool.rec (motive:=λx=>Bool) U A1 (EO k (79::80::kp))
theorem lI(e:Eo kp s=U)(m:k∈79::80::kp):k≠s:=λz=>by unfold Eo at e;rw[<-z,lG m] at e;cases e
theorem alj(base:∀h,HU kp h0 h->KQ h)(dr:∀h,KQ h->CJ h)(n:EO 80 kp=A1):Gs KQ (HU kp h0) (Eo kp) where
 DA:=λh s l e j=>by
  have z7:=lI e (D0);have OC:=lI e (DV _ D0);have q:∀k,k≠s->DA h s l k=h k:=λk n=>by unfold DA;rw[if_neg n]
  exact⟨j.1.AX (q _ z7) (q _ OC),(q _ z7).trans j.2.1,λk m=>(q _ (lI e (DV _ (DV _ m)))).trans (j.2.2 k m)⟩
 PG:=base
 I0:=λh l j q=>⟨dr _ q,(j.2.1),λk m=>by
  have:k≠80:=λz=>by rw[<-z,lG m] at n;cases n
  unfold DA;rw[if_neg this];exact j.2.2 k m⟩
inductive z8:List V->Prop
 |mk (s i:Nat) (c:Int):z8 [.O s i,.B c]
theorem alk(z:(jI w vs h).CD P):z8 vs:=by
 cases vs with
 |nil=>exact z.elim|cons a vs=>cases a with
  |O s i=>cases vs with
   |nil=>exact z.elim|cons a vs=>cases a with
    |B k=>cases vs with
     |nil=>exact .mk ..|cons a vs=>exact z.elim
    |_=>exact z.elim
  |_=>exact z.elim
theorem z9(Aq:Gs KQ AU w)(dr:∀h,KQ h->CJ h)(up:∀h l,KQ h->CJ (DA h 80 l)->KQ (DA h 80 l))(j:AU h)(x:(jI w vs h).CD (λr h'=>AU h'->Q r h')):AL A5 (d+11) 71 vs h Q:=by
 obtain⟨nums,a,e1,e2,a0⟩:=dr _ (Aq.PG h j);obtain⟨s,i,c⟩:=alk x
 .obtain ⟨b,y⟩:=B9.DY x
  obtain⟨c0,z⟩:=B9.DY y;clear x y;rw[Gq] at b;obtain⟨b1,b2⟩:=b;cases HC b1;cases HC b2;rw[e2] at z;refine xu e1 e2 a0.1 (of_decide_eq_true c0) λv v0 v1=>?_;have x:∀v,0<=v->v<c->B9.CD (λr h'=>AU h'->Q r h') (B9.ok ..):=z
  have:=x v v0 v1;rw[T4] at this;exact this (Aq.I0 _ _ j (up _ _ (Aq.PG h j) ⟨nums,_,(if_neg ()).trans e1,if_pos rfl,(Ax 1 AK A2 AK AI A4 [a] a0.1),a0.2⟩))
def FQ:ah:=λf=>Bool.rec AB (H jI) (Ct f 71)
theorem KR:Ve CJ FQ:=λf t e AU w Aq d vs h Q j x=>by
 unfold FQ at e;cases q:Ct f 71 with
 |false=>rw[q] at e;cases e
 |true=>
  rw[q] at e;cases e;cases HC q;exact z9 Aq (λy x=>x) (λy y y x=>x) j x
def dA(a:Int):Nat×List A_:=(80,[.BC [(103,.O 79 0),(24,.B a)]])
theorem At.AR(e:h k=o)(a:At l h):At ((k,o)::l) h:=List.forall_mem_cons.mpr ⟨e,a⟩
theorem alm(e:(l.map X7).map h=l.map Rr):At l h:=by
 induction l with
 |nil=>exact λx m=>absurd m Hz|cons q l ih=>exact At.AR (UC e).1 (ih (UC e).2)
theorem At.Bl(a:At l h)(b:At l' h):At (l++l') h:=λp m=>(EY.mp m).elim (a p) (b p)
def lk(k:Nat)(l:List (Nat×List A_)):Option (List A_):=List.rec (motive:=λx=>Option (List A_)) AB (λp x ih=>Bool.rec (motive:=λx=>Option (List A_)) ih (H p.2) (Ct k p.1)) l
theorem D9{k:Nat}{o:List A_}{l:List (Nat×List A_)}(a:At l h)(e:lk k l=H o):h k=o:=by
 induction l with
 |nil=>exact absurd e nofun|cons p l ih=>
  have e:Bool.rec (lk k l) _ _=H o:=e;cases q:Ct k p.1 with
  |true=>
   rw[q] at e;rw[HC q];exact(a p D0).trans (BR e)
  |false=>
   rw[q] at e;exact ih (λq m=>a q (DV _ m)) e
theorem At.I7(a:At l h)(x:(l'.map λp=>lk p.1 l)=(l'.map λp=>H p.2)):At l' h:=by
 induction l' with
 |nil=>exact λy m=>absurd m Hz|cons q l' ih=>exact At.AR (D9 a (UC x).1) (ih (UC x).2)
theorem At.AX(a:At l h0)(j:∀k∈kp,h k=h0 k):At (l.filter λp=>EO p.1 kp) h:=λp m=>(j p.1 (lH (Se.mp m).2)).trans (a p (Se.mp m).1)
theorem At.kp{kp:List Nat}(a:At l h0)(j:HU kp h0 h):At (l.filter λp=>EO p.1 kp) h:=a.AX j.2.2
theorem L6(oo:Ve KQ ov)(dr:∀h,KQ h->CJ h)(base:∀h2,HU kp h h2->KQ h2){S bs:List Nat}{R:Fs->List (List A_)->Prop}
  (j:CJ h)(a:At BE h)(lb:∀a,h 80=(dA a).2->ES hb (dA a::l)=h)(OC:EO 80 kp=A1)(pos:(bs.all λb=>Nj 0 b)=U)
  (x:∀a,∀ds∈Ml bs,∃ps fl os,(EL A5 (Ev ov A5 d) (s.tk n) (Eo kp) r (ES hb (dA a::l))).DF S bs ds=H (ps,fl,os)/\(∀p∈ps,p)/\R fl os)
  (k:∀fl os h1,R fl os->S.map h1=os->At (BE.filter λp=>EO p.1 kp) h1->HU kp h h1->Fs.rec (motive:=λy=>Prop) (λr1=>Ae A5 (AL A5 d) (s.dr n) r1 h1 Q) (λv=>∀r1,Q (.Ag v) r1 h1) fl):Ae A5 (AL A5 d) s r h Q:=by
 obtain⟨_,ad,_,zA,_⟩:=id j;rw[w9 n];refine w5 (jJ oo d) _ _ _ (alj base dr OC) r h _ ?_ ⟨j,rfl,λy y=>rfl⟩;refine B9.wD (l:=S) _ bs pos λds m=>?_;obtain⟨ps,fl,os,e,n,q⟩:=x ad ds m;rw[lb ad zA] at e;refine⟨(ps,fl,os),e,n,λh1 e1 Dc=>?_⟩
 have:=k fl os h1 q e1 (At.kp a Dc) Dc;cases fl with
 |B0 r1=>exact this|Ag v=>exact this
theorem Pk{S:List Nat}{os:List (List A_)}(e:S.map h=os):At (S.zip os) h:=by
 subst e;induction S with
 |nil=>exact λx m=>absurd m Hz|cons a S ih=>exact At.AR rfl ih
theorem L7(a:At l h)(ad:Int)(e:h 80=(dA ad).2):ES h (dA ad::l)=h:=wE (At.AR e a)
theorem ck(oo:Ve KQ ov)(dr:∀h,KQ h->CJ h)(base:∀h2,HU kp h h2->KQ h2)(lo:List (Nat×List A_))(n:Nat)(r1:List T)
  (j:CJ h)(a:At l h)(OC:EO 80 kp=A1)
  (x:∀a,(EL A5 (Ev ov A5 d) (s.tk n) (Eo kp) r (ES h (dA a::l))).DF (lo.map X7) [] []=H ([],.B0 r1,lo.map Rr))
  (k:∀h1,CJ h1->At (lo++l.filter λp=>EO p.1 kp) h1->HU kp h h1->Ae A5 (AL A5 d) (s.dr n) r1 h1 Q):Ae A5 (AL A5 d) s r h Q:=
 L6 (bs:=[]) (R:=λfl os=>fl=.B0 r1/\os=lo.map _) oo dr base j a (L7 a) OC rfl
  (λa ds m=>by rw[EK.mp m];exact⟨[],_,_,x a,(λy m=>nomatch m),rfl,rfl⟩)
  (λfl os h1 r e FD Dc=>by
   obtain⟨rfl,rfl⟩:=r;exact k h1 Dc.1 ((alm e).Bl FD) Dc)
theorem KS:∀h,CJ h->CJ h:=λy x=>x
theorem U'{S:List Nat}{os:List (List A_)}(n:Nat)
  (j:CJ h)(al:At l h)(OC:EO 80 kp=A1)(lJ:At BE h)
  (x:∀a,(EL A5 (Ev FQ A5 d) (s.tk n) (Eo kp) r (ES h (dA a::l))).DF S [] []=H ([],.B0 r1,os))
  (k:∀h1,CJ h1->At (S.zip os++BE.filter λp=>EO p.1 kp) h1->HU kp h h1->Ae A5 (AL A5 d) (s.dr n) r1 h1 Q):Ae A5 (AL A5 d) s r h Q:=
 L6 (bs:=[]) (R:=λfl os'=>fl=.B0 r1/\os'=os) KR KS (λy x=>x.1) j lJ (L7 al) OC rfl
  (λa ds m=>by rw[EK.mp m];exact⟨[],_,_,x a,(λy m=>nomatch m),rfl,rfl⟩)
  (λfl os' h1 r e FD Dc=>by
   clear x;obtain⟨rfl,rfl⟩:=r;exact k h1 Dc.1 ((Pk e).Bl FD) Dc)
theorem aln{α:Type}{P:List α->Prop}{l:List α}(h:I l<=0)(p:P []):P l:=by
 cases l with
 |nil=>exact p|cons a l=>exact absurd h (Nat.not_succ_le_zero _)
theorem lc{α:Type}{n:Nat}{P:List α->Prop}{l:List α}(h:I l<=n+1)(p:P [])(q:∀a l,I l<=n->P (a::l)):P l:=by
 cases l with
 |nil=>exact p|cons a l=>exact q a l (Nat.le_of_succ_le_succ h)
theorem MC{n k:Nat}{P:Nat->Prop}(h:k<n+1)(p:P 0)(q:∀k,k<n->P (k+1)):P k:=by
 cases k with
 |zero=>exact p|succ k=>exact q k (zB h)
theorem nz{P:Nat->Prop}(h:k<1)(p:P 0):P k:=MC h p λk h=>absurd h (Mx k)
@[elab_as_elim] theorem zC{α:Type}{P:List α->Prop}{l:List α}(h:I l<=2)(p0:P [])(p1:∀a,P [a])(p2:∀a b,P [a,b]):P l:=lc h p0 λa l h=>lc (P:=λl=>P _) h (p1 a) λb l h=>aln (P:=λl=>P (a::b::l)) h (p2 a b)
@[elab_as_elim] theorem HV{α:Type}{P:List α->Prop}{l:List α}(h:I l<=3)(p0:P [])(p1:∀a,P [a])(p2:∀a b,P [a,b])(p3:∀a b c,P [a,b,c]):P l:=lc h p0 λa l h=>zC h (p1 a) (p2 a) (p3 a)
@[elab_as_elim] theorem I8{P:Nat->Prop}{n:Nat}(h:n<2)(p0:P 0)(p1:P 1):P n:=MC h p0 λk h=>nz (P:=λk=>P (k+1)) h p1
@[elab_as_elim] theorem GP{P:Nat->Prop}{n:Nat}(h:n<3)(p0:P 0)(p1:P 1)(p2:P 2):P n:=MC h p0 λk h=>I8 h p1 p2
@[elab_as_elim] theorem apT{P:Nat->Nat->Nat->Prop}{w g s:Nat}(hw:w<2)(hg:g<2)(hs:s<3)(a:P 0 0 0)(b:P 0 0 1)(c:P 0 0 2)(d:P 0 1 0)(e:P 0 1 1)(f:P 0 1 2)(a':P 1 0 0)(b':P 1 0 1)(c':P 1 0 2)(d':P 1 1 0)(e':P 1 1 1)(f':P 1 1 2):P w g s:=
 I8 hw (I8 hg (GP hs a b c) (GP hs d e f)) (I8 hg (GP hs a' b' c') (GP hs d' e' f'))
@[elab_as_elim] theorem L8{P:Nat->Prop}{n:Nat}(h:n<4)(p0:P 0)(p1:P 1)(p2:P 2)(p3:P 3):P n:=MC h p0 λk h=>GP h p1 p2 p3
abbrev Fd:=Int×Int×Option (List Int)
def U0(p:Fd):V:=.A3 (.B p.1::.B p.2.1::match p.2.2 with|none=>[]|some a=>[.A3 (a.map .B)])
def alo(p:Fd):List EJ:=.B p.1::.B p.2.1::match p.2.2 with|none=>[]|some a=>[.A3 a]
def alp(p:Fd):V:=.B (match p.2.2 with|some (_::_)=>2|_=>1)
def alq(p:Fd):V:=.B (match p.2.2 with|some a=>1+I a|none=>1)
def lK(p:Fd):V:=.B (match p.2.2 with|some a=>(a.any λx=>decide (16<=x)).toNat|none=>(decide (6<=p.1)).toNat)
def LA:List Fd:=(Ey 16).map λ(n:Nat)=>(1,(n:Int),AB)
def GC(ex:List Fd):List (Nat×List A_):=[(30,[.CK 0 [(0,.O 1 0),(1,.O 2 0),(2,.O 3 0),(3,.O 4 0),(4,.O 5 0)]]),(1,[.A6 ((LA++ex).map U0)]),(2,[.Ff (((LA++ex).map alo).zip ((Ey (16+I ex)).map λ(n:Nat)=>V.B n))]),
 (3,[.A6 ((LA++ex).map alp)]),(4,[.A6 ((LA++ex).map alq)]),(5,[.A6 ((LA++ex).map lK)])]
def U1:List (Nat×List A_):=[1,2,3,4,5,6,7,8,9,10,11,12,13,14,15,16,17,18,19,20,21,22,23,24,25,26,27,28,29,30,31,32,33,34,35,36,37,38,39,40,41,42,43,44,45,46,47,48,49,50,51,52,53,54,55,56,57,58,59,60,61,62,63,64,65,66,67,68,69,70,71,72,73,74,75,76,77,78,81,82,83,84,85,86,87,88,89,90,91,92,93,94,95,96,97,98,99].map λk=>(k,[])
def lM:List (Nat×List A_):=GC []++[(7,[.A6 []]),(10,[.A6 [.AV]]),(11,[.A6 [.AV]]),(12,[.Ad []]),(13,[.CK 1 [(0,.O 7 0)]]),(14,[.Ad []]),(15,[.Ad []]),(16,[.Ad []]),(31,[.A6 [.AV]]),(32,[.A6 [.AV]]),(33,[.A6 [.AV]]),(34,[.Ff []]),(35,[.A6 []]),
 (81,[.CK 9 [(61,.O 30 0),(62,.O 31 0),(63,.O 32 0),(40,.O 33 0),(64,.O 34 0),(65,.O 35 0),(66,.B 0)]]),(82,[.CK 4 [(25,.O 81 0),(26,.B 0),(27,.O 10 0),(28,.O 11 0),(29,.O 12 0),(30,.O 13 0),(31,.O 14 0),(32,.O 15 0),(33,.O 16 0)]])]
def zD:List Nat:=Fy [1,2,3,4,5,7,10,11,12,13,14,15,16,30,31,32,33,34,35,81,82]
def r2:List T:=[.AQ,.v (.O 79 0),.v (.O 80 0)]++E3 37 .AQ
def cK:List T:=[.AQ,.v (.O 79 0),.v (.O 80 0),.v (.O 81 0),.v (.O 30 0),.v (.O 82 0)]++E3 34 .AQ
theorem alr(D:CJ h)(a:At U1 h)(k:∀h1,CJ h1->At (lM++U1.filter λp=>EO p.1 zD) h1->Ae A5 (AL A5 (d+50)) (Di.BL.dr 5) (t0::cK.tail) h1 Q):Ae A5 (AL A5 (d+50)) (Di.BL.dr 2) (t0::r2.tail) h Q:=
 ck KR KS (λy x=>x.1) lM 3 _ D a rfl (λa=>#v[]) (λh1 D1 a1 y=>k h1 D1 a1)
def Dk{α:Type}(n:Nat)(x:List α):List α:=match n with|0=>[]|_=>x
def N1(s:Nat):Int:=match s with|0=>17|_=>18
def Pn(s:Nat):Int:=N1 s+1
def Ir(s:Nat):Int:=match s with|0=>-1|_=>17
def als(s:Nat):Int:=match s with|2=>3|_=>2
def zE(w s:Nat):List Fd:=(6,0,AB)::(Dk s [(als s,64,H (Dk w [16]))]++[(2,35,H [7]),(7,0,AB)])
def Wb:V:=.A3 [.B 0,.A3 []]
def CG:List Nat:=[1,2,3,4,5,8,9,10,12,17,19,20,21,22,23,24,25,26,27,28,29,62,63,64,65,66,67,81]
def lN:List Nat:=Fy [1,2,3,4,5,8,9,10,12,17,19,20,21,22,23,24,25,26,27,28,29,62,63,64,65,66,67,81]
def GQ(th ret body:V):A_:=.CK 3 [(14,.B 1),(15,.B 2),(16,.O 8 0),(17,.O 9 0),(18,th),(19,ret),(20,body),(21,.B 0),(22,.B 0),(23,.B (-1)),(24,.B 0)]
def cu(w g s:Nat):List (List A_):=((GC (zE w s)).tail.map Rr)++[[.A6 []],[.A6 []],[.A6 [.AV,.O 17 0]],[.Ad [(2,.B 1)]],[GQ (.B (Ir s)) (.B (N1 s)) .AV],
 [.A6 []],[.A6 (Dk w [.An 112])],[.A6 (Dk w [.B 0])],[.A6 (Dk w [Wb])],[.A6 []],[.A6 [.B 2]],[.A6 []],[.A6 []],[.A6 []],[.A6 []],[.A6 []],[.A6 (E3 64 .AV++[.O 63 0])],
 [.CK 5 [(34,.B 64),(8,.An 111),(22,.B (match s with|2=>2|_=>1)),(10,.B 0),(35,.B (-1)),(36,.O 19 0),(17,.O 20 0),(37,.O 21 0),(38,.O 22 0),(39,.O 23 0),(40,.O 24 0),(26,.B 0),(41,.B 0),(42,.B (-1)),(43,.O 25 0),(44,.O 26 0),(45,.O 27 0),(46,.B 0),(47,.B 0)]],
 [.CK 7 [(15,.B 2),(11,.B 64),(8,.An 113),(49,.B 6),(10,.B 0),(51,.B g),(52,.O 65 0),(53,.O 66 0),(19,.B 0),(17,.A3 []),(54,.A3 []),(55,.A3 []),(20,.AV),(56,.B 0)]],
 [.A6 (Dk g [.An 114])],[.A6 (Dk g [Wb])],[.A6 [.AV,.AV,.O 64 0]],[.CK 9 [(61,.O 30 0),(62,.O 62 0),(63,.O 32 0),(40,.O 67 0),(64,.O 34 0),(65,.O 35 0),(66,.B 0)]]]
def M7(w g s:Nat):List Int:=[7,13]++Dk w [16]++Dk g [Pn s]
def Po(w g s:Nat)(t:T):List T:=[.v (.O 80 0),.v (.O 82 0),.v (.O 81 0),.v (.O 30 0),.v (.B w),.v (.B g),.v (.B s),.v (.A3 ((Dk w [(16:Int)]).map .B)),.v (.O 64 0),.v (.O 17 0),.Al ((M7 w g s).map .B),t]
def cy:List (Nat×List A_):=lM++U1.filter λp=>EO p.1 zD
def zF:List T:=[.v (.O 80 0),.v (.O 82 0),.v (.O 81 0)]++E3 9 .AQ
theorem Ri{P:List Int->Prop}{b:Nat}{bs:List Nat}(x:∀v,v<b->∀ds∈Ml bs,P (Dl v::ds)):∀ds∈Ml (b::bs),P ds:=λds m=>by obtain⟨v,a,m⟩:=wA.mp m;obtain⟨_,m2,rfl⟩:=Eh.mp m;exact x v (Xh.mp a) _ m2
theorem N2{P:List Int->Prop}(x:P []):∀ds∈Ml [],P ds:=λds m=>by rw[EK.mp m];exact x
def lO(h:A0)(d:Nat)(a:Int)(w g s:Nat):=(EL A5 (Ev FQ A5 (d+49)) (Sw.BL.tk 16) (Eo lN) zF (ES h (dA a::cy))).DF CG [2,2,3] [Dl w,Dl g,Dl s]
abbrev P4(h:A0)(d:Nat)(a:Int)(w g s:Nat):Prop:=lO h d a w g s=H ([],.B0 (Po w g s .AQ),cu w g s)
theorem alu(hw:w<2)(hg:g<2)(hs:s<3)(a:Int):P4 h d a w g s:=‹wgs hw hg hs›
theorem alv(D:CJ h)(a:At cy h)(k:∀w g s h1,w<2->g<2->s<3->CJ h1->At (CG.zip (cu w g s)++cy.filter λp=>EO p.1 lN) h1->Ae A5 (AL A5 (d+49)) (Sw.BL.dr 16) (Po w g s .AQ) h1 Q):Ae A5 (AL A5 (d+49)) Sw.BL zF h Q:=
 L6 (R:=λfl os=>∃w g s,w<2/\g<2/\s<3/\fl=.B0 (Po w g s _)/\os=cu w g s) KR KS (λy x=>x.1) D a (L7 a) rfl rfl
  (λa=>Ri λw hw=>Ri λg hg=>Ri λs hs=>N2 ⟨[],_,_,alu hw hg hs a,(λy m=>nomatch m),w,g,s,hw,hg,hs,rfl,rfl⟩)
  (λfl os h1 r e FD Dc=>by
   obtain⟨w,g,s,hw,hg,hs,rfl,rfl⟩:=r;exact k w g s h1 hw hg hs Dc.1 ((Pk e).Bl FD))
theorem zG{Ac:List Nat}{es:Dg}{vs:List V}{f:Nat}(p:I1 A5 (AL A5 d) es r h vs)(z:AL A5 d f vs h λv h1=>∃n:Nat,n<1000/\v=.B n/\GN A5 (AL A5 d) body Ac (λx=>True) (Fv A5 (AL A5 d) rest F) (Ho 0 n) r h1):
  Ae A5 (AL A5 d) (.AR (.Cm Ac .DU (.Ab f es) (.AO .AV) body) rest) r h F:=by
 refine p.go _ (DL ?_ z);rintro t h1 ⟨n,ln,rfl,k⟩;refine⟨_,rfl,_,TJ ln,λx q=>(nomatch q),?_⟩;have e:Fv A5 _ rest F=λfl r1 h1=>(match fl with|.B0=>Ae A5 (AL A5 d) rest r1 h1 F|.Ag v=>F (.Ag v) r1 h1):=funext λfl=>by cases fl<;>rfl
 rw[e] at k;exact k
def Wc:List Nat:=[8,9,11,18]
def cz:List Nat:=Fy [8,9,11,18]
def Wd(p:Nat×Int):A_:=.CK 2 [(7,.B p.1),(8,.An 101),(9,.B p.2),(10,.B 1),(11,.B 1),(12,.B (-1)),(13,.B 0)]
def EW:Nat->List Nat
 |0=>[]|1=>[0]|2=>[0,1]|_=>[0,1,2]
def Iu(n:Nat):List V:=(EW n).map λ(k:Nat)=>.B (k+1)
def lP(n:Nat):List V:=.AV::(EW n).map λk=>.O 18 k
def U3(ks:List Int):List (List A_):=[[.A6 (Iu (I ks))],[.A6 (Iu (I ks))],[.A6 (lP (I ks))],(((EW (I ks)).map (·+1)).zip ks).map Wd]
def OD:A_:=.CK 4 [(25,.O 81 0),(26,.B 0),(27,.O 10 0),(28,.O 11 0),(29,.O 12 0),(30,.O 13 0),(31,.O 14 0),(32,.O 15 0),(33,.O 16 0)]
def lQ(th ret:V)(ks:List Int):List (Nat×List A_):=Wc.zip (U3 ks)++[(10,[.A6 [.AV,.O 17 0]]),(17,[GQ th ret .AV]),(82,[OD])]
def zH:Cb:=match Sw.BL.dr 16 with
 |.AR (.Cm _ _ _ _ b) _=>b|_=>.AH
def alw(w g s:Nat)(v:Nat):Int:=(M7 w g s).getD (v%I (M7 w g s)) 0
def alx(s:Nat)(th ret:V)(h:A0)(d:Nat)(a:Int)(w g v:Nat)(ks:List Int):=(EL A5 (Ev FQ A5 (d+49)) (zH.tk 1) (Eo cz) (Po w g s (.v (.B (I ks)))) (ES h (dA a::lQ th ret ks))).DF Wc [4] [Dl v]
abbrev Yu(s:Nat)(th ret:V)(h:A0)(d:Nat)(a:Int)(w g v:Nat)(ks:List Int):Prop:=alx s th ret h d a w g v ks=H ([],.B0 (Po w g s (.v (.B (I ks)))),U3 (ks++[alw w g s v]))
theorem aly{th ret:V}(hw:w<2)(hg:g<2)(hv:v<4)(hk:I ks<3)(a:Int):Yu s th ret h d a w g v ks:=by
 let P:=λw g v=>∀ks:List Int,I ks<=2->Yu s th ret h d a w g v ks
 have k:P w g v:=I8 hw (I8 hg (L8 hv ‹k2› ‹k2› ‹k2› ‹k2›) (L8 hv ‹k2› ‹k2› ‹k2› ‹k2›)) (I8 hg (L8 hv ‹k2› ‹k2› ‹k2› ‹k2›) (L8 hv ‹k2› ‹k2› ‹k2› ‹k2›));exact k ks (Mv hk)
theorem alz{th ret:V}(hw:w<2)(hg:g<2){h0:A0}{d:Nat}{F:DB->List T->A0->Prop}
  (alA:h0 10=[.A6 [.AV,.O 17 0]])(alB:h0 17=[GQ th ret .AV])(alC:h0 82=[OD])
  (k:∀ks h1 t,I ks<=3->(∀x∈ks,x∈M7 w g s)->CJ h1->At (Wc.zip (U3 ks)) h1->HU cz h0 h1->F .B0 (Po w g s t) h1):
  ∀(m:Nat) (ks:List Int) (h:A0) (t:T),I ks+m<=3->(∀x∈ks,x∈M7 w g s)->CJ h->At (Wc.zip (U3 ks)) h->HU cz h0 h->GN A5 (AL A5 (d+49)) zH [11] (λz=>True) F ((Ll (I ks) m).map λ(k:Nat)=>V.B k) (Po w g s t) h:=by
 intro m;induction m with
 |zero=>exact λks h t le o D at_ Dc=>Jj trivial (k ks h t le o D at_ Dc)|succ m ih=>
  intro ks h t le o D at_ Dc;refine JB (r':=Po w g s (.v (.B _))) trivial rfl ?_;have at2:At (lQ th ret ks) h:=at_.Bl (λp m=>by
   rcases D4.mp m with rfl|m
   .exact (Dc.2.2 10 ()).trans alA
   rcases D4.mp m with rfl|m
   .exact (Dc.2.2 17 ()).trans alB
   cases EK.mp m;exact(Dc.2.2 82 ()).trans alC)
  refine L6 (R:=λfl os=>fl=.B0 _/\∃x,x∈M7 w g s/\os=U3 (ks++[x])) KR KS (λz x=>x.1) D at2 (L7 at2) rfl rfl
   (λa=>Ri λv hv=>N2 ⟨[],_,_,aly hw hg hv (Hq (bE (V0 m)) le) a,(λz m=>nomatch m),rfl,_,?_,rfl⟩)
   (λfl os h1 r e FD j1=>?_)
  .exact O5 (Nat.mod_lt _ (Nat.zero_lt_succ _))
  .obtain ⟨rfl,x,hx,rfl⟩:=r
   have:=ih _ h1 (.v (.B (I ks))) (by rw[El];exact Cr (BQ (J_ _ 1 m)) le) (λy hy=>(EY.mp hy).elim (o y) λhy=>by
    rw[EK.mp hy];exact hx) j1.1 (Pk e) ⟨j1.1,j1.2.1.trans Dc.2.1,λk m=>(j1.2.2 k m).trans (Dc.2.2 k m)⟩
   rw[El] at this;exact this
def lR(w g s:Nat)(t0:T):List T:=[t0,.v (.O 79 0),.v (.O 80 0),.v (.O 81 0),.v (.O 30 0),.v (.O 82 0),.v (.O 17 0),.v (.B w),.v (.B g),.v (.B s)]++E3 30 .AQ
def We(w g s:Nat)(t0:T):List T:=[t0,.v (.O 79 0),.v (.O 80 0),.v (.O 81 0),.v (.O 30 0),.v (.O 82 0),.v (.O 17 0),.v (.B w),.v (.B g),.v (.B s),.AQ,.v (.O 83 0)]++E3 28 .AQ
def alD:List Nat:=Fy []
def st2(w g s:Nat):List (Nat×List A_):=(CG.zip (cu w g s)++cy.filter λp=>EO p.1 lN).filter λp=>EO p.1 alD
def st3(w g s:Nat)(ks:List Int):List (Nat×List A_):=Wc.zip (U3 ks)++(st2 w g s).filter λp=>EO p.1 cz
def zI:List Nat:=Fy [83]
def Wf(w g s:Nat)(ks:List Int):List (Nat×List A_):=(83,[.A6 (Iu (I ks))])::(st3 w g s ks).filter λp=>EO p.1 zI
theorem alE{th ret:V}(hk:I ks<=3)(a:Int):
  (EL A5 (Ev FQ A5 (d+50)) ((Di.BL.dr 6).tk 1) (Eo zI) (lR w g s t0) (ES h (dA a::(83,[])::lQ th ret ks))).DF [83] [] []=H ([],.B0 (We w g s t0),[[.A6 (Iu (I ks))]]):=HV hk (rfl) (λx=>rfl) (λx x=>rfl) (λx x x=>rfl)
theorem alF(hk:I ks<=3)(D:CJ h)(a:At (st3 w g s ks) h)
  (k:∀h1,CJ h1->At (Wf w g s ks) h1->Ae A5 (AL A5 (d+50)) (Di.BL.dr 7) (We w g s t0) h1 Q):Ae A5 (AL A5 (d+50)) (Di.BL.dr 6) (lR w g s t0) h Q:=by
 exact U' 1 D (a.I7 rfl) rfl a (alE hk) λh1 D1 a1 x=>k h1 D1 a1
theorem alG(D:CJ h)(a:At U1 h)(k:∀w g s ks h1,w<2->g<2->s<3->I ks<=3->(∀x∈ks,x∈M7 w g s)->CJ h1->At (Wf w g s ks) h1->Ae A5 (AL A5 (d+50)) (Di.BL.dr 7) (We w g s t0) h1 Q):
  Ae A5 (AL A5 (d+50)) (Di.BL.dr 2) (t0::r2.tail) h Q:=by
 refine alr D a λh1 D1 a1=>?_;refine ay #[] ?_;refine R4 _ _ _ _ _ _ rfl ⟨rfl,?_⟩;refine alv D1 a1 λw g s h2 hw hg hs D2 a2=>?_;refine zG #[] (DL ?_ (Mw D2 ()));rintro v h3 ⟨n,rfl,n0,n4,Gw,sm⟩;obtain⟨n,rfl⟩:=Ov n0;have n3:=Mv (Kf.mp n4);refine⟨n,GH n3 (),rfl,?_⟩;have a3:At (st2 w g s) h3:=a2.AX λk m=>sm k λz=>cj rfl m (EK.mp z)
 have:=alz (s:=s) hw hg (d:=d) (F:=Fv A5 (AL A5 (d+49)) (Sw.BL.dr 17) λfl y h'=>au A5 (AL A5 (d+50)) [6,7,8,9] (Di.BL.dr 6) Q (t0::cK.tail) fl.Av h') (D9 a3 rfl) (D9 a3 rfl) (D9 a3 rfl) (λks h4 t hk ok Wg a4 N3=>?_) n [] h3 .AQ (Cr (BQ (MT _)) n3) (λy m=>absurd m Hz) Gw (a3.I7 (rfl)) ⟨Gw,rfl,λy y=>rfl⟩
 .rw [PT]
  exact this
 .refine ET #[] ?_
  refine av (r':=lR w g s t0) rfl ?_;exact alF hk Wg (a4.Bl (a3.kp N3)) λh5 U4 a5=>k w g s ks h5 hw hg hs hk ok U4 a5
def lS(s:Nat):Int:=Pn s+1
def d7(w s:Nat):Int:=match w with|0=>16|_=>lS s
def Ex(w g s:Nat):Int:=match w,g with|1,1=>lS s+1|_,_=>lS s
def Df(w g s:Nat):Int:=match g with|0=>Ex w g s|_=>Ex w g s+1
def Jq(w g s:Nat):List Fd:=zE w s++(match w,g with|1,1=>[((6,1,AB):Fd)]|_,_=>[])++((2,65,H (Dk w [16]++Dk g [Pn s])):Fd)::Dk g [(2,65,H (Dk w [16]++[d7 w s]))]
def LB(fid:Int)(name:V)(kind:V):A_:=.CK 6 [(48,.B fid),(11,.B 65),(8,name),(9,kind),(49,.B 6),(10,.B 0),(50,.AV)]
def Dj:List Nat:=[1,2,3,4,5,6,19,20,21,22,23,24,25,26,27,28,29,32,34,36,37,38,44,48,46,47,49,50,51,62,67,84]
def zJ:List Nat:=Fy [1,2,3,4,5,6,19,20,21,22,23,24,25,26,27,28,29,32,34,36,37,38,39,40,41,42,43,44,45,46,47,48,49,50,51,62,67,84]
def Jr(n:Int)(CC:Int)(st th t0:Int):A_:=.CK 11 [(73,.O 82 0),(25,.O 81 0),(61,.O 30 0),(74,.O 17 0),(75,.O 44 0),(76,.B CC),(77,.AV),(78,.O 46 0),(79,.O 47 0),(80,.B n),(81,.O 48 0),(82,.O 49 0),(83,.O 50 0),(84,.O 51 0),(85,.B st),(86,.B th),(87,.B t0)]
def Wh(w g s:Nat):List A_:=(match w,g with|0,0=>[]|_,_=>[.Ad [(Ex w g s,.B (Df w g s))]])++Dk s (Dk w [.Ad [(17,.B 17)]])
def lT(w g s:Nat):List (List A_):=((GC (Jq w g s)).tail.map Rr)++[Wh w g s,[.A6 [],.A6 []],[.A6 (Dk w [.An 112]),.A6 (Dk w [.An 112]++Dk g [.Ed ⟨⟨[60,62,66]⟩⟩])],[.A6 (Dk w [.B 0]),.A6 (Dk w [.B 0]++Dk g [.B 0])],[.A6 (Dk w [Wb]),.A6 (Dk w [Wb]++Dk g [Wb])],
 [.A6 [],.A6 (.B 1::Dk s [.B 2])],[.A6 [.B 2],.A6 [.B 3]],[.A6 [],.A6 []],[.A6 [],.A6 []],[.A6 [],.A6 []],[.A6 [],.A6 []],[.A6 [],.A6 []],
 [.A6 (.AV::.O 37 0::Dk s [.O 37 1])],[.Ff [([.B 0,.An ⟨⟨[60,62,73,54,53]⟩⟩,.B (w+g)],.B 65)]],
 [.CK 5 [(34,.B 65),(8,.Ed ⟨⟨[60,62,73,54,53]⟩⟩),(22,.B 1),(10,.B 26),(35,.B 12),(36,.O 19 1),(17,.O 20 1),(37,.O 21 1),(38,.O 22 1),(39,.O 23 1),(40,.O 24 1),(26,.B 0),(41,.B 0),(42,.B (-1)),(43,.O 25 1),(44,.O 26 1),(45,.O 27 1),(46,.B 0),(47,.B 64)]],
 LB 1 (.An 118) (.B 7)::Dk s [LB 2 (.An 119) (.B (Ir s))],
 [.CK 7 [(15,.B 3),(11,.B 65),(8,.An 72),(49,.B 6),(10,.B 32),(51,.B 0),(52,.O 28 1),(53,.O 29 1),(19,.B 0),(17,.A3 []),(54,.A3 []),(55,.A3 []),(20,.O 41 0),(56,.B 0)]],
 [.CK 10 [(34,.B 65),(9,.B (Ex w g s)),(68,.B (Df w g s)),(69,.A3 (Dk g [.B (d7 w s)])),(70,.B 3)]],
 [.Ad []],[.A6 []],[.A6 []],[.Ad []],[.Ad []],[.CK 13 []],
 [.A6 (E3 64 .AV++[.O 63 0,.O 36 0])],[.A6 [.AV,.AV,.O 64 0,.O 38 0]],[Jr 0 0 1 (match s with|0=>0|_=>2) 0]]
def d8(w g s:Nat)(t0:T):List T:=[t0,.v (.O 79 0),.v (.O 80 0),.v (.O 81 0),.v (.O 30 0),.v (.O 82 0),.v (.O 17 0),.v (.B w),.v (.B g),.v (.B s),.AQ,.v (.O 83 0),.v (.O 84 0)]++E3 27 .AQ
def alH(h:A0)(d:Nat)(t0:T)(ks:List Int)(a:Int)(w g s:Nat):=(EL A5 (Ev FQ A5 (d+50)) ((Di.BL.dr 7).tk 3) (Eo zJ) (We w g s t0) (ES h (dA a::Wf w g s ks))).DF Dj [] []
abbrev alI(h:A0)(d:Nat)(t0:T)(ks:List Int)(a:Int)(w g s:Nat):Prop:=alH h d t0 ks a w g s=H ([],.B0 (d8 w g s t0),lT w g s)
theorem alJ(hw:w<2)(hg:g<2)(hs:s<3)(a:Int):alI h d t0 ks a w g s:=‹wgs hw hg hs›
def Wi(w g s:Nat)(ks:List Int):List (Nat×List A_):=Dj.zip (lT w g s)++(Wf w g s ks).filter λp=>EO p.1 zJ
theorem alK(hw:w<2)(hg:g<2)(hs:s<3)(D:CJ h)(a:At (Wf w g s ks) h)
  (k:∀h1,CJ h1->At (Wi w g s ks) h1->Ae A5 (AL A5 (d+50)) (Di.BL.dr 10) (d8 w g s t0) h1 Q):Ae A5 (AL A5 (d+50)) (Di.BL.dr 7) (We w g s t0) h Q:=
 L6 (R:=λfl os=>fl=.B0 _/\os=lT w g s) KR KS (λy x=>x.1) D a (L7 a) rfl rfl
  (λa=>N2 ⟨[],_,_,alJ hw hg hs a,(λy m=>nomatch m),rfl,rfl⟩)
  (λfl os h1 r e FD Dc=>by
   obtain⟨rfl,rfl⟩:=r;exact k h1 Dc.1 ((Pk e).Bl FD))
theorem Ar.EB(p:Ar G C o A1 r h (.v x))(e:S2 G h n x=H f)(q:I1 G C es r h vs)(c:∀Q:V->A0->Prop,Q y h->C f (x::vs) h Q):Ar G C (.EB o n es) A1 r h (.v y):=.mk λQ w=>p.go _ ⟨_,rfl,_,e,q.go _ (c _ w)⟩
def Pp:A_:=.CK 0 [(0,.O 1 0),(1,.O 2 0),(2,.O 3 0),(3,.O 4 0),(4,.O 5 0)]
theorem zK(e:(h 30)[0]?=H Pp)(l:Bw [(0,.O 1 0),(1,.O 2 0),(2,.O 3 0),(3,.O 4 0),(4,.O 5 0)] n=H y):LL h n (.O 30 0)=H y:=by unfold LL;simp only[e,Pp];exact l
theorem lU(e:(h 30)[0]?=H Pp):LL h 0 (.O 30 0)=H (.O 1 0):=zK e rfl
theorem zL(e:(h 30)[0]?=H Pp):LL h 4 (.O 30 0)=H (.O 5 0):=zK e rfl
theorem alL(M8:(h 30)[0]?=H Pp)(e1:(h 1)[0]?=H (.A6 rows))(k0:0<=k)(kl:k<rows.length)(hr:Be rows k=H v)(q:Q v h):AL A5 (d+1) 1 [.O 30 0,.B k] h Q:=by refine R4 _ _ _ _ _ _ rfl ⟨rfl,?_⟩;refine BK (.CF (.G8 (.AS (x:=.B k) (y:=.B 0) #[] #[] (congrArg H (decide_eq_false (Ie.mpr (Ax 1 AK A2 AK A2 A4 [k] k0))))) (.GG (.AS (x:=.B k) #[] (.Aj (.AN (.Am rfl) (lU M8)) (IJ e1)) (congrArg H (decide_eq_false (Mu.mpr (Ax 1 AI A7 AI A7 A4 [k,I rows] kl)))))))) (As ?_);exact ET (.AE (.AN (.Am rfl) (lU M8)) #[] ((F5 e1).trans hr)) q
theorem zM(p0:0<=pl)(e:if pl<ts.length then Be ts pl=H v else v=.B k)(q:Q v h):AL A5 (d+1) 17 [.A3 ts,.B pl,.B k] h Q:=by
 refine R4 _ _ _ _ _ _ rfl ⟨rfl,?_⟩;refine Vi (z:=decide _) (.AS #[] (.Aj (.Am rfl) rfl) rfl) (λz=>?_) (λz=>?_)
 .rw [if_pos (of_decide_eq_true z)] at e
  exact ET (.AE (.Am rfl) (.Am rfl) e) q
 .rw [if_neg (of_decide_eq_false z)] at e
  subst e;exact As (ET (.Am rfl) q)
def zN(o tag pl k res:Int)(ms:List V):Prop:=(o=0/\res=k)\/(o=1/\0<=pl/\((tag=6/\res=k)\/(tag=7/\if pl<I ms then Be ms pl=H (.B res) else res=k)))
set_option tactic.hygienic true in
theorem alM(M8:(h 30)[0]?=H Pp)(e1:(h 1)[0]?=H (.A6 rows))(e5:(h 5)[0]?=H (.A6 ops))(k0:0<=k)(kl:k<rows.length)(hr:Be rows k=H (.A3 (.B tag::.B pl::more)))(ho:Be ops k=H (.B o))
  (cs:zN o tag pl k res ms)(q:Q (.B res) (if o=0 then h else Bm h 6 (.Ad []))):AL A5 (d+11) 14 [.O 30 0,.B k,.A3 [],.A3 ms] h Q:=by
 refine R4 _ _ _ _ _ u8 rfl ⟨rfl,?_⟩;refine b4 (Fw (.EB (f:=1) (x:=.O 30 0) (y:=.A3 (.B tag::.B pl::more)) (.Am rfl) (by unfold S2;simp only[E4,M8];rfl) #[] λQ q=>alL (d:=d+9) M8 e1 k0 kl hr q) (DG ?_));have op:Ar A5 (AL A5 (d+10)) (.AE (.AN (.Am 0) 4) (.Am 1)) A1 [.v (.O 30 0),.v (.B k),.v (.A3 []),.v (.A3 ms)] h (.v (.B o)):=.AE (t:=.v (.O 5 0)) (x:=.B k) (.AN (x:=.O 30 0) (.Am rfl) (zL M8)) (.Am rfl) ((F5 e5).trans ho);rcases cs with⟨rfl,rfl⟩|⟨rfl,p0,cs⟩
 .exact DJ (.AS (x:=.B 0) (y:=.B 0) op .AO rfl) (ET (x:=.B res) (.Am rfl) q)
 refine BK (.AS (x:=.B 1) (y:=.B 0) op .AO rfl) (As ?_);refine R6 (wG (Ii (Fw (.Am rfl) (DG (Ii (Fw (.Am rfl) (DG (Ii (Fw (.Am rfl) (DG (Ii (Fw (.Am rfl) (DG (Ii (b3 (DG (Vj ?_)))))))))))))))));have n:∀i,i≠6->Bm h 6 (Gk .id) i=h i:=λi z=>F4 z;have lV:(Bm h 6 (Gk .id) 30)[0]?=H Pp:=by rw[n _ ()];exact M8
 have l9:(Bm h 6 (Gk .id) 5)[0]?=H (.A6 ops):=by rw[n _ ()];exact e5
 have g1:(Bm h 6 (Gk .id) 1)[0]?=H (.A6 rows):=by rw[n _ ()];exact e1
 have M5:(Bm h 6 (Gk .id) 6)[I (h 6)]?=H (.Ad []):=by rw[Vf];simp[Gk]
 have q:Q (.B res) (Bm h 6 (Gk .id)):=q;generalize Bm h 6 (Gk .id)=h2 at lV l9 g1 M5 q;refine R4 _ _ _ _ _ u9 rfl ⟨rfl,?_⟩;have op:Ar A5 (AL A5 (d+9)) (.AE (.AN (.Am 0) 4) (.Am 1)) A1 [.v (.O 30 0),.v (.B k),.v (.A3 []),.v (.A3 ms),.v (.O 6 (I (h 6))),.AQ,.AQ,.AQ] h2 (.v (.B 1)):=.AE (t:=.v (.O 5 0)) (x:=.B k) (.AN (x:=.O 30 0) (.Am rfl) (zL lV)) (.Am rfl) ((F5 l9).trans ho);refine BK (.AS (x:=.B 1) (y:=.B 0) op .AO rfl) (As ?_);refine BK (.A8 (x:=.B k) (y:=.O 6 (I (h 6))) (z:=AB) (.Am rfl) (.Am rfl) (by unfold EG;simp only[E4,M5];rfl) rfl) (As ?_);refine Ea (x:=.A3 (.B tag::.B pl::more)) (.AE (t:=.v (.O 1 0)) (x:=.B k) (.AN (x:=.O 30 0) (.Am rfl) (lU lV)) (.Am rfl) ((F5 g1).trans hr)) ?_;have lW:∀tb,Hl tb h2 (.v (.A3 (.B tag::.B pl::more))) (.B 0)=H (.B tag):=λu=>rfl;have z1:∀tb,Hl tb h2 (.v (.A3 (.B tag::.B pl::more))) (.B 1)=H (.B pl):=λu=>rfl;clear ho kl k0;rcases cs with⟨rfl,rfl⟩|⟨rfl,cs⟩
 .refine DJ (.AS (x:=.B 6) (y:=.B 6) (.AE (.Am rfl) .AO (lW _)) .AW rfl) ?_
  exact az (vs:=[.A3 [],.B pl,.B res]) (.AR (.Am rfl) (.AR (.AE (.Am rfl) .AO (z1 _)) (.AR (.Am rfl) .AH))) (zM (d:=d+8) p0 (by rw[if_neg (by simp;exact Ax 1 AK A2 AK A2 A4 [pl] p0)]) ⟨_,rfl,q⟩)
 .refine BK (.AS (x:=.B 7) (y:=.B 6) (.AE (.Am rfl) .AO (lW _)) .AW rfl) (As ?_)
  refine DJ (.AS (x:=.B 7) (y:=.B 7) (.AE (.Am rfl) .AO (lW _)) .AW rfl) ?_;refine az (vs:=[.A3 ms,.B pl,.B k]) (.AR (.Am rfl) (.AR (.AE (.Am rfl) .AO (z1 _)) (.AR (.Am rfl) .AH))) (zM (d:=d+8) p0 ?_ ⟨_,rfl,q⟩);split at cs
  .rename_i lt;rw[if_pos lt];exact cs
  .rename_i lt;rw[if_neg lt];exact congrArg V.B cs
def Rj(ex:List Fd)(ms:List V)(o k res:Int):Prop:=∃tag pl more,0<=k/\k<I ((LA++ex).map U0)/\Be ((LA++ex).map U0) k=H (.A3 (.B tag::.B pl::more))/\Be ((LA++ex).map lK) k=H (.B o)/\zN o tag pl k res ms
def M5(o:Int)(l:List A_):List A_:=if o=0 then l else l++[.Ad []]
def zO(ex:List Fd)(ms:List V)(op cl:Int->Int)(w:Ga)(vs:List V)(h:A0):B9 V:=match vs with
 |[.O s i,.B k,.A3 ts,.A3 m]=>.Dq (Ct s 30)<|.Dq (Ct i 0)<|.Dq (Ct (Mj ts) 0)<|.Dq (w 6)<|.VU (m=ms/\Rj ex ms (op k) k (cl k))<|.ok (.B (cl k)) (PF h 6 (M5 (op k) (h 6)))|_=>.C0
inductive zP:List V->Prop
 |mk (s i:Nat) (k:Int) (ts m:List V):zP [.O s i,.B k,.A3 ts,.A3 m]
theorem alN(z:(zO ex ms op cl w vs h).CD P):zP vs:=by
 cases vs with
 |nil=>exact z.elim|cons a vs=>cases a with
  |O s i=>cases vs with
   |nil=>exact z.elim|cons a vs=>cases a with
    |B k=>cases vs with
     |nil=>exact z.elim|cons a vs=>cases a with
      |A3 ts=>cases vs with
       |nil=>exact z.elim|cons a vs=>cases a with
        |A3 m=>cases vs with
         |nil=>exact .mk ..|cons a vs=>exact z.elim
        |_=>exact z.elim
      |_=>exact z.elim
    |_=>exact z.elim
  |_=>exact z.elim
def zQ(ex:List Fd)(h:A0):Prop:=CJ h/\At (GC ex) h
def Wj(ex:List Fd)(ms:List V)(op cl:Int->Int):ah:=λf=>Bool.rec (FQ f) (H (zO ex ms op cl)) (Ct f 14)
set_option tactic.hygienic true in
theorem zR:Ve (zQ ex) (Wj ex ms op cl):=λf t e AU w Aq d vs h Q j x=>by
 unfold Wj at e;cases q:Ct f 14 with
 |false=>
  rw[q] at e;unfold FQ at e;cases B7:Ct f 71 with
  |false=>rw[B7] at e;cases e
  |true=>
   rw[B7] at e;clear q;cases e;cases HC B7;refine z9 Aq (λu x=>x.1) (λh l x D=>⟨D,λp m=>?_⟩) j x
   have:p.1≠80:=λz=>by unfold GC at m;simp only[D4,Hz,or_false] at m;rcases m with rfl|rfl|rfl|rfl|rfl|rfl<;>cases z
   exact(if_neg this).trans (x.2 p m)
 |true=>
  rw[q] at e;cases e;cases HC q;have z:=x;clear x;obtain⟨s,i,k,ts,m⟩:=alN z
  .obtain ⟨b1,y⟩:=B9.DY z
   obtain⟨b2,y2⟩:=B9.DY y;obtain⟨N_,y3⟩:=B9.DY y2;obtain⟨Yk,y4⟩:=B9.DY y3;clear z y y2 y3;cases HC b1;cases HC b2;rw[PE] at N_
   have:=abf (HC N_);subst this;obtain⟨⟨rfl,tag,pl,more,k0,kl,hr,ho,cs⟩,y5⟩:=y4;have FD:=(Aq.PG h j).2;have i1:h 1=_:=FD (1,_) (.tail _ (.head _));have i5:h 5=_:=FD (5,_) (.tail _ (.tail _ (.tail _ (.tail _ (.tail _ (.head _))))));have alO:=FD (30,_) (.head _);refine alM (by rw[alO];rfl) (by rw[i1];rfl) (by rw[i5];rfl) k0 kl hr ho cs ?_
   have:=y5 (by rw[T4];exact Aq.DA _ _ _ Yk j);rw[T4] at this;unfold M5 at this;split
   .rename_i z
    rw[if_pos z] at this;have e:DA h 6 (h 6)=h:=funext λk=>by unfold DA;split<;>simp_all
    rw[e] at this;exact this
   .rename_i z
    rw[if_neg z] at this;exact this
theorem zS:∀h,zQ ex h->CJ h:=λy x=>x.1
def KU(s:Nat):Int:=match s with|0=>2|_=>3
def N4(s n:Nat):List V:=(EW n).map λ(k:Nat)=>.B (KU s+k)
def zT(s n:Nat):List V:=(EW n).map λk=>.O 37 ((match s with|0=>1|_=>2)+k)
def alP(k:Nat):V:=.Ed ⟨⟨[112,48+k]⟩⟩
def zU(cl:Int->Int)(s:Nat)(ks:List Int):List A_:=((EW (I ks)).zip ks).map λp=>LB (KU s+p.1) (alP p.1) (.B (cl p.2))
def zV(s:Nat):List A_:=LB 1 (.An 118) (.B 7)::Dk s [LB 2 (.An 119) (.B (Ir s))]
def lX(cl op:Int->Int)(L:List A_)(s:Nat)(ks:List Int):List (List A_):=[ks.foldl (λl k=>M5 (op k) l) L,[.A6 [],.A6 (.B 1::(Dk s [.B 2]++N4 s (I ks)))],
 [.A6 (.AV::.O 37 0::(Dk s [.O 37 1]++zT s (I ks)))],zV s++zU cl s ks,[.A6 (N4 s (I ks))]]
def RN:List Nat:=[6,23,32,37,57]
def zW:List Nat:=Fy [6,23,32,37,57]
def d9(w g s:Nat)(t0:T):List T:=[t0,.v (.O 79 0),.v (.O 80 0),.v (.O 81 0),.v (.O 30 0),.v (.O 82 0),.v (.O 17 0),.v (.B w),.v (.B g),.v (.B s),.AQ,.v (.O 83 0),.v (.O 84 0),.v (.O 57 0)]++E3 26 .AQ
def LC(w g s:Nat):List V:=Dk g [.B (d7 w s)]
def alQ(w g:Nat)(op cl:Int->Int)(h:A0)(d:Nat)(t0:T)(L:List A_)(a:Int)(s:Nat)(ks:List Int):=(EL A5 (Ev (Wj (Jq w g s) (LC w g s) op cl) A5 (d+50)) ((Di.BL.dr 10).tk 1) (Eo zW) (d8 w g s t0) (ES h (dA a::(6,L)::Wi w g s ks))).DF RN [] []
abbrev zX(w g:Nat)(op cl:Int->Int)(h:A0)(d:Nat)(t0:T)(L:List A_)(a:Int)(s:Nat)(ks:List Int):Prop:=alQ w g op cl h d t0 L a s ks=H (ks.map (λk=>LC w g s=LC w g s/\Rj (Jq w g s) (LC w g s) (op k) k (cl k)),.B0 (d9 w g s t0),lX cl op L s ks)
theorem alR(hk:I ks<=3)(a:Int):zX w g op cl h d t0 L a s ks:=by
 let P:=λs=>∀ks:List Int,I ks<=3->zX w g op cl h d t0 L a s ks
 exact Nat.rec (motive:=P) ‹k3› (λx x=>‹k3›) s ks hk
def Wk(cl:Int->Int)(w g s:Nat)(ks:List Int)(L:List A_):List (Nat×List A_):=(6,L)::(RN.tail.zip (lX cl id [] s ks).tail++(Wi w g s ks).filter λp=>EO p.1 zW)
theorem alS:I (M5 o l)<=I l+1:=by
 by_cases z:o=0
 .exact Cr (BQ (congrArg _ (if_pos z))) (SO _)
 .exact BQ ((congrArg _ (if_neg z)).trans El)
theorem alT{op:Int->Int}(ks:List Int)(L:List A_):I (ks.foldl (λl k=>M5 (op k) l) L)<=I ks+I L:=by
 induction ks generalizing L with
 |nil=>exact BQ (MT _).symm|cons k ks ih=>exact Cr (ih _) (Cr (Oq alS _) (BQ (J_ _ _ 1)))
theorem zY{x:List A_}(h:I x<=m):I (Dk n x)<=m:=by
 cases n with
 |zero=>exact D3 _|succ n=>exact h
theorem alU:I (Wh w g s)<=2:=by
 have:I (Dk s (Dk w [A_.Ad [(17,.B 17)]]))<=1:=zY (zY (Ds _));cases w with
 |succ w=>exact Us this|zero=>
  cases g with
  |zero=>exact ye this|succ g=>exact Us this
theorem alV(hk:I ks<=3){op cl:Int->Int}(Hp:∀k∈ks,Rj (Jq w g s) (LC w g s) (op k) k (cl k))(D:CJ h)(a:At (Wi w g s ks) h)
  (k:∀L h1,I L<=5->CJ h1->At (Wk cl w g s ks L) h1->Ae A5 (AL A5 (d+50)) (Di.BL.dr 11) (d9 w g s t0) h1 Q):Ae A5 (AL A5 (d+50)) (Di.BL.dr 10) (d8 w g s t0) h Q:=by
 have OE:At (GC (Jq w g s)) h:=At.I7 a (rfl);have a2:At ((6,Wh w g s)::Wi w g s ks) h:=λp m=>(D4.mp m).elim (λe=>by clear m;subst e;exact D9 a rfl) (a p);refine L6 (l:=_) (R:=λfl os=>fl=.B0 _/\os=lX cl op (Wh w g s) s ks) zR zS
  (λh2 j=>⟨j.1,λp m=>(j.2.2 p.1 ?_).trans (OE p m)⟩) D a (L7 a2) rfl rfl
  (λa=>N2 ⟨_,_,_,alR hk a,(λp m=>?_),rfl,rfl⟩)
  (λfl os h1 r e FD Dc=>?_)
 .have:∀p∈GC (Jq w g s),p.1∈[30,1,2,3,4,5]:=λp m=>Wl m
  have:=this p m;revert this;generalize p.1=x;revert x;decide
 .obtain ⟨x,hx,rfl⟩:=Eh.mp m
  exact⟨rfl,Hp x hx⟩
 .obtain ⟨rfl,rfl⟩:=r
  have z:=Pk e;refine k (ks.foldl (λl k=>M5 (op k) l) (Wh w g s)) h1 (Cr (alT ks _) (Nat.add_le_add hk alU)) Dc.1 ?_;exact z.Bl FD
def Cs(s n:Nat):Int:=match s with|2=>KU s+n|_=>0
def EP(s n:Nat):Int:=KU s+n+(match s with|2=>1|_=>0)
def U5{α:Type}(n:Nat)(x:List α):List α:=match n with|2=>x|_=>[]
def lY(s n:Nat):List V:=.B 1::(Dk s [.B 2]++N4 s n++U5 s [.B (Cs s n)]++[.B (EP s n)])
def z_(s:Nat):Nat:=match s with|0=>1|_=>2
def Wm(s n:Nat):List V:=.AV::.O 37 0::(Dk s [.O 37 1]++zT s n++U5 s [.O 37 (z_ s+n)]++[.O 37 (z_ s+n+(match s with|2=>1|_=>0))])
def Wn(cl:Int->Int)(s:Nat)(ks:List Int):List A_:=zV s++zU cl s ks++U5 s [LB (Cs s (I ks)) (.An 102) (.B (Ir s))]++[LB (EP s (I ks)) (.An 92) (.B 7)]
def Ra:List Nat:=[23,32,37,84]
def l_:List Nat:=Fy [6,23,32,37,84]
def Pq(s:Nat):Int:=match s with|0=>0|_=>2
def dB(cl:Int->Int)(s:Nat)(ks:List Int):List (List A_):=[[.A6 [],.A6 (lY s (I ks))],[.A6 (Wm s (I ks))],Wn cl s ks,[Jr 0 0 1 (Pq s) (Cs s (I ks))]]
def dD(w g s n:Nat)(t0:T):List T:=[t0,.v (.O 79 0),.v (.O 80 0),.v (.O 81 0),.v (.O 30 0),.v (.O 82 0),.v (.O 17 0),.v (.B w),.v (.B g),.v (.B s),.AQ,.v (.O 83 0),.v (.O 84 0),.v (.O 57 0),.v (.B (EP s n))]++E3 25 .AQ
theorem alW{P:List A_->Prop}{l:List A_}(h:I l<=5)(p0:P [])(p1:∀a,P [a])(p2:∀a b,P [a,b])(p3:∀a b c,P [a,b,c])(p4:∀a b c d,P [a,b,c,d])(Jc:∀a b c d e,P [a,b,c,d,e]):P l:=lc h p0 λa l h=>lc (P:=λl=>P _) h (p1 a) λb l h=>HV h (p2 a b) (p3 a b) (p4 a b) (Jc a b)
def L9(h:A0)(d:Nat)(t0:T)(cl:Int->Int)(a:Int)(s w g:Nat)(L:List A_)(ks:List Int):=(EL A5 (Ev FQ A5 (d+50)) ((Di.BL.dr 11).tk 2) (Eo l_) (d9 w g s t0) (ES h (dA a::Wk cl w g s ks L))).DF Ra [] []
abbrev za(h:A0)(d:Nat)(t0:T)(cl:Int->Int)(a:Int)(s w g:Nat)(L:List A_)(ks:List Int):Prop:=L9 h d t0 cl a s w g L ks=H ([],.B0 (dD w g s (I ks) t0),dB cl s ks)
theorem alX(hw:w<2)(hg:g<2)(hs:s<3)(hk:I ks<=3)(hL:I L<=5)(a:Int):za h d t0 cl a s w g L ks:=by
 let P:=λs w g L=>∀ks:List Int,I ks<=3->za h d t0 cl a s w g L ks
 have k:P s w g L:=by refine GP hs ‹k3› ‹k3› (I8 hw ‹k3› (I8 hg ?_ ?_))<;>refine alW hL ‹k3› (λx=>‹k3›) (λx x=>‹k3›) (λx x x=>‹k3›) (λx x x x=>‹k3›) (λx x x x x=>‹k3›)
 exact k ks hk
theorem alY(hw:w<2)(hg:g<2)(hs:s<3)(hk:I ks<=3)(hL:I L<=5)(D:CJ h)(a:At (Wk cl w g s ks L) h)
  (k:∀h1,CJ h1->At (Ra.zip (dB cl s ks)++(Wk cl w g s ks L).filter λp=>EO p.1 l_) h1->Ae A5 (AL A5 (d+50)) (Di.BL.dr 13) (dD w g s (I ks) t0) h1 Q):Ae A5 (AL A5 (d+50)) (Di.BL.dr 11) (d9 w g s t0) h Q:=
 L6 (R:=λfl os=>fl=.B0 _/\os=dB cl s ks) KR KS (λy x=>x.1) D a (L7 a) rfl rfl
  (λa=>N2 ⟨[],_,_,alX hw hg hs hk hL a,(λy m=>nomatch m),rfl,rfl⟩)
  (λfl os h1 r e FD Dc=>by
   obtain⟨rfl,rfl⟩:=r;exact k h1 Dc.1 ((Pk e).Bl FD))
def lg:List Nat:=Fy []
def dF(w g s n:Nat)(A8 kd:Int)(t0:T):List T:=[t0,.v (.O 79 0),.v (.O 80 0),.v (.O 81 0),.v (.O 30 0),.v (.O 82 0),.v (.O 17 0),.v (.B w),.v (.B g),.v (.B s),.AQ,.v (.O 83 0),.v (.O 84 0),.v (.O 57 0),.v (.B (EP s n)),.AQ,.v (.B A8),.v (.B kd)]++E3 22 .AQ
def al0(n:Nat)(h:A0)(d:Nat)(t0:T)(a:Int)(w g s:Nat):=(EL A5 (Ev FQ A5 (d+50)) ((Di.BL.dr 13).tk 2) (Eo lg) (dD w g s n t0) (ES h (dA a::GC (Jq w g s)))).DF [] [] []
abbrev al1(n:Nat)(h:A0)(d:Nat)(t0:T)(a:Int)(w g s:Nat):Prop:=al0 n h d t0 a w g s=H ([],.B0 (dF w g s n (Df w g s) (Ex w g s) t0),[])
theorem al3(hw:w<2)(hg:g<2)(hs:s<3)(a:Int):al1 n h d t0 a w g s:=‹wgs hw hg hs›
def lq:A_:=.CK 5 [(34,.B 65),(8,.Ed ⟨⟨[60,62,73,54,53]⟩⟩),(22,.B 1),(10,.B 26),(35,.B 12),(36,.O 19 1),(17,.O 20 1),(37,.O 21 1),(38,.O 22 1),(39,.O 23 1),(40,.O 24 1),(26,.B 0),(41,.B 0),(42,.B (-1)),(43,.O 25 1),(44,.O 26 1),(45,.O 27 1),(46,.B 0),(47,.B 64)]
def dG(mid:Int)(name:V)(flags:Int)(k:Nat)(ret body:V):A_:=.CK 7 [(15,.B mid),(11,.B 65),(8,name),(49,.B 6),(10,.B flags),(51,.B 0),(52,.O 28 k),(53,.O 29 k),(19,ret),(17,.A3 []),(54,.A3 []),(55,.A3 []),(20,body),(56,.B 0)]
def zb:A_:=dG 3 (.An 72) 32 1 (.B 0) (.O 41 0)
def Wo(kd A8:Int)(mg:List V):A_:=.CK 10 [(34,.B 65),(9,.B kd),(68,.B A8),(69,.A3 mg),(70,.B 3)]
def Wq:A_:=.CK 9 [(61,.O 30 0),(62,.O 62 0),(63,.O 32 0),(40,.O 67 0),(64,.O 34 0),(65,.O 35 0),(66,.B 0)]
def lu:A_:=.A6 (E3 64 .AV++[.O 63 0,.O 36 0])
def dH(kd A8:Int)(mg:List V)(th t0 CC:Int):List (Nat×List A_):=[(36,[lq]),(44,[Wo kd A8 mg]),(62,[lu]),(81,[Wq]),(82,[OD]),(84,[Jr 0 CC 1 th t0])]
def ly(kd A8:Int)(mg:List V)(th ret:V)(Cw t0:Int)(DK:A_):List (Nat×List A_):=dH kd A8 mg Cw t0 0++[(8,[DK]),(9,[DK]),(10,[.A6 [.AV,.O 17 0]]),(12,[.Ad [(2,.B 1)]]),(17,[GQ th ret .AV]),(24,[.A6 [.B 2],.A6 [.B 3]]),(28,[.A6 [],.A6 []]),(29,[.A6 [],.A6 []]),
 (38,[zb]),(53,[]),(54,[]),(55,[]),(67,[.A6 [.AV,.AV,.O 64 0,.O 38 0]]),(85,[]),(86,[]),(87,[]),(88,[]),(89,[]),(90,[])]
def al4:List (Nat×List A_):=[52,56,58,59,60,61,68,69,70,71,72,73,74,75,76,77,78,91,92,93,94,95,96,97,98,99].map λk=>(k,[])
def al5(cl:Int->Int)(s:Nat)(ks:List Int):List (Nat×List A_):=[(11,[.A6 (lP (I ks))]),(18,(((EW (I ks)).map (·+1)).zip ks).map Wd),(23,[.A6 [],.A6 (lY s (I ks))]),(32,[.A6 (Wm s (I ks))]),(37,Wn cl s ks),(48,[.Ad []]),(57,[.A6 (N4 s (I ks))]),(83,[.A6 (Iu (I ks))])]++al4
def IT(cl:Int->Int)(w g s:Nat)(ks:List Int):List (Nat×List A_):=ly (Ex w g s) (Df w g s) (LC w g s) (.B (Ir s)) (.B (N1 s)) (Pq s) (Cs s (I ks)) (.A6 (Iu (I ks)))++(GC (Jq w g s)++al5 cl s ks)
theorem al6(hw:w<2)(hg:g<2)(hs:s<3)(D:CJ h)(a:At (Ra.zip (dB cl s ks)++(Wk cl w g s ks L).filter λp=>EO p.1 l_) h)
  (k:∀h1,CJ h1->At (IT cl w g s ks) h1->Ae A5 (AL A5 (d+50)) (Di.BL.dr 15) (dF w g s (I ks) (Df w g s) (Ex w g s) t0) h1 Q):Ae A5 (AL A5 (d+50)) (Di.BL.dr 13) (dD w g s (I ks) t0) h Q:=by
 have OE:At (GC (Jq w g s)) h:=At.I7 a #v[];have ae:At (IT cl w g s ks) h:=At.I7 a #v[];refine L6 (R:=λfl os=>fl=.B0 _) KR KS (λy x=>x.1) D ae (L7 OE) rfl rfl
  (λa=>N2 ⟨[],_,_,al3 hw hg hs a,(λy m=>nomatch m),rfl⟩)
  (λfl os h1 r e FD Dc=>by
   subst r;exact k h1 Dc.1 FD)
def LD(al7 mid:Int)(k:Nat)(A8:Int)(ret body:V):A_:=.CK 3 [(14,.B al7),(15,.B mid),(16,.O 8 k),(17,.O 9 k),(18,.B A8),(19,ret),(20,body),(21,.B 0),(22,.B 0),(23,.B (-1)),(24,.B 0)]
def Wr{α:Type}(n:Nat)(x:α):List α:=(EW n).map λy=>x
def Rk(A8:Int)(p:Nat×Int×Nat):V:=D8 (GA A8 1 4 p.1 (match p.2.1 with|.negSucc _=>-1|.ofNat o=>-3-(o:Int)) p.2.2)
def OF{α:Type}(l:List α):List (Nat×α):=(EW (I l)).zip l
def OG(A8:Int)(Gx DK:A_)(AA:List (Int×Nat)):List (List A_):=[DK::.A6 []::.A6 []::Wr (I AA) (.A6 []),DK::.A6 []::.A6 []::Wr (I AA) (.A6 []),
 [.A6 (.AV::.O 17 0::.O 17 1::.O 17 2::(EW (I AA)).map λp=>.O 17 (3+p))],[.Ad ((2,.B 1)::(4,.B 2)::(5,.B 3)::(EW (I AA)).map λ(p:Nat)=>((6:Int)+p,V.B (4+p)))],
 Gx::LD 2 4 1 A8 (.B 0) .AV::LD 3 5 2 A8 (.B 0) .AV::(OF AA).map λp=>LD (4+p.1) (6+p.1) (3+p.1) A8 (.B 0) (Rk A8 p),
 [.A6 [.B 2],.A6 (.B 3::.B 4::.B 5::(EW (I AA)).map λ(p:Nat)=>.B (6+p))],.A6 []::.A6 []::.A6 []::.A6 []::Wr (I AA) (.A6 []),.A6 []::.A6 []::.A6 []::.A6 []::Wr (I AA) (.A6 []),
 zb::dG 4 (.An 128) 22 2 (.B 0) .AV::dG 5 (.An 129) 0 3 (.B 0) .AV::(EW (I AA)).map λ(p:Nat)=>dG (6+p) (.An 115) 0 (4+p) (.B 0) .AV,
 [.A6 (AA.map λp=>.B p.1)],[.A6 ((EW (I AA)).map λp=>.O 17 (3+p))],[.A6 (.AV::.AV::.O 64 0::.O 38 0::.O 38 1::.O 38 2::(EW (I AA)).map λp=>.O 38 (3+p))],[.A6 (AA.map λp=>.B p.2)]]
def SF:List Nat:=[8,9,10,12,17,24,28,29,38,53,54,67,68]
def dI:List Nat:=Fy [8,9,10,12,17,24,28,29,38,53,54,67,68]
def U6(A8 kd:Int):A_:=.BC [(73,.O 82 0),(106,.O 86 0),(108,.O 88 0),(110,.O 89 0),(109,.B 4000),(122,.B 0),(68,.B A8),(94,.B kd),(70,.B 3)]
def LF(cur:Int):A_:=.CK 12 [(92,.B cur),(93,.B (-1)),(94,.O 53 0),(95,.O 54 0),(96,.O 55 0)]
def al8:List Nat:=[8,9,10,12,17,24,28,29,38,53,54,55,67,85,86,87,88,89,90]
def al9:List Nat:=Fy [8,9,10,12,17,24,28,29,38,53,54,55,67,85,86,87,88,89,90]
def ama(A8 kd cur:Int)(Gx DK:A_):List (List A_):=((OG A8 Gx DK []).take 9)++[[.A6 []],[.A6 []],[.A6 []],[.A6 [.AV,.AV,.O 64 0,.O 38 0,.O 38 1,.O 38 2]],[U6 A8 kd],[.A6 [.O 87 0]],[.Ad []],[.A6 []],[.Ad []],[LF cur]]
def amb(w g s n:Nat)(A8 kd:Int)(t0:T):List T:=[t0,.v (.O 79 0),.v (.O 80 0),.v (.O 81 0),.v (.O 30 0),.v (.O 82 0),.v (.O 17 0),.v (.B w),.v (.B g),.v (.B s),.AQ,.v (.O 83 0),.v (.O 84 0),.v (.O 57 0),.v (.B (EP s n)),.AQ,.v (.B A8),.v (.B kd),.v (.O 85 0),.v (.O 90 0),.v (.O 17 1),.v (.O 17 2)]++E3 18 .AQ
theorem amc{kd A8 Cw Cs:Int}{th ret:V}(a:Int):(EL A5 (Ev FQ A5 (d+50)) ((Di.BL.dr 15).tk 4) (Eo al9) (dF w g s n A8 kd t0) (ES h (dA a::ly kd A8 mg th ret Cw Cs DK))).DF al8 [] []
  =H ([],.B0 (amb w g s n A8 kd t0),ama A8 kd (EP s n) (GQ th ret .AV) DK):=#v[]
def lz(kd A8:Int)(mg:List V)(Cw t0 cur:Int)(Gx DK:A_)(AA:List (Int×Nat)):List (Nat×List A_):=SF.zip (OG A8 Gx DK AA)++dH kd A8 mg Cw t0 0++[(55,[.A6 []]),(85,[U6 A8 kd]),(90,[LF cur])]
def dJ:Cb:=match uF.BL.dr 1 with
 |.AR (.Cm _ _ _ _ b) _=>b|_=>.AH
def Ws(ED Cn C6 BF Bj EI:T):List T:=[.v (.O 80 0),.v (.O 84 0),.v (.O 90 0),.v (.O 85 0),.v (.O 17 1),.v (.O 68 0),ED,Cn,C6,BF,Bj,EI]
def m3(v:Nat):Int:=match v with|0=>-1|v+1=>-(v+3:Nat)
def zc(A8:Int)(N v1 v2:Nat):List T:=Ws (.v (.B N)) (.v (.B v2)) (.v (.O 17 (3+N))) (.v (.B (m3 v1))) (.v (Kp A8)) (.Al (GA A8 1 4 N (m3 v1) v2))
def amd(kd A8 Cw Cs cur:Int)(mg:List V)(th ret:V)(DK:A_)(h:A0)(d:Nat)(Cn C6 BF Bj EI:T)(a:Int)(AA:List (Int×Nat))(v1 v2:Nat):=(EL A5 (Ev FQ A5 (d+49)) dJ (Eo dI) (Ws (.v (.B (I AA))) Cn C6 BF Bj EI) (ES h (dA a::lz kd A8 mg Cw Cs cur (GQ th ret .AV) DK AA))).DF SF [I AA+1,4] [Dl v1,Dl v2]
abbrev zd(kd A8 Cw Cs cur:Int)(mg:List V)(th ret:V)(DK:A_)(h:A0)(d:Nat)(Cn C6 BF Bj EI:T)(a:Int)(AA:List (Int×Nat))(v1 v2:Nat):Prop:=amd kd A8 Cw Cs cur mg th ret DK h d Cn C6 BF Bj EI a AA v1 v2=H ([],.B0 (zc A8 (I AA) v1 v2),OG A8 (GQ th ret .AV) DK (AA++[(Dl v1-1,v2)]))
theorem ame{kd A8 Cw Cs cur:Int}{th ret:V}(ho:I AA<3)(h1:v1<I AA+1)(h2:v2<4)(a:Int):zd kd A8 Cw Cs cur mg th ret DK h d Cn C6 BF Bj EI a AA v1 v2:=by
 let P:=λAA v1=>∀v2:Nat,v2<4->zd kd A8 Cw Cs cur mg th ret DK h d Cn C6 BF Bj EI a AA v1 v2
 exact zC (P:=λAA=>∀v,v<I AA+1->P AA v) (Mv ho) (λx v=>nz v ‹n4›) (λx x v=>I8 v ‹n4› ‹n4›) (λx x x v=>GP v ‹n4› ‹n4› ‹n4›) v1 h1 v2 h2
def HW(AA:List (Int×Nat)):Prop:=I AA<=3/\∀(i:Nat) (p:Int×Nat),AA[i]?=H p->-1<=p.1/\p.1<i/\p.2<4
theorem dK{v n i:Nat}(h:v<n+1)(q:n<=i):-1<=(v:Int)-1/\(v:Int)-1<i:=⟨Int.sub_le_sub_right (CU v) 1,Int.sub_right_lt_of_lt_add (Kf.mpr (Hq h (Us q)))⟩
theorem amf{α:Type}{l:List α}{x p:α}(e:(l++[x])[i]?=H p):l[i]?=H p\/I l<=i/\p=x:=by
 by_cases q:i<I l
 .exact .inl ((JQ q).symm.trans e)
 .refine .inr ⟨J1 q,?_⟩
  have e:=(JT (J1 q)).symm.trans e;generalize i-(I l)=k at e;cases k with
  |zero=>exact(BR e).symm|succ k=>exact absurd e nofun
theorem amg(o:HW AA)(l:I AA<3)(h1:v1<I AA+1)(h2:v2<4):HW (AA++[(Dl v1-1,v2)]):=by refine⟨by rw[El];exact l,λi p e=>(amf e).elim (o.2 i p) λq=>?_⟩;clear e;obtain(⟨q,rfl⟩):=q;exact⟨(dK h1 q).1,(dK h1 q).2,h2⟩
def ze(kd A8:Int)(mg:List V)(Cw t0 cur:Int):List (Nat×List A_):=dH kd A8 mg Cw t0 0++[(55,[.A6 []]),(85,[U6 A8 kd]),(90,[LF cur])]
section
variable{kd A8 Cw Cs cur:Int}{th ret:V}
theorem amh(c:At (ze kd A8 mg Cw Cs cur) h0)
  (k:∀AA h1 ED Cn C6 BF Bj EI,HW AA->CJ h1->At (SF.zip (OG A8 (GQ th ret .AV) DK AA)) h1->HU dI h0 h1->F .B0 (Ws ED Cn C6 BF Bj EI) h1):
  ∀(m:Nat) (AA:List (Int×Nat)) (h:A0) (ED Cn C6 BF Bj EI:T),I AA+m<=3->HW AA->CJ h->At (SF.zip (OG A8 (GQ th ret .AV) DK AA)) h->HU dI h0 h->GN A5 (AL A5 (d+49)) dJ [6] (λy=>True) F ((Ll (I AA) m).map λ(k:Nat)=>V.B k) (Ws ED Cn C6 BF Bj EI) h:=by
 intro m;induction m with
 |zero=>exact λAA h ED Cn C6 BF Bj EI le o D at_ Dc=>Jj trivial (k AA h _ _ _ _ _ _ o D at_ Dc)|succ m ih=>
  intro AA h ED Cn C6 BF Bj EI le o D at_ Dc;refine JB (r':=Ws _ Cn C6 BF Bj EI) trivial rfl ?_;have at2:At (lz kd A8 mg Cw Cs cur (GQ th ret .AV) DK AA) h:=by
   unfold lz;rw[PM];refine at_.Bl λp m=>(Dc.2.2 p.1 ?_).trans (c p m)
   have:∀p∈ze kd A8 mg Cw Cs cur,p.1∈[36,44,62,81,82,84,55,85,90]:=λp m=>Wl (f:=X7) m
   have:=this p m;revert this;generalize p.1=x;revert x;decide
  have ns:dJ.tk 20=dJ:=rfl;refine L6 (ov:=FQ) (KQ:=CJ) (kp:=dI) (BE:=[]) (S:=SF) (bs:=[I AA+1,4]) (n:=20) (R:=λfl os=>∃v1 v2,v1<I AA+1/\v2<4/\fl=.B0 (zc A8 (I AA) v1 v2)/\os=OG A8 (GQ th ret .AV) DK (AA++[(Dl v1-1,v2)])) KR KS (λy x=>x.1) D (λy m=>nomatch m) (L7 at2) rfl rfl
   (λa=>Ri λv1 hv1=>Ri λv2 hv2=>N2 ?_)
   (λfl os h1 r e FD j1=>?_)
  .rw [ns]
   exact⟨[],_,_,ame (Hq (bE (V0 m)) le) hv1 hv2 a,(λy m=>nomatch m),v1,v2,hv1,hv2,rfl,rfl⟩
  .obtain ⟨v1,v2,hv1,hv2,rfl,rfl⟩:=r
   have:=ih _ h1 (.v (.B (I AA))) (.v (.B v2)) (.v (.O 17 (3+I AA))) (.v (.B (m3 v1))) (.v (Kp A8)) (.Al (GA A8 1 4 (I AA) (m3 v1) v2)) (by rw[El];exact Cr (BQ (J_ _ 1 m)) le) (amg o (Hq (bE (V0 m)) le) hv1 hv2) j1.1 (Pk e) ⟨j1.1,j1.2.1.trans Dc.2.1,λk m=>(j1.2.2 k m).trans (Dc.2.2 k m)⟩;rw[El] at this;exact this
def M9(rg:List Int):List V:=(OF rg).map λp=>.A3 [.B (p.1+1),.B p.2]
def dM:Cb:=match Di.BL.dr 20 with
 |.AR (.Cm _ _ _ _ b) _=>b|_=>.AH
def MA(w g s n:Nat)(A8 kd:Int)(t0 Ck:T):List T:=[t0,.v (.O 79 0),.v (.O 80 0),.v (.O 81 0),.v (.O 30 0),.v (.O 82 0),.v (.O 17 0),.v (.B w),.v (.B g),.v (.B s),.AQ,.v (.O 83 0),.v (.O 84 0),.v (.O 57 0),.v (.B (EP s n)),.AQ,.v (.B A8),.v (.B kd),.v (.O 85 0),.v (.O 90 0),.v (.O 17 1),.v (.O 17 2),.v (.O 68 0),Ck]++E3 16 .AQ
def zf(cur:Int)(AA:List (Int×Nat))(rg:List Int):List (Nat×List A_):=[(90,[LF cur]),(68,[.A6 (AA.map λp=>.B p.2)]),(55,[.A6 (M9 rg)])]
def m5:List Nat:=Fy [55]
def ami(w g s n:Nat)(A8 kd:Int)(t0:T)(h:A0)(d:Nat)(a cur:Int)(AA:List (Int×Nat))(v:Nat)(rg:List Int):=(EL A5 (Ev FQ A5 (d+50)) dM (Eo m5) (MA w g s n A8 kd t0 (.v (.B (I rg+1:Nat)))) (ES h (dA a::zf cur AA rg))).DF [55] [I AA+1] [Dl v]
abbrev zg(w g s n:Nat)(A8 kd:Int)(t0:T)(h:A0)(d:Nat)(a cur:Int)(AA:List (Int×Nat))(v:Nat)(rg:List Int):Prop:=ami w g s n A8 kd t0 h d a cur AA v rg=H ([],.B0 (MA w g s n A8 kd t0 (.v (.B (I rg+1:Nat)))),[[.A6 (M9 (rg++[Dl v-1]))]])
theorem amj(ho:I AA<=3)(hr:I rg<3)(hv:v<I AA+1)(a:Int):zg w g s n A8 kd t0 h d a cur AA v rg:=by
 let P:=λAA v=>∀rg:List Int,I rg<=2->zg w g s n A8 kd t0 h d a cur AA v rg
 exact HV (P:=λAA=>∀v,v<I AA+1->P AA v) ho (λx v=>nz v ‹k2›) (λx x v=>I8 v ‹k2› ‹k2›) (λx x x v=>GP v ‹k2› ‹k2› ‹k2›) (λx x x x v=>L8 v ‹k2› ‹k2› ‹k2› ‹k2›) v hv rg (Mv hr)
def N5(N:Nat)(rg:List Int):Prop:=I rg<=3/\∀r∈rg,-1<=r/\r<N
theorem amk{t0:T}{AA:List (Int×Nat)}(ho:I AA<=3){h0:A0}{d:Nat}{F:DB->List T->A0->Prop}(aml:h0 90=[LF cur])(amm:h0 68=[.A6 (AA.map λp=>.B p.2)])
  (k:∀rg h1 t,N5 (I AA) rg->CJ h1->h1 55=[.A6 (M9 rg)]->HU m5 h0 h1->F .B0 (MA w g s n A8 kd t0 t) h1):
  ∀(m:Nat) (rg:List Int) (h:A0) (t:T),I rg+m<=3->N5 (I AA) rg->CJ h->h 55=[.A6 (M9 rg)]->HU m5 h0 h->GN A5 (AL A5 (d+50)) dM [23] (λy=>True) F ((Ll (I rg) m).map λ(k:Nat)=>V.B (k+1:Nat)) (MA w g s n A8 kd t0 t) h:=by
 intro m;induction m with
 |zero=>exact λrg h t le o D e Dc=>Jj trivial (k rg h t o D e Dc)|succ m ih=>
  intro rg h t le o D e Dc;refine JB (r':=MA w g s n A8 kd t0 (.v (.B _))) trivial rfl ?_;have at2:At (zf cur AA rg) h:=λp m=>by
   rcases D4.mp m with rfl|m
   .exact (Dc.2.2 90 ()).trans aml
   rcases D4.mp m with rfl|m
   .exact (Dc.2.2 68 ()).trans amm
   cases EK.mp m;exact e
  have ns:dM.tk 5=dM:=rfl;refine L6 (BE:=[]) (R:=λfl os=>∃v,v<I AA+1/\fl=.B0 _/\os=[[.A6 (M9 (rg++[Dl v-1]))]]) KR KS (λy x=>x.1) D (λy m=>nomatch m) (L7 at2) rfl rfl
   (λa=>Ri λv hv=>N2 ⟨[],_,_,by rw[ns];exact amj ho (Hq (bE (V0 m)) le) hv a,(λy m=>nomatch m),v,hv,rfl,rfl⟩)
   (λfl os h1 r e FD j1=>?_)
  obtain⟨v,hv,rfl,rfl⟩:=r
  have:=ih (rg++[Dl v-1]) h1 (.v (.B (I rg+1:Nat))) (by rw[El];exact Cr (BQ (J_ _ 1 m)) le) ⟨by rw[El];exact Cr (Oq (Us (D3 m)) _) le,λr m=>(EY.mp m).elim (o.2 r) λm=>by
   rw[EK.mp m];exact⟨(dK hv (Ds _)).1,(dK hv (Ds _)).2⟩⟩ j1.1 (by injection e) ⟨j1.1,j1.2.1.trans Dc.2.1,λk m=>(j1.2.2 k m).trans (Dc.2.2 k m)⟩
  rw[El] at this;exact this
end
def zh(fl:Fs):Bool:=Fs.rec (λx=>U) (λx=>A1) fl
def dN(x:List Prop×Fs×List (List A_)):List Prop×Bool×List (List A_):=(x.1,zh x.2.1,x.2.2)
theorem zj{S:List Nat}{os:List (List A_)}(n:Nat)
  (j:CJ h)(al:At l h)(OC:EO 80 kp=A1)(lJ:At BE h)
  (x:∀a,((EL A5 (Ev FQ A5 d) (s.tk n) (Eo kp) r (ES h (dA a::l))).DF S [] []).map dN=H ([],U,os))
  (k:∀r1 h1,S.map h1=os->At (BE.filter λp=>EO p.1 kp) h1->HU kp h h1->Ae A5 (AL A5 d) (s.dr n) r1 h1 Q):Ae A5 (AL A5 d) s r h Q:=
 L6 (bs:=[]) (R:=λfl os'=>(∃r1,fl=.B0 r1)/\os'=os) KR KS (λz x=>x.1) j lJ (L7 al) OC rfl
  (λa ds m=>by
   rw[EK.mp m];have x:=x a;cases e:(EL A5 _ _ _ r _).DF S [] [] with
   |none=>rw[e] at x;cases x
   |some y=>
    obtain⟨ps,fl,os'⟩:=y;rw[e] at x;have x:H (ps,zh fl,os')=H _:=x;injection x with x;injection x with x1 x;injection x with x2 x3;subst x1;refine⟨[],fl,os',rfl,(λz m=>nomatch m),?_,x3⟩;cases fl with
    |B0 r1=>exact⟨r1,rfl⟩|Ag v=>cases x2)
  (λfl os' h1 r e FD Dc=>by
   clear x;obtain⟨⟨r1,rfl⟩,rfl⟩:=r;exact k r1 h1 e FD Dc)
def N6(AA:List (Int×Nat)):IP where
 N:=I AA
 CR:=λi=>(AA.getD i (-1,0)).1
 PW:=λi=>(AA.getD i (-1,0)).2
 Kw:=λi=>6+i
 Dp:=4
 em:=5
 ji:=2+I AA
 fs:=1
theorem amn{P:Int->Prop}{k:Nat}{x:Int}(h:-1<=x)(l:x<k)(p:∀m,m<k+1->P ((m:Int)-1)):P x:=by obtain⟨m,e⟩:=Ov (yJ h 1);obtain rfl:x=m-1:=(gE x 1).symm.trans (congrArg (·-1) e);exact p m (Kf.mp (Int.lt_add_of_sub_right_lt l))
def zk(AA:List (Int×Nat)):Prop:=∀(i:Nat) (p:Int×Nat),AA[i]?=H p->-1<=p.1/\p.1<i/\p.2<4
theorem Rl{P:Int->Prop}{AA:List (Int×Nat)}(o:zk AA)(i:Nat){x:Int}{a:Nat}(e:AA[i]?=H (x,a))(p:∀m,m<i+1->P ((m:Int)-1)):P x:=amn (o i _ e).1 (o i _ e).2.1 p
theorem zl{P:List (Int×Nat)->Prop}(h0:P [])(h1:∀a,P [(-1,a)])(h2:∀a b,P [(-1,a),(-1,b)]/\P [(-1,a),(0,b)])
  (h3:∀a b c,(P [(-1,a),(-1,b),(-1,c)]/\P [(-1,a),(-1,b),(0,c)]/\P [(-1,a),(-1,b),(1,c)])/\P [(-1,a),(0,b),(-1,c)]/\P [(-1,a),(0,b),(0,c)]/\P [(-1,a),(0,b),(1,c)]){AA:List (Int×Nat)}(o:HW AA):P AA:=
 HV (P:=λAA=>zk AA->P AA) o.1 (λv=>h0)
  (λx o=>Rl (P:=λy=>P [(y,x.2)]) o 0 rfl λm hm=>nz (P:=λm=>P [(m-1,x.2)]) hm (h1 _))
  (λx y o=>Rl (P:=λz=>P [(z,x.2),y]) o 0 rfl λm hm=>nz (P:=λm=>P [(m-1,x.2),y]) hm (Rl (P:=λz=>P [_,(z,y.2)]) o 1 rfl λm hm=>I8 hm (h2 ..).1 (h2 ..).2))
  (λx y u o=>Rl (P:=λz=>P [(z,x.2),y,u]) o 0 rfl λm hm=>nz (P:=λm=>P [(m-1,x.2),y,u]) hm (Rl (P:=λz=>P [_,(z,y.2),u]) o 1 rfl λm hm=>I8 hm
   (Rl (P:=λz=>P [_,_,(z,u.2)]) o 2 rfl λm hm=>GP hm (h3 ..).1.1 (h3 ..).1.2.1 (h3 ..).1.2.2)
   (Rl (P:=λz=>P [_,_,(z,u.2)]) o 2 rfl λm hm=>GP hm (h3 ..).2.1 (h3 ..).2.2.1 (h3 ..).2.2.2))) o.2
def dO:Cb:=uA.BL
def m6:Cb:=match dO.dr 3 with
 |.AR (.Ay _ a _) _=>a|_=>.AH
def zm:Cb:=match m6.dr 5 with
 |.AR (.Cm _ _ _ _ b) _=>b|_=>.AH
def zo:List Nat:=Fy [56,84]
def U7(N:Nat):List V:=(EW N).map λ(k:Nat)=>.B (2+k)
def LG(t3 t4 ED Cn C6 BF Bj EI JL JM amo:T):List T:=[.v (.O 84 0),.v (.O 90 0),.v (.O 17 2),t3,t4,.AQ,ED,Cn,C6,BF,Bj,EI,JL,JM,amo]
section
variable{kd A8 Cw Cs cur:Int}{th ret:V}
def m7(kd A8:Int)(mg:List V)(Cw t0 cur:Int)(Gx DK:A_)(AA:List (Int×Nat)):List (Nat×List A_):=SF.zip (OG A8 Gx DK AA)++dH kd A8 mg Cw t0 0++[(90,[LF cur])]
theorem amq(ho:I AA<=3)(a:Int):(EL A5 (Ev FQ A5 (d+49)) (dO.tk 3) (Eo zo) (LG .AQ .AQ .AQ .AQ .AQ .AQ .AQ .AQ .AQ .AQ .AQ) (ES h (dA a::(56,[])::m7 kd A8 mg Cw Cs cur (GQ th ret .AV) DK AA))).DF [56,84] [] []
  =H ([],.B0 (LG (.Al []) (.v (.B 1)) (.v (.O 56 0)) .AQ .AQ .AQ .AQ .AQ .AQ .AQ .AQ),[[.A6 (U7 (I AA))],[Jr 0 (1+I AA) 1 Cw Cs]]):=HV ho (rfl) (λx=>#v[]) (λx x=>rfl) (λx x x=>#v[])
def dP(kd A8:Int)(mg:List V)(Cw t0 cur:Int)(N:Nat)(HX:List V)(HY:List A_):List (Nat×List A_):=[(84,[Jr 0 (1+N) 1 Cw t0]),(44,[Wo kd A8 mg]),(81,[Wq]),(32,[.A6 (.AV::.O 37 0::HX)]),(37,LB 1 (.An 118) (.B 7)::HY),(56,[.A6 (U7 N)]),(90,[LF cur])]
def zp(A8:Int)(N:Nat):V:=TQ 7 98 (G9 7 A8 1) (Kq (N+2))
def hd1(A8:Int)(N:Nat):V:=.A3 [.B 23,zp A8 N,.A3 ((Ey N).map λp=>.B (2+(N-1-p:Nat)))]
def amr(rg:List Int):List V:=.B 1::rg.map λr=>.B (if r<0 then 1 else 2+r)
def hd2(A8:Int)(rg:List Int):V:=.A3 [.B 23,G9 7 A8 1,.A3 (amr rg)]
theorem ams(n0:0<N)(n3:N<=3)(a:Int):(EL A5 (Ev FQ A5 (d+49)) (m6.tk 5) (Eo lg) (LG (.Al []) (.v (.B 1)) (.v (.O 56 0)) .AQ .AQ .AQ .AQ .AQ .AQ .AQ .AQ) (ES h (dA a::dP kd A8 mg Cw Cs cur N HX HY))).DF [] [] []
  =H ([],.B0 (LG (.Al [hd1 A8 N]) (.v (.B 1)) (.v (.O 56 0)) (.v (G9 7 A8 1)) (.v (.B N)) (.v (zp A8 N)) .AQ (.Al [.B 1]) .AQ .AQ .AQ),[]):=by
 cases N with
 |zero=>exact absurd n0 (Xf 0)|succ N=>exact GP n3 rfl rfl rfl
theorem amt(a:Int):(EL A5 (Ev FQ A5 (d+49)) (m6.dr 6) (Eo lg) (LG (.Al [x]) (.v (.B 1)) (.v (.O 56 0)) (.v (G9 7 A8 1)) C6 BF .AQ (.Al rw) JL JM .AQ) (ES h (dA a::[]))).DF [] [] []
  =H ([],.B0 (LG (.Al [x,.A3 [.B 23,G9 7 A8 1,.A3 rw],Mr 1]) (.v (.B 1)) (.v (.O 56 0)) (.v (G9 7 A8 1)) C6 BF .AQ (.Al rw) JL JM .AQ),[]):=rfl
def Wt(kd A8:Int)(mg:List V)(Cw t0 cur:Int)(N:Nat)(HX:List V)(HY:List A_)(Gx DK:A_)(AA:List (Int×Nat)):List (Nat×List A_):=dP kd A8 mg Cw t0 cur N HX HY++[(53,[.A6 (AA.map λp=>.B p.1)]),(54,[.A6 ((EW (I AA)).map λp=>.O 17 (3+p))]),
 (17,Gx::LD 2 4 1 A8 (.B 0) .AV::LD 3 5 2 A8 (.B 0) .AV::(OF AA).map λp=>LD (4+p.1) (6+p.1) (3+p.1) A8 (.B 0) (Rk A8 p))]
def dQ:List Nat:=Fy [17]
def OH(A8:Int)(Gx:A_)(GR Fe:V)(AA:List (Int×Nat)):List A_:=Gx::LD 2 4 1 A8 (.B 0) GR::LD 3 5 2 A8 (.B 0) Fe::(OF AA).map λp=>LD (4+p.1) (6+p.1) (3+p.1) A8 (.B 0) (Rk A8 p)
def dR(A8:Int)(AA:List (Int×Nat))(hd:List V):V:=D8 (hd++TV A8 (N6 AA) (JH A8 1) 0 (I AA))
theorem amu(o:HW AA):∀a,((EL A5 (Ev FQ A5 (d+49)) (dO.dr 4) (Eo dQ) (LG (.Al [x1,x2,x3]) (.v (.B 1)) (.v (.O 56 0)) Cn C6 BF .AQ EI JL JM .AQ) (ES h (dA a::Wt kd A8 mg Cw Cs cur (I AA) HX HY Gx DK AA))).DF [17] [] []).map dN
  =H ([],U,[OH A8 Gx .AV (dR A8 AA [x1,x2,x3]) AA]):=by
 refine zl (P:=λAA=>∀a,((EL A5 _ _ (Eo dQ) _ (ES h (dA a::Wt kd A8 mg Cw Cs cur (I AA) HX HY Gx DK AA))).DF [17] [] []).map dN=H ([],U,[OH A8 Gx .AV (dR A8 AA _) AA])) ?_ ?_ ?_ ?_ o
 .exact λa=>rfl
 .exact λw0 a=>#v[]
 .exact λw0 w1=>⟨λa=>#v[],λa=>#v[]⟩
 .exact λw0 w1 w2=>⟨⟨λa=>#v[],λa=>#v[],λa=>#v[]⟩,λa=>#v[],λa=>#v[],λa=>#v[]⟩
theorem amv(a:Int):((EL A5 (Ev FQ A5 (d+49)) (dO.dr 3) (Eo dQ) (LG (.Al []) (.v (.B 1)) (.v (.O 56 0)) Cn C6 BF .AQ EI JL JM .AQ) (ES h (dA a::Wt kd A8 mg Cw Cs cur 0 HX HY Gx DK []))).DF [17] [] []).map dN
  =H ([],U,[OH A8 Gx .AV (dR A8 [] []) []]):=rfl
end
theorem N7{a b:List Nat}(e:(a.all λk=>EO k b)=U):∀k∈a,k∈b:=λk m=>lH (Gm.mp e k m)
theorem zq(p:BD r i=.Al l)(R9:Ar G C e A1 r h (.v x))(g:I l<BU)(k:Ae G C rest (Cq r i (.Al (l++[x]))) h F):Ae G C (.AR (.Bl (.Am i) e) rest) r h F:=by show(match BD r i with|.Al _=>_|.v _=>_|_=>_);rw[p];exact R9.go _ ⟨_,rfl,g,k⟩
theorem Ar.m8(e:BD r i=t)(n:t≠.AQ)(f:Hj h t=H b):Ar G C (.Am i) U r h (.v (.Au b)):=.mk λQ q=>by
 show match BD r i with|.AQ=>False|t=>Cp U Q t h
 rw[e];cases t with
 |AQ=>exact absurd rfl n|_=>exact⟨_,f,q⟩
section
variable{kd A8 Cw Cs cur:Int}{th ret:V}{h:A0}
theorem m9{α β:Type}{l:List α}(le:I l<=3)(f:α->β):(OF l).map (λp=>f p.2)=l.map f:=HV le rfl (λx=>rfl) (λx x=>rfl) (λx x x=>rfl)
theorem amw(n3:N<=3)(h:m<N):(U7 N)[m]?=H (V.B (2+(m:Int))):=
 L8 (HT n3) nofun (λm h=>nz (P:=λm=>(U7 1)[m]?=H (V.B (2+m))) h rfl) (λm h=>I8 h rfl rfl) (λm h=>GP h rfl rfl rfl) m h
theorem amx(n3:N<=3)(zu:ok h)(Wu:h 56=[.A6 (U7 N)]):∀(ps:List (Nat×Int)) (rw:List V) (JL JM:T),(∀p∈ps,-1<=p.2/\p.2<N)->I rw+I ps<1000->
  (∀JL JM,F .B0 (LG t3 (.v (.B 1)) (.v (.O 56 0)) Cn C6 BF .AQ (.Al (rw++ps.map λp=>.B (if p.2<0 then 1 else 2+p.2))) JL JM .AQ) h)->
  GN A5 (AL A5 d) zm [12,13] ok F (ps.map λp=>V.A3 [.B (p.1+1),.B p.2]) (LG t3 (.v (.B 1)) (.v (.O 56 0)) Cn C6 BF .AQ (.Al rw) JL JM .AQ) h:=by
 intro BE;induction BE with
 |nil=>
  rintro rw JL JM o le k;exact Jj zu (by have:=k JL JM;rw[List.map_nil,Oc] at this;exact this)
 |cons p ps ih=>
  rintro rw JL JM o le k;have b:I rw<BU:=BG 1 (.a (.a A2 BB) AF) (.k 1000) AI (.k 100000) A4 [I rw,I ps] le;have op:=o p D0;refine JB (r':=LG t3 _ _ Cn C6 BF ..) zu rfl ?_;have go:∀x:V,x=.B _->jM A5 _ zm _ ok F _ .B0 (LG t3 _ _ Cn C6 BF _ _ (.v (.B (p.1+1))) (.v (.B p.2)) _) h:=λx e=>by
   refine ih (rw++[x]) _ _ (λq m=>o q (DV _ m)) (by simp at le⊢;exact BG 1 (.a (.a A2 BB) AF) (.k 1000) (.a (.a AI A7) AF) (.k 1000) A4 [I rw,I ps] le) λJL JM=>?_
   have:=k JL JM;rw[e,PM];exact this
  refine Vi (z:=decide _) (.AS (.Am rfl) .AO rfl) (λz=>?_) (λz=>?_)
  .exact zq rfl (.Am rfl) b (Gd (go _ (by rw[if_pos (of_decide_eq_true z)])))
  .have z:=of_decide_eq_false z
   refine zq rfl (.AE (.Am rfl) (.Am rfl) ((F5 (by rw[Wu];rfl)).trans ?_)) b (Gd (go _ (by rw[if_neg z])));obtain⟨x,q⟩:=p;dsimp only at z op⊢;clear go k le o;obtain⟨m,rfl⟩:=Ov (Ie.mp z);exact amw n3 (Kf.mp op.2)
def amy:List Nat:=Fy [17,56,84]
theorem amz(n:0<I AA):dR A8 AA [hd1 A8 (I AA),hd2 A8 rg,Mr 1]=PY A8 (N6 AA) rg:=by
 match AA,n with
 |x::AA,_=>rfl
theorem amA(o:HW AA)(rk:N5 (I AA) rg)(D:CJ h)(a:At (m7 kd A8 mg Cw Cs cur (GQ th ret .AV) DK AA) h)(dS:h 55=[.A6 (M9 rg)])(Wu:h 56=[])(mC:h 32=[.A6 (.AV::.O 37 0::HX)])(mD:h 37=LB 1 (.An 118) (.B 7)::HY)
  (k:∀h1,CJ h1->h1 17=OH A8 (GQ th ret .AV) .AV (PY A8 (N6 AA) rg) AA->h1 84=[Jr 0 (1+I AA) 1 Cw Cs]->HU amy h h1->Q .AV h1):AL A5 (d+50) 63 [.O 84 0,.O 90 0,.O 17 2] h Q:=by
 refine R4 _ _ _ _ _ _ rfl ⟨rfl,?_⟩;have a1:At ((56,[])::m7 kd A8 mg Cw Cs cur _ DK AA) h:=λp m=>(D4.mp m).elim (λe=>by clear m;subst e;exact Wu) (a p);refine ck KR KS (λy x=>x.1) [(56,[.A6 _]),(84,[Jr 0 _ 1 Cw Cs])] 3 _ D a1 rfl (amq o.1) λh1 D1 FD j1=>?_;have Wv:h1 56=[.A6 _]:=D9 FD rfl;have zv:h1 84=[Jr 0 _ 1 Cw Cs]:=D9 FD rfl;have amB:=(j1.2.2 32 ()).trans mC;have amC:=(j1.2.2 37 ()).trans mD;have amD:=(j1.2.2 55 ()).trans dS;have kf:∀k o,k∈zo->lk k _=H o->h1 k=o:=λk o m e=>(j1.2.2 k m).trans (D9 a e);have Ww:At (dP kd A8 mg Cw Cs cur _ HX HY) h1:=λp m=>by
  unfold dP at m;simp only[D4,Hz,or_false] at m;rcases m with rfl|rfl|rfl|rfl|rfl|rfl|rfl
  .exact zv
  .exact kf 44 _ () rfl
  .exact kf 81 _ () rfl
  .exact amB
  .exact amC
  .exact Wv
  .exact kf 90 _ () rfl
 have dU:At (Wt kd A8 mg Cw Cs cur _ HX HY _ DK AA) h1:=Ww.Bl λp m=>by
  simp only[D4,Hz,or_false] at m;rcases m with rfl|rfl|rfl
  .exact kf 53 _ () rfl
  .exact kf 54 _ () rfl
  .exact kf 17 _ () rfl
 have fin:∀h2,CJ h2->h2 17=OH A8 _ _ _ AA->HU dQ h1 h2->Q _ h2:=λh2 D2 O6 j2=>k h2 D2 O6 ((j2.2.2 84 ()).trans zv) ⟨D2,j2.2.1.trans j1.2.1,λk m=>(j2.2.2 k (N7 (rfl) k m)).trans (j1.2.2 k (N7 (rfl) k m))⟩;cases AA with
 |nil=>
  refine zj (BE:=[]) 20 D1 dU rfl (λy m=>nomatch m) (amv) λr1 h2 e y j2=>?_;exact fin h2 j2.1 (by injection e) j2
 |cons x zw=>
  have n0:0<I (x::zw):=Nat.zero_lt_succ _;revert n0 o rk Ww dU fin Wv;generalize x::zw=AA;intro o rk Wv Ww dU fin n0;have tr:Hj h1 (.v (.O 56 0))=H U:=by
   have:(h1 56)[0]?=H (.A6 (U7 (I AA))):=by rw[Wv];rfl
   unfold Hj;simp only[this];have o3:=o.1;generalize I AA=n at n0 o3;cases n with
   |zero=>exact absurd n0 (Xf 0)|succ n=>cases n with
    |zero=>rfl|succ n=>cases n with
     |zero=>rfl|succ n=>cases n with
      |zero=>rfl|succ n=>exact absurd o3 (Nat.not_le.mpr (QF 4 n))
  refine DJ (.m8 (t:=.v _) rfl (λz=>nomatch z) tr) ?_;refine ck KR KS (λy x=>x.1) [] 5 _ D1 Ww rfl (ams n0 o.1) λh2 D2 y j2=>?_;have g:=λk m=>j2.2.2 k m;have zx:(h2 55)[0]?=H (.A6 (M9 rg)):=by rw[g 55 (),amD];rfl
  refine Nm (t:=.v (.O 55 0)) (l:=M9 rg) (.AN (.Am rfl) ?_) .AO ?_ (λy q=>nomatch q) ?_
  .have:(h2 90)[0]?=H (LF cur):=by rw[g 90 (),Ww _ (.tail _ (.tail _ (.tail _ (.tail _ (.tail _ (.tail _ (.head _)))))))];rfl
   unfold LL;simp only[this,LF];rfl
  .exact congrArg NK zx
  .refine amx o.1 ?_ ((g 56 ()).trans Wv) _ _ _ _ ?_ ?_ λJL JM=>?_
   .exact congrArg NK zx
   .intro p m
    refine rk.2 p.2 ?_
    have:=Wl (f:=λp:Nat×Int=>p.2) m;rw[show(OF rg).map (λp=>p.2)=rg from(m9 rk.1 id).trans (List.map_id rg)] at this;exact this
   .have:I (OF rg)=I ((OF rg).map (λp=>p.2)):=(Ce _).symm
    rw[this,(m9 rk.1 id).trans (List.map_id rg)]
    have:=rk.1;simp;exact GH (Oq this 1) ()
   .rw [m9 rk.1 (λr:Int=>V.B (if r<0 then 1 else 2+r))]
    refine ck KR KS (l:=[]) (λy x=>x.1) [] 20 _ D2 (λy m=>nomatch m) rfl (amt) λh3 Gw y HL=>?_;have g3:=λk m=>(HL.2.2 k m).trans (g k m);have amE:=λp m=>(g3 p.1 (by
     have:∀p∈Wt kd A8 mg Cw Cs cur (I AA) HX HY (GQ th ret .AV) DK AA,p.1∈[84,44,81,32,37,56,90,53,54,17]:=λp m=>Wl m
     have:=this p m;revert this;generalize p.1=x;revert x;decide)).trans (dU p m)
    refine As ?_;refine zj (BE:=[]) 20 Gw amE rfl (λy m=>nomatch m) (amu o (x2:=hd2 A8 rg)) λr1 h4 e y N3=>?_;exact fin h4 N3.1 (by injection e with e1;rw[e1,amz n0]) ⟨N3.1,N3.2.1.trans (HL.2.1.trans j2.2.1),λk m=>(N3.2.2 k m).trans (g3 k (N7 (rfl) k m))⟩
end
section
variable{w g s n:Nat}{kd A8 Cw Cs cur:Int}{th ret:V}
def zy:List Nat:=[8,9,10,12,24,28,29,38,53,54,67,68]
def zz(A8:Int)(DK:A_)(AA:List (Int×Nat)):List (List A_):=((OG A8 DK DK AA).take 4)++((OG A8 DK DK AA).drop 5)
def Re(kd A8:Int)(mg:List V)(th ret:V)(Cw t0 cur:Int)(DK:A_)(HX:List V)(HY:List A_)(AA:List (Int×Nat))(rg:List Int):List (Nat×List A_):=
 [(17,OH A8 (GQ th ret .AV) (D8 (Ij A8 1 5 (1+I AA+1))) (PY A8 (N6 AA) rg) AA),(84,[Jr 0 (1+I AA+1) 1 Cw t0]),(55,[.A6 (M9 rg)])]++zy.zip (zz A8 DK AA)++
 [(36,[lq]),(44,[Wo kd A8 mg]),(62,[lu]),(81,[Wq]),(82,[OD]),(85,[U6 A8 kd]),(86,[.A6 [.O 87 0]]),(87,[.Ad []]),(88,[.A6 []]),(89,[.Ad []]),(90,[LF cur]),(32,[.A6 (.AV::.O 37 0::HX)]),(37,LB 1 (.An 118) (.B 7)::HY)]
def amF:List Nat:=Fy [8,9,10,12,17,24,28,29,38,53,54,55,56,67,68,84,85,86,87,88,89,90]
def amG:List Nat:=Fy [17,84]
def apU(w g s n:Nat)(A8 kd:Int)(t0 Ck:T):List T:=MA w g s n A8 kd t0 Ck
theorem amH(a:Int):(EL A5 (Ev FQ A5 (d+50)) ((Di.BL.dr 22).tk 1) (Eo amG) (MA w g s n A8 kd t0 Ck) (ES h (dA a::[(17,OH A8 Gx .AV Fe AA),(84,[Jr 0 CC 1 Cw Cs]),(44,[Wo kd A8 mg]),(81,[Wq]),(32,[.A6 (.AV::.O 37 0::HX)]),(37,LB 1 (.An 118) (.B 7)::HY)]))).DF [17,84] [] []
  =H ([],.B0 (MA w g s n A8 kd t0 Ck),[OH A8 Gx (D8 (Ij A8 1 5 (CC+1))) Fe AA,[Jr 0 (CC+1) 1 Cw Cs]]):=rfl
theorem amI(l:n<4):HA h .H7 (.v (.B 1)) (.B (1+n))=H ((Ll 0 n).map λ(k:Nat)=>V.B (k+1:Nat)):=L8 l rfl rfl rfl rfl
theorem amJ{es:Dg}{vs:List V}{f:Nat}(p:I1 A5 (AL A5 d) es r h vs)(z:AL A5 d f vs h λv h1=>∃q:Nat,q<4/\v=.B q/\GN A5 (AL A5 d) body Ac (λx=>True) (Fv A5 (AL A5 d) rest F) ((Ll 0 q).map λ(k:Nat)=>V.B (k+1:Nat)) r h1):
  Ae A5 (AL A5 d) (.AR (.Cm Ac .H7 (.AO (.B 1)) (.C9 .Cu (.AO (.B 1)) (.Ab f es)) body) rest) r h F:=by
 refine p.go _ (DL ?_ z);rintro t h1 ⟨q,JE,rfl,k⟩;refine⟨_,rfl,_,rfl,_,amI JE,λx q=>(nomatch q),?_⟩;have e:Fv A5 _ rest F=λfl r1 h1=>(match fl with|.B0=>Ae A5 (AL A5 d) rest r1 h1 F|.Ag v=>F (.Ag v) r1 h1):=funext λfl=>by cases fl<;>rfl
 rw[e] at k;exact k
theorem amK(D:CJ h)(a:At (ly kd A8 mg th ret Cw Cs DK) h)(Wu:h 56=[])(amL:h 68=[])(mC:h 32=[.A6 (.AV::.O 37 0::HX)])(mD:h 37=LB 1 (.An 118) (.B 7)::HY)
  (k:∀AA rg h1 Ck,HW AA->N5 (I AA) rg->CJ h1->At (Re kd A8 mg th ret Cw Cs (EP s n) DK HX HY AA rg) h1->HU amF h h1->Ae A5 (AL A5 (d+50)) (Di.BL.dr 23) (MA w g s n A8 kd t0 Ck) h1 Q):
  Ae A5 (AL A5 (d+50)) (Di.BL.dr 15) (dF w g s n A8 kd t0) h Q:=by
 have a0:At _ h:=.AR Wu (.AR mC (.AR mD a));refine U' 4 D a rfl a0 (amc) λh1 D1 a1 j1=>?_;refine I2 #[] ?_;refine R4 _ _ _ _ _ _ rfl ⟨rfl,?_⟩;refine aq (.A6 .AH) rfl () ?_;have À:=(j1.2.2 68 (lH rfl)).trans amL;rw[congrArg I À];have n2:∀k,k≠68->Bm h1 68 (.A6 []) k=h1 k:=λk z=>F4 z;have amM:Bm h1 68 _ 68=[.A6 []]:=Vf.trans (congrArg (·++[A_.A6 []]) À);have D2:=D1.AX (n2 _ ()) (n2 _ ());refine zG #[] (DL ?_ (Mw D2 ()));rintro v h3 ⟨p,rfl,p0,p4,Gw,sm⟩;obtain⟨p,rfl⟩:=Ov p0;have p3:=Mv (Kf.mp p4);refine⟨p,GH p3 (),rfl,?_⟩;have m3:∀k∈Fy [68],h3 k=h1 k:=λk m=>(sm k λz=>cj rfl m (EK.mp z)).trans (n2 k (cj rfl m));have a3:=At.AR ((sm 68 ()).trans amM) (a1.AX m3);rw[PT];refine amh (a3.I7 (rfl)) ?_ p [] h3 _ _ _ _ _ _ (Cr (BQ (MT _)) p3) ⟨D3 _,λi p e=>absurd e nofun⟩ Gw (a3.I7 (rfl)) ⟨Gw,rfl,λy y=>rfl⟩;intro AA h4 ED Cn C6 BF Bj EI o Wg f4 N3;refine ET #[] ?_;have a4:=f4.Bl (a3.kp N3);refine amJ #[] (DL ?_ (Mw Wg ()));rintro v h5 ⟨q,rfl,q0,Su,U4,E8⟩;obtain⟨q,rfl⟩:=Ov q0;have F1:=Mv (Kf.mp Su);refine⟨q,HT F1,rfl,?_⟩;have R_:∀k∈Fy [],h5 k=h4 k:=λk m=>E8 k λz=>cj rfl m (EK.mp z);have a5:=a4.AX R_;refine amk o.1 (D9 a5 rfl) (D9 a5 rfl) ?_ q [] h5 _ (Cr (BQ (MT _)) F1) ⟨D3 _,λy m=>absurd m Hz⟩ U4 (D9 a5 rfl) ⟨U4,rfl,λy y=>rfl⟩;intro rg h6 Ck rk mE dS Wx;have Ln:=At.AR dS (a5.kp Wx);refine b4 (Ge #[] ?_);refine amA (kd:=kd) (A8:=A8) (mg:=mg) (Cw:=Cw) (Cs:=Cs) (cur:=EP s n) (th:=th) (ret:=ret) (DK:=DK) o rk mE (Ln.I7 #v[]) dS (D9 Ln rfl) (D9 Ln rfl) (D9 Ln rfl) λh7 WW O6 amN mF=>?_;refine DG ?_;have TL:=At.AR O6 (.AR amN (Ln.kp mF));refine U' 1 WW (TL.I7 #v[]) rfl TL (amH (mg:=mg) (Cw:=Cw) (Cs:=Cs) (HX:=HX) (HY:=HY) (Gx:=GQ th ret .AV) (Fe:=PY A8 (N6 AA) rg) (AA:=AA) (CC:=1+I AA)) λh8 Á Vv Â=>?_;refine k AA rg h8 Ck o rk Á (Vv.I7 #v[]) ⟨Á,?_,λk m=>?_⟩
 .exact (Â.2.1.trans mF.2.1).trans (Wx.2.1.trans ((E8 79 ()).trans (N3.2.1.trans (((sm 79 ()).trans (n2 79 ())).trans j1.2.1))))
 .exact (Â.2.2 k (N7 (rfl) k m)).trans ((mF.2.2 k (N7 (rfl) k m)).trans ((Wx.2.2 k (N7 (rfl) k m)).trans ((R_ k (N7 (rfl) k m)).trans ((N3.2.2 k (N7 (rfl) k m)).trans ((m3 k (N7 (rfl) k m)).trans (j1.2.2 k (N7 (rfl) k m)))))))
end
def N8(w g s:Nat):List Fd:=Jq w g s++[(2,36,H [7])]
def Iv(w g s:Nat):Int:=Df w g s+1
def Ã(w g s n:Nat)(A8 kd en:Int)(t0 Ck:T):List T:=[t0,.v (.O 79 0),.v (.O 80 0),.v (.O 81 0),.v (.O 30 0),.v (.O 82 0),.v (.O 17 0),.v (.B w),.v (.B g),.v (.B s),.AQ,.v (.O 83 0),.v (.O 84 0),.v (.O 57 0),.v (.B (EP s n)),.AQ,.v (.B A8),.v (.B kd),.v (.O 85 0),.v (.O 90 0),.v (.O 17 1),.v (.O 17 2),.v (.O 68 0),Ck,.v (.B en)]++E3 15 .AQ
def amO:List Nat:=Fy [1,2,3,4,5]
def amP(n:Nat)(A8 kd:Int)(h:A0)(d:Nat)(t0 Ck:T)(a:Int)(w g s:Nat):=(EL A5 (Ev FQ A5 (d+50)) ((Di.BL.dr 23).tk 1) (Eo amO) (MA w g s n A8 kd t0 Ck) (ES h (dA a::GC (Jq w g s)))).DF [1,2,3,4,5] [] []
abbrev amQ(n:Nat)(A8 kd:Int)(h:A0)(d:Nat)(t0 Ck:T)(a:Int)(w g s:Nat):Prop:=amP n A8 kd h d t0 Ck a w g s=H ([],.B0 (Ã w g s n A8 kd (Iv w g s) t0 Ck),(GC (N8 w g s)).tail.map Rr)
theorem amR(hw:w<2)(hg:g<2)(hs:s<3)(a:Int):amQ n A8 kd h d t0 Ck a w g s:=‹wgs hw hg hs›
def apV(s n:Nat):List V:=(Wm s n).drop 2
def apW(cl:Int->Int)(s:Nat)(ks:List Int):List A_:=(Wn cl s ks).drop 1
def Ä(ks:List Int):List A_:=(((EW (I ks)).map (·+1)).zip ks).map Wd
def dW(cl:Int->Int)(kd A8:Int)(mg:List V)(GR Fe:V)(s:Nat)(ks:List Int)(AA:List (Int×Nat)):List (Nat×List A_):=
 [(17,OH A8 (GQ (.B (Ir s)) (.B (N1 s)) .AV) GR Fe AA),(84,[Jr 0 (1+I AA+1) 1 (Pq s) (Cs s (I ks))])]++zy.zip (zz A8 (.A6 (Iu (I ks))) AA)++
 [(36,[lq]),(44,[Wo kd A8 mg]),(62,[lu]),(81,[Wq]),(82,[OD]),(11,[.A6 (lP (I ks))]),(18,Ä ks),(23,[.A6 [],.A6 (lY s (I ks))]),(32,[.A6 (Wm s (I ks))]),(37,Wn cl s ks),(48,[.Ad []]),(57,[.A6 (N4 s (I ks))]),(83,[.A6 (Iu (I ks))]),(52,[]),(91,[])]
def apX(cl:Int->Int)(w g s:Nat)(GR Fe:V)(ks:List Int)(AA:List (Int×Nat)):List (Nat×List A_):=GC (N8 w g s)++dW cl (Ex w g s) (Df w g s) (LC w g s) GR Fe s ks AA
def Js(l:List (Int×Int))(f:Int):Option Int:=match l with
 |[]=>AB|p::l=>if p.1=f then H p.2 else Js l f
def Å(s n:Nat):List Int:=(EW n).map λ(k:Nat)=>KU s+k
def U8(s n:Nat):List Int:=(EW n).map λ(k:Nat)=>EP s n+1+k
def H_(s n:Nat):C1:=⟨s,1,EP s n,Pq s,Cs s n,Å s n,U8 s n⟩
def mG(s:Nat)(ks:List Int)(en:Int):Pb:=⟨(EW (I ks)).map λ(k:Nat)=>(k:Int)+1,ks,I ks+2,Ir s,N1 s,en⟩
def Æ(c:Int->Int)(s m:Nat):Nat->List Int->List (Int×Int)
 |_,[]=>[]|i,k::ks=>(KU s+i,c k)::(EP s m+1+i,c k)::Æ c s m (i+1) ks
def Jt(c:Int->Int)(s:Nat)(ks:List Int):List (Int×Int):=(1,7)::(EP s (I ks),7)::(Dk s [(2,Ir s)]++U5 s [(Cs s (I ks),Ir s)]++Æ c s (I ks) 0 ks)
def dX(s n N:Nat)(en:Int):W7 where
 Fb:=n+1
 DX:=en
 Gv:=N+3
 O0:=N+4
 fs:=1
 Bd:=(H_ s n).BA.map (λk=>(k,k))++(if(H_ s n).t0=0 then(if(H_ s n).th=0 then[] else[((H_ s n).th,(H_ s n).th)]) else[((H_ s n).t0,(H_ s n).t0)])
 BV:=(if(H_ s n).t0=0 then[] else[((H_ s n).th,(H_ s n).t0)])++(H_ s n).CS.zip (H_ s n).BA
def Rm(kd A8:Int)(s:Nat)(ks:List Int)(en:Int):List V:=L2 ⟨A8,kd,3⟩ (I ks+2) (N1 s) (Js (Jt id s ks)) (GO (H_ s (I ks)) (mG s ks en) [] 0)
def OI(cl:Int->Int)(kd A8 en:Int)(GR Fe:V)(s:Nat)(ks:List Int)(AA:List (Int×Nat)):List V:=
 GR::Fe::((OF AA).map (Rk A8)++[D8 (HQ ⟨A8,kd,3⟩ (dX s (I ks) (I AA) en) (Js (Jt cl s ks))),D8 [.A3 [.B 12,G9 7 A8 (EP s (I ks))]]])
def dY(en:Int)(N:Nat):List V:=.B 0::.B 0::(Wr N (.B 0)++[.B en,.B 7])
def Ju:Nat->Nat->List Nat
 |0,_=>[]|n+1,i=>i::Ju n (i+1)
def d_{α:Type}:Nat->List α->List (Nat×α)
 |_,[]=>[]|i,a::l=>(i,a)::d_ (i+1) l
def Ç:List Nat:=[10,11,12,17,18,48,84,91]
def dc(kd A8:Int)(N:Nat)(ks:List Int):List A_:=Ä ks++[.CK 2 [(7,.B (I ks+1)),(8,.An 91),(9,.B A8),(10,.B 32),(11,.B (4+N)),(12,.B (-1)),(13,.B 0)],.CK 2 [(7,.B (I ks+2)),(8,.An 91),(9,.B kd),(10,.B 32),(11,.B 1),(12,.B (-1)),(13,.B 0)]]
def mH(cl:Int->Int)(kd A8 en:Int)(GR Fe:V)(s:Nat)(ks:List Int)(AA:List (Int×Nat)):List (List A_):=
 [[.A6 (.AV::(Ju (5+I AA) 0).map λp=>.O 17 p)],[.A6 (.AV::(Ju (I ks+2) 0).map λp=>.O 18 p)],[.Ad ((2,.B 1)::(Ju (4+I AA) 0).map λ(p:Nat)=>((4:Int)+p,V.B (2+p)))],
 GQ (.B (Ir s)) (.B (N1 s)) (D8 (Rm kd A8 s ks en))::(d_ 0 ((dY en (I AA)).zip (OI cl kd A8 en GR Fe s ks AA))).map λp=>LD (2+p.1) (4+p.1) (1+p.1) A8 p.2.1 p.2.2,
 dc kd A8 (I AA) ks,[.Ad ((EW (I ks)).map λ(p:Nat)=>((1:Int)+p,V.B (EP s (I ks)+1+p)))],[Jr 0 (I AA+4) 1 (Pq s) (Cs s (I ks))],
 [.BC ([(72,.B 3),(128,.B 4),(129,.B 5)]++(match I AA with|0=>[]|n+1=>[(115,.B (6+n))])++[(100,.B (6+I AA)),(99,.B (7+I AA))])]]
def dg(w g s n:Nat)(A8 kd en:Int)(mid:Int)(t0 Ck:T):List T:=[t0,.v (.O 79 0),.v (.O 80 0),.v (.O 81 0),.v (.O 30 0),.v (.O 82 0),.v (.O 17 0),.v (.B w),.v (.B g),.v (.B s),.AQ,.v (.O 83 0),.v (.O 84 0),.v (.O 57 0),.v (.B (EP s n)),.AQ,.v (.B A8),.v (.B kd),.v (.O 85 0),.v (.O 90 0),.v (.O 17 1),.v (.O 17 2),.v (.O 68 0),Ck,.v (.B en),.v (.O 91 0),.v (.B mid)]++E3 13 .AQ
def È:List Nat:=Fy [6,8,9,10,11,12,17,18,23,24,28,29,32,37,38,48,52,67,84,91]
def amS(cl op:Int->Int)(ex:List Fd)(w g:Nat)(kd A8 en:Int)(ms:List V)(GR Fe:V)(L:List A_)(h:A0)(d:Nat)(t0 Ck:T)(a:Int)(s:Nat)(AA:List (Int×Nat))(ks:List Int):=(EL A5 (Ev (Wj ex ms op cl) A5 (d+50)) ((Di.BL.dr 24).tk 6) (Eo È) (Ã w g s (I ks) A8 kd en t0 Ck) (ES h (dA a::(6,L)::(GC ex++dW cl kd A8 ms GR Fe s ks AA)))).DF Ç [] []
abbrev É(cl op:Int->Int)(ex:List Fd)(w g:Nat)(kd A8 en:Int)(ms:List V)(GR Fe:V)(L:List A_)(h:A0)(d:Nat)(t0 Ck:T)(a:Int)(s:Nat)(AA:List (Int×Nat))(ks:List Int):Prop:=amS cl op ex w g kd A8 en ms GR Fe L h d t0 Ck a s AA ks=H (ks.map (λk=>ms=ms/\Rj ex ms (op k) k (cl k)),.B0 (dg w g s (I ks) A8 kd en (7+I AA) t0 Ck),mH cl kd A8 en GR Fe s ks AA)
theorem amT(hs:s<3)(hk:I ks<=3)(ho:I AA<=3)(a:Int):É cl op ex w g kd A8 en ms GR Fe L h d t0 Ck a s AA ks:=by
 let P:=λs AA=>∀ks:List Int,I ks<=3->É cl op ex w g kd A8 en ms GR Fe L h d t0 Ck a s AA ks
 have k:P s AA:=by refine GP hs ?_ ?_ ?_<;>exact HV ho ‹k3› (λx=>‹k3›) (λx x=>‹k3›) (λx x x=>‹k3›)
 exact k ks hk
def U9(N q:Nat):List Int:=0::-1::((EW N).map (λ(k:Nat)=>-3-(k:Int))++(EW q).map (λ(k:Nat)=>(k:Int)+1))
def Wy(s n:Nat)(en:Int):List (Nat×V):=[(74,.O 17 0),(22,.B s),(16,.O 83 0),(120,.O 57 0),(121,.O 93 0),(118,.B 1),(119,.B (Pq s)),(102,.B (Cs s n)),(92,.B (EP s n)),(127,.O 91 0),(124,.A3 [.O 58 0,.O 59 0]),(125,.B en),(117,.O 68 0),(94,.O 53 0),(116,.O 94 0),(126,.O 95 0),(123,.O 96 0)]
def Ê:List Nat:=[58,59,92,93,94,95,96]
def Ë(kd A8 en:Int)(s:Nat)(ks:List Int)(N:Nat)(rg:List Int):List (List A_):=[[.A6 (Rm kd A8 s ks en)],[.Ad []],[.BC (Wy s (I ks) en)],[.A6 ((U8 s (I ks)).map .B)],[.A6 (rg.map .B)],[.A6 ((U9 N (I rg)).map .B)],[.Ad []]]
def mJ(kd A8 en:Int)(s:Nat)(ks:List Int)(AA:List (Int×Nat))(rg:List Int)(LH:List A_):List (Nat×List A_):=[(17,GQ (.B (Ir s)) (.B (N1 s)) (D8 (Rm kd A8 s ks en))::LH),(84,[Jr 0 (I AA+4) 1 (Pq s) (Cs s (I ks))]),(48,[.Ad ((EW (I ks)).map λ(p:Nat)=>((1:Int)+p,V.B (EP s (I ks)+1+p)))]),
 (90,[LF (EP s (I ks))]),(55,[.A6 (M9 rg)]),(68,[.A6 (AA.map λp=>.B p.2)]),(83,[.A6 (Iu (I ks))]),(58,[]),(59,[]),(92,[]),(93,[]),(94,[]),(95,[]),(96,[])]
def mK(w g s n:Nat)(A8 kd en:Int)(mid:Int)(t0 Ck:T):List T:=[t0,.v (.O 79 0),.v (.O 80 0),.v (.O 81 0),.v (.O 30 0),.v (.O 82 0),.v (.O 17 0),.v (.B w),.v (.B g),.v (.B s),.AQ,.v (.O 83 0),.v (.O 84 0),.v (.O 57 0),.v (.B (EP s n)),.AQ,.v (.B A8),.v (.B kd),.v (.O 85 0),.v (.O 90 0),.v (.O 17 1),.v (.O 17 2),.v (.O 68 0),Ck,.v (.B en),.v (.O 91 0),.v (.B mid),.AQ,.AQ,.AQ,.AQ,.AQ,.AQ,.v (.O 92 0),.AQ,.AQ,.AQ,.AQ,.AQ,.AQ]
def Ì:List Nat:=Fy [58,59,92,93,94,95,96]
theorem l3{α:Type}{l:List α}(h:I l<=3):l=[]\/(∃a,l=[a])\/(∃a b,l=[a,b])\/∃a b c,l=[a,b,c]:=by
 cases l with
 |nil=>exact .inl rfl|cons a l=>cases l with
  |nil=>exact .inr (.inl ⟨a,rfl⟩)|cons b l=>cases l with
   |nil=>exact .inr (.inr (.inl ⟨a,b,rfl⟩))|cons c l=>cases l with
    |nil=>exact .inr (.inr (.inr ⟨a,b,c,rfl⟩))|cons d l=>exact absurd h (Nat.not_le.mpr (QF 4 _))
theorem n3(h:n<3):n=0\/n=1\/n=2:=by
 cases n with
 |zero=>exact .inl rfl|succ n=>cases n with
  |zero=>exact .inr (.inl rfl)|succ n=>cases n with
   |zero=>exact .inr (.inr rfl)|succ n=>exact absurd h (NT.mpr (QF 3 n))
def amU(s:Nat)(ks:List Int)(AA:List (Int×Nat))(rg:List Int)(w g:Nat)(kd A8 en mid:Int)(LH:List A_)(h:A0)(d:Nat)(t0 Ck:T)(a:Int):Option (List Prop×Fs×List (List A_)):=
 (EL A5 (Ev FQ A5 (d+50)) ((Di.BL.dr 30).tk 1) (Eo Ì) (dg w g s (I ks) A8 kd en mid t0 Ck) (ES h (dA a::mJ kd A8 en s ks AA rg LH))).DF Ê [] []
def amV(s:Nat)(ks:List Int)(AA:List (Int×Nat))(rg:List Int)(w g:Nat)(kd A8 en mid:Int)(LH:List A_)(h:A0)(d:Nat)(t0 Ck:T)(a:Int):Option (List Prop×Fs×List (List A_)):=
 H ([],.B0 (mK w g s (I ks) A8 kd en mid t0 Ck),Ë kd A8 en s ks (I AA) rg)
@[reducible] def Í(s:Nat)(ks:List Int)(AA:List (Int×Nat))(rg:List Int):Prop:=amU s ks AA rg=amV s ks AA rg
def Î(s:Nat)(ks:List Int)(AA:List (Int×Nat)):Prop:=∀rg:List Int,I rg<=3->Í s ks AA rg
def Ï(s:Nat)(ks:List Int):Prop:=∀AA:List (Int×Nat),I AA<=3->Î s ks AA
def Ð(s:Nat):Prop:=∀ks:List Int,I ks<=3->Ï s ks
set_option maxHeartbeats 0 in
theorem M8(hs:s<3):Ð s:=by refine GP (P:=Ð) hs ?_ ?_ ?_<;>refine λks hk=>HV (P:=Ï _) hk ?_ (λx=>?_) (λx x=>?_) (λx x x=>?_)<;>refine λAA ho=>HV (P:=Î _ _) ho ?_ (λx=>?_) (λx x=>?_) (λx x x=>?_)<;>refine λrg hr=>HV (P:=Í _ _ _) hr ?_ (λx=>?_) (λx x=>?_) (λx x x=>?_)<;>kernel_rfl
theorem amW(hs:s<3)(hk:I ks<=3)(ho:I AA<=3)(hr:I rg<=3)(a:Int):
  (EL A5 (Ev FQ A5 (d+50)) ((Di.BL.dr 30).tk 1) (Eo Ì) (dg w g s (I ks) A8 kd en mid t0 Ck) (ES h (dA a::mJ kd A8 en s ks AA rg LH))).DF Ê [] []
  =H ([],.B0 (mK w g s (I ks) A8 kd en mid t0 Ck),Ë kd A8 en s ks (I AA) rg):=
 congrArg (λf=>f w g kd A8 en mid LH h d t0 Ck a) (M8 hs ks hk AA ho rg hr)
def Wz(w g s:Nat):List Fd:=N8 w g s++(match w,g with|1,0=>[((6,1,AB):Fd)]|_,_=>[])
def Gy(w g s:Nat):Int:=match w,g with|1,0=>Iv w g s+1|_,_=>d7 w s
def X0(A8 kd:Int):List (Nat×V):=[(73,.O 82 0),(106,.O 86 0),(108,.O 88 0),(110,.O 89 0),(109,.B 4000),(122,.B 0),(68,.B A8),(94,.B kd),(70,.B 3),(104,.O 97 0)]
def Pr(s n:Nat):List (Int×Int):=(1,7)::(EP s n,7)::(Dk s [(2,Ir s)]++U5 s [(Cs s n,Ir s)])
def kV(l:List (Int×Int)):List (Int×V):=l.map λp=>(p.1,.B p.2)
def amX:List Nat:=[1,2,3,4,5,85,96,97]
def amY(w g s:Nat)(kd A8:Int)(n:Nat):List (List A_):=(GC (Wz w g s)).tail.map Rr++[[.BC (X0 A8 kd)],[.Ad (kV (Pr s n))],[.Ad (kV (Pr s n))]]
def Ñ(w g s n:Nat)(kd A8 en:Int)(LH:List A_)(b:V):List (Nat×List A_):=GC (N8 w g s)++[(85,[U6 A8 kd]),(97,[]),(92,[.BC (Wy s n en)]),(96,[.Ad []]),(17,GQ (.B (Ir s)) (.B (N1 s)) b::LH)]
def OJ(w g s n:Nat)(A8 kd en:Int)(mid:Int)(t0 Ck Jv Jw IU:T):List T:=[t0,.v (.O 79 0),.v (.O 80 0),.v (.O 81 0),.v (.O 30 0),.v (.O 82 0),.v (.O 17 0),.v (.B w),.v (.B g),.v (.B s),.AQ,.v (.O 83 0),.v (.O 84 0),.v (.O 57 0),.v (.B (EP s n)),.AQ,.v (.B A8),.v (.B kd),.v (.O 85 0),.v (.O 90 0),.v (.O 17 1),.v (.O 17 2),.v (.O 68 0),Ck,.v (.B en),.v (.O 91 0),.v (.B mid),.AQ,.AQ,.AQ,.AQ,.AQ,.AQ,.v (.O 92 0),.v (.B (Gy w g s)),Jv,Jw,IU,.AQ,.AQ]
def am0:List Nat:=Fy [1,2,3,4,5,85,96,97]
theorem n2(h:n<2):n=0\/n=1:=by
 cases n with
 |zero=>exact .inl rfl|succ n=>cases n with
  |zero=>exact .inr rfl|succ n=>exact absurd h (NT.mpr (QF 2 n))
theorem n4(h:n<=3):n=0\/n=1\/n=2\/n=3:=(Nat.eq_or_lt_of_le h).elim (λe=>.inr (.inr (.inr e))) λh=>(n3 h).imp id λe=>e.imp id .inl
def UA(w g s n:Nat)(kd A8 en mid:Int)(LH:List A_)(b:V)(h:A0)(d:Nat)(t0 Ck:T)(a:Int):=(EL A5 (Ev FQ A5 (d+50)) ((Di.BL.dr 31).tk 3) (Eo am0) (mK w g s n A8 kd en mid t0 Ck) (ES h (dA a::Ñ w g s n kd A8 en LH b))).DF amX [] []
def UB(w g s n:Nat)(kd A8 en mid:Int)(_:List A_)(_:V)(_:A0)(_:Nat)(t0 Ck:T)(_:Int):Option (List Prop×Fs×List (List A_)):=H ([],.B0 (OJ w g s n A8 kd en mid t0 Ck (.v (.B (Cs s n))) (.v (.B (Ir s))) .AQ),amY w g s kd A8 n)
set_option maxHeartbeats 0 in
theorem am1(hw:w<2)(hg:g<2)(hs:s<3)(hn:n<=3)(a:Int):UA w g s n kd A8 en mid LH b h d t0 Ck a=UB w g s n kd A8 en mid LH b h d t0 Ck a:=by
 have k:UA w g s n=UB w g s n:=by refine I8 (P:=λw=>UA w g s n=UB w g s n) hw ?_ ?_<;>refine I8 (P:=λg=>UA _ g s n=UB _ g s n) hg ?_ ?_<;>refine GP (P:=λs=>UA _ _ s n=UB _ _ s n) hs ?_ ?_ ?_<;>exact L8 (P:=λn=>UA _ _ _ n=UB _ _ _ n) (HT hn) #v[] #v[] #v[] #v[]
 rw[k]
def mL(w s:Nat)(h:A0)(d:Nat):=(Ev (λx=>AB) A5 (d+6) (λx=>A1) 2 [.O 30 0,.A3 [.B 7,.B 0]] (ES h (GC (Wz w 1 s)))).DF [] [] []
theorem am2(hw:w<2)(hs:s<3):mL w s h d=H ([],.B (Pn s),[]):=by
 have k:mL w s=λx x=>H ([],.B (Pn s),[]):=by refine I8 hw ?_ ?_<;>exact GP hs rfl rfl rfl
 rw[k]
theorem am3(hw:w<2)(hs:s<3)(a:At (GC (Wz w 1 s)) h)(q:Q (.B (Pn s)) h):AL A5 (d+6) 2 [.O 30 0,.A3 [.B 7,.B 0]] h Q:=by
 refine jJ (ov:=λy=>AB) (λf t e=>nomatch e) _ _ (λy=>A1) ⟨(λy y y e=>nomatch e),(λy x=>x),λy y y x=>x⟩ _ _ h Q rfl ?_;refine B9.wD (l:=[]) _ [] rfl (N2 ⟨([],_,[]),?_,(λy m=>nomatch m),λh1 y e=>e▸q⟩)
 have:=am2 hw hs (h:=h) (d:=d);unfold mL at this;rw[wE a] at this;exact this
def Hf(g s:Nat)(own k:Int):Int:=match g with|0=>k|_=>if k=Pn s then own else k
def Pu(kd A8 en:Int)(w g s:Nat)(ks:List Int)(N:Nat):List (Nat×List A_):=GC (Wz w g s)++[(82,[OD]),(11,[.A6 (.AV::(Ju (I ks+2) 0).map λp=>.O 18 p)]),(18,dc kd A8 N ks),(83,[.A6 (Iu (I ks))]),(57,[.A6 (N4 s (I ks))]),(93,[.A6 ((U8 s (I ks)).map .B)]),(92,[.BC (Wy s (I ks) en)]),(85,[.BC (X0 A8 kd)])]
def Ò:Cb:=match Di.BL.dr 34 with
 |.AR (.Cm _ _ _ _ b) _=>b|_=>.AH
def am4:Cb:=match Ò with
 |.AR _ (.AR (.Cm _ _ _ _ b) _)=>b|_=>.AH
theorem At.set(a:At l h)(n:k∉l.map (·.1)):At l (Bf h k i o):=λp m=>(CZ λq=>n (by clear n;subst q;exact Wl m)).trans (a p m)
theorem Ó(hw:w<2)(hg:g<2)(hs:s<3)(a:At (Pu kd A8 en w g s ks N) h)(e6:h 96=[.Ad A])(M1:h 97=[.Ad CN])(X3:I A<900)(Rn:I CN<900)
  (kk:∀h1,At (Pu kd A8 en w g s ks N) h1->h1 96=[.Ad (Ba A f (.B k))]->h1 97=[.Ad (Ba CN f (.B (Hf g s (Gy w g s) k)))]->(∀j,j≠96->j≠97->h1 j=h j)->F .B0 (OJ w g s (I ks) A8 kd en mid t0 Ck (.v (.B f)) (.v (.B k)) IU) h1):
  Ae A5 (AL A5 (d+50)) am4 (OJ w g s (I ks) A8 kd en mid t0 Ck (.v (.B f)) (.v (.B k)) IU) h F:=by
 have Ô:96∉(Pu kd A8 en w g s ks N).map (·.1):=();have Õ:97∉(Pu kd A8 en w g s ks N).map (·.1):=();have Ip:∀{h1},At (Pu kd A8 en w g s ks N) h1->(h1 92)[0]?=H _:=λa=>by rw[D9 a rfl];rfl
 have bw:∀{h1},At (Pu kd A8 en w g s ks N) h1->(h1 85)[0]?=H _:=λa=>by rw[D9 a rfl];rfl
 refine Mm #[] (.AE #[] #[] ((DI (Ip a)).trans rfl)) #[] (by rw[e6];rfl) (DC X3 rfl) ?_;have a2:=a.set (i:=0) (o:=.Ad (Ba A f (.B k))) Ô;have Ö:Bf h 96 0 (.Ad (Ba A f (.B k))) 96=[.Ad (Ba A f (.B k))]:=by rw[Ji,e6];rfl
 have X4:Bf h 96 0 (.Ad (Ba A f (.B k))) 97=[.Ad CN]:=(CZ ()).trans M1;have o2:∀j,j≠96->Bf h 96 0 (.Ad (Ba A f (.B k))) j=h j:=λj n=>CZ n;generalize Bf h 96 0 _=h2 at a2 Ö X4 o2;have fin:∀x:Int,x=Hf g s (Gy w g s) k->(F _ _ (Bf h2 97 0 (.Ad (Ba CN f _)))):=λx e=>by subst e;refine kk _ (a2.set Õ) ((CZ ()).trans Ö) (by rw[Ji,X4];rfl) λj n1 n2=>(CZ n2).trans (o2 j n1)
 have po:Ar A5 (AL A5 (d+50)) (.AE (.Am 18) _) _ (OJ w g s (I ks) A8 kd en mid t0 Ck (.v (.B f)) (.v (.B k)) IU) h2 _:=.AE (x:=.An 104) #[] #[] ((DI (bw a2)).trans rfl);clear bw Ip Õ Ô kk a;rcases n2 hg with rfl|rfl
 .exact Mm (.PL (.CF (.Nl (.m8 (t:=.v (.B 0)) rfl (λq=>nomatch q) rfl) rfl)) #[]) po #[] (by rw[X4];rfl) (DC Rn rfl) (Gd (fin k rfl))
 .have OE:At _ h2:=λp m=>a2 p (Im _ m)
  have M8:(h2 30)[0]?=H Pp:=by rw[OE _ D0];rfl
  have pm:Ar A5 (AL A5 (d+50)) (.EB (.Am 4) 6 (.AR (.A3 (.AR (.AW 3 _) _)) _)) _ (OJ w 1 s (I ks) A8 kd en mid t0 Ck (.v (.B f)) (.v (.B k)) IU) h2 _:=
   .EB #[] (by show(match(h2 30)[0]? with|some (.CK c l)=>(match Bw l 6 with|none=>A5.QB c 6|some _=>AB)|_=>AB)=_;rw[M8];rfl) #[] λQ q=>am3 hw hs OE q
  have pc:Ar A5 _ (.CF U (.AR (.Am 8) (.AR (.AS .eq (.Am 36) _) _))) U _ h2 _:=
   .CF (.G8 (.m8 (t:=.v (.B 1)) rfl (λq=>nomatch q) rfl) (.GG (.AS #[] pm rfl)))
  by_cases z:k=Pn s
  .rw [decide_eq_true z] at pc
   exact Mm (.TG pc #[]) po #[] (by rw[X4];rfl) (DC Rn rfl) (Gd (fin _ (if_pos z).symm))
  .rw [decide_eq_false z] at pc
   exact Mm (.PL pc #[]) po #[] (by rw[X4];rfl) (DC Rn rfl) (Gd (fin _ (if_neg z).symm))
def dh(c:Int->Int)(s:Nat)(ks:List Int):Nat->Nat->List (Int×V)->List (Int×V)
 |0,_,A=>A|m+1,i,A=>dh c s ks m (i+1) (Ba (Ba A (KU s+i) (.B (c (ks.getD i 0)))) (EP s (I ks)+1+i) (.B (c (ks.getD i 0))))
def Ø(kd A8:Int)(s N:Nat)(ks:List Int)(i:Nat):=((dc kd A8 N ks)[i]?,Be (N4 s (I ks)) (i:Nat),Be ((U8 s (I ks)).map V.B) (i:Nat),Be (Iu (I ks)) (i:Nat),Be (V.AV::(Ju (I ks+2) 0).map λp=>V.O 18 p) ((i:Int)+1))
def Ù(s:Nat)(ks:List Int)(i:Nat):=(H (Wd (i+1,ks.getD i 0)),H (V.B (KU s+i)),H (V.B (EP s (I ks)+1+i)),H (V.B (i+1)),H (V.O 18 i))
theorem am5(hk:I ks<=3)(hi:i<I ks):Ø kd A8 s N ks i=Ù s ks i:=HV hk (λx h=>absurd h (Mx _)) (λx x h=>nz (P:=λi=>Ø _ _ _ _ _ i=Ù _ _ i) h rfl) (λx x x h=>I8 h rfl rfl) (λx x x x h=>GP h rfl rfl rfl) i hi
theorem am6(hw:w<2)(hg:g<2)(hs:s<3)(hk:I ks<=3):∀(m i:Nat) {h:A0} {Jv Jw IU:T} {A CN:List (Int×V)},i+m=I ks->At (Pu kd A8 en w g s ks N) h->h 96=[.Ad A]->h 97=[.Ad CN]->I A+2*m<800->I CN+2*m<800->
  (∀h1 Jv Jw IU,h1 96=[.Ad (dh id s ks m i A)]->h1 97=[.Ad (dh (Hf g s (Gy w g s)) s ks m i CN)]->(∀j,j≠96->j≠97->h1 j=h j)->F .B0 (OJ w g s (I ks) A8 kd en mid t0 Ck Jv Jw IU) h1)->
  GN A5 (AL A5 (d+50)) Ò [37] (λy=>True) F ((Ll i m).map λ(k:Nat)=>V.B k) (OJ w g s (I ks) A8 kd en mid t0 Ck Jv Jw IU) h:=by
 intro m;induction m with
 |zero=>exact λi h Jv Jw IU A CN e a e6 M1 y y k=>Jj trivial (k h _ _ _ e6 M1 λy y y=>rfl)|succ m ih=>
  intro i h Jv Jw IU A CN e a e6 M1 X3 Rn k;have Q_:=am5 (kd:=kd) (A8:=A8) (N:=N) (s:=s) hk (i:=i) (BG 1 (.a A2 BB) Aa AI Aa A4 [i,m,I ks] (BQ e));have x1:=congrArg (·.1) Q_;have x2:=congrArg (·.2.1) Q_;have x3:=congrArg (·.2.2.1) Q_;have x4:=congrArg (·.2.2.2.1) Q_;have x5:=congrArg (·.2.2.2.2) Q_;refine JB (r':=OJ w g s _ A8 kd en mid t0 Ck Jv Jw _) trivial rfl ?_;have mO:(h 82)[0]?=H OD:=by rw[D9 a rfl];rfl
  have am7:(h 11)[0]?=H (.A6 (.AV::(Ju (I ks+2) 0).map λp=>.O 18 p)):=by rw[D9 a rfl];rfl
  have RX:(h 83)[0]?=H (.A6 (Iu (I ks))):=by rw[D9 a rfl];rfl
  have am8:(h 57)[0]?=H (.A6 (N4 s (I ks))):=by rw[D9 a rfl];rfl
  have am9:(h 93)[0]?=H (.A6 ((U8 s (I ks)).map .B)):=by rw[D9 a rfl];rfl
  have Ip:(h 92)[0]?=H (.BC (Wy s (I ks) en)):=by rw[D9 a rfl];rfl
  have WI:(h 18)[i]?=H (Wd (i+1,ks.getD i 0)):=by rw[D9 a rfl];exact x1
  refine Ea (x:=.B (ks.getD i 0)) (.AN (.AE (.AN #[] ((TF mO).trans rfl)) (.AE (x:=.B i) #[] #[] ((F5 RX).trans x4)) ((F5 am7).trans x5)) ((TF WI).trans rfl)) ?_;refine Nm (.A3 (.AR (.AE (x:=.B i) #[] #[] ((F5 am8).trans x2)) (.AR (.AE (x:=.B i) (.AE #[] #[] ((DI Ip).trans rfl)) #[] ((F5 am9).trans x3)) .AH))) #[] rfl (λy q=>nomatch q) ?_;have l1:=KH (l:=A) (k:=KU s+i) (v:=.B (ks.getD i 0));have l2:=KH (l:=Ba A (KU s+i) (.B (ks.getD i 0))) (k:=EP s (I ks)+1+i) (v:=.B (ks.getD i 0));have l3:=KH (l:=CN) (k:=KU s+i) (v:=.B (Hf g s (Gy w g s) (ks.getD i 0)));have l4:=KH (l:=Ba CN (KU s+i) (.B (Hf g s (Gy w g s) (ks.getD i 0)))) (k:=EP s (I ks)+1+i) (v:=.B (Hf g s (Gy w g s) (ks.getD i 0)));refine JB rfl rfl ?_;refine Ó hw hg hs a e6 M1 (BG 1 (.a (.a A2 (.m 2 BB)) AF) (.k 800) AI (.k 900) A4 [I A,m] X3) (BG 1 (.a (.a A2 (.m 2 BB)) AF) (.k 800) AI (.k 900) A4 [I CN,m] Rn) λh1 a1 Jk Pc o1=>?_;refine JB rfl rfl ?_;refine Ó hw hg hs a1 Jk Pc (By 1 A2 BB 1 (.a (.a A7 (.m 2 Cz)) AF) (.k 800) AI (.k 900) A4 [_,I A,m] l1 X3) (By 1 A2 BB 1 (.a (.a A7 (.m 2 Cz)) AF) (.k 800) AI (.k 900) A4 [_,I CN,m] l3 Rn) λh2 a2 ana Pa o2=>?_;refine Jj rfl ?_;exact ih _ ((J_ i 1 m).trans e) a2 ana Pa (QJ 1 A2 BB 1 A7 Cz 1 (.a (.a Aa (.m 2 Ob)) AF) (.k 800) (.a (.a A2 (.m 2 Er)) AF) (.k 800) A4 [_,_,I A,m] l2 l1 X3) (QJ 1 A2 BB 1 A7 Cz 1 (.a (.a Aa (.m 2 Ob)) AF) (.k 800) (.a (.a A2 (.m 2 Er)) AF) (.k 800) A4 [_,_,I CN,m] l4 l3 Rn) λh3 Jv Jw IU y6 y7 oo=>k h3 Jv Jw IU y6 y7 λj p q=>(oo j p q).trans ((o2 j p q).trans (o1 j p q))
def bdy(l:List V)(mid:Int):Option V:=if 4<=mid then l[(mid-4).toNat]? else AB
def OL(A8:Int)(AA:List (Int×Nat))(rg:List Int):V:=PY A8 (N6 AA) rg
def Ro(A8:Int)(N:Nat):V:=D8 (Ij A8 1 5 (1+N+1))
def Pv(cl:Int->Int)(w g s:Nat)(ks:List Int)(AA:List (Int×Nat))(rg:List Int):Rd where
 w:=⟨⟨Df w g s,Ex w g s,3⟩,(Ju (4+I AA) 4).map λ(p:Nat)=>(p:Int),bdy (OI cl (Ex w g s) (Df w g s) (Iv w g s) (Ro (Df w g s) (I AA)) (OL (Df w g s) AA rg) s ks AA)⟩
 C:=H_ s (I ks)
 t:=mG s ks (Iv w g s)
 K:=Js (Jt cl s ks)
 Pf:=Js (Jt id s ks)
 f:=N6 AA
 B_:=rg
 KN:=U9 (I AA) (I rg)
 kY:=.A3 [.O 58 0,.O 59 0]
 k_:=7+I AA
 cH:=6+I AA
 g:=dX s (I ks) (I AA) (Iv w g s)
set_option synthInstance.maxSize 1000 in
set_option synthInstance.maxHeartbeats 400000 in
theorem Jm.of(h:decide (C.Eb.Nodup/\C.M0.Nodup/\(∀k∈C.M0,k∈C.Eb)/\(C.IQ∉C.M0/\C.IQ∉C.Io++C.HS/\C.IQ≠C.fs)/\(∀k∈C.CS,k∉C.M0/\k∉C.Io/\k≠C.fs)/\C.fs∉C.Io++C.HS/\(∀k∈C.BA,k∉C.HS/\k≠C.fs)/\(C.t0≠0->C.t0∉C.HS/\C.t0≠C.fs/\C.th∉C.Io/\C.th∉C.CS/\C.th≠C.fs/\C.th≠0)/\(C.th≠0->C.t0=0->C.th∉C.HS/\C.th≠C.fs)/\(C.Io++C.HS).Nodup/\(∀k∈C.Io++C.HS,k∈C.Eb)/\I C.CS=I C.BA/\I C.BA<=3)=U):Jm C:=by obtain⟨a,b,c,d,e,f,g,h,i,j,k,l,m⟩:=of_decide_eq_true h;exact Jm.mk a b c d e f g h i j k l m
theorem anb(hs:s<3)(hn:n<=3):Jm (H_ s n):=by refine GP hs ?_ ?_ ?_<;>exact L8 (HT hn) (.of A4) (.of A4) (.of A4) (.of A4)
set_option tactic.hygienic true in
theorem anc:∀{l:List (Int×Int)} {f:Int},(Js l f).isSome=U↔f∈l.map (·.1):=by
 intro BE;induction BE with
 |nil=>
  exact⟨(λe=>nomatch e),(λm=>nomatch m)⟩
 |cons p l ih=>
  rintro f;show(if p.1=f then H p.2 else Js l f).isSome=U↔f∈p.1::_;rw[D4];split
  .rename_i e;exact⟨λx=>.inl e.symm,λx=>rfl⟩
  .rename_i e;rw[ih];exact⟨.inr,λm=>m.resolve_left λq=>e q.symm⟩
def Mn(s n:Nat):List Int:=1::EP s n::(Dk s [2]++U5 s [Cs s n]++(EW n).flatMap λ(k:Nat)=>[KU s+k,EP s n+1+k])
theorem ane(hs:s<3)(hk:I ks<=3):(Jt c s ks).map (·.1)=Mn s (I ks):=by refine GP hs ?_ ?_ ?_<;>exact HV hk rfl (λx=>rfl) (λx x=>rfl) λx x x=>rfl
theorem Ú:∀s<3,∀n<4,(∀f∈Mn s n,f∈(H_ s n).Eb)/\(∀f∈(H_ s n).Eb,f∈Mn s n):=by decide
theorem Û(hs:s<3)(hk:I ks<=3)(f:Int):(Js (Jt c s ks) f).isSome=U↔f∈(H_ s (I ks)).Eb:=by rw[anc,ane hs hk];exact⟨(Ú s hs _ (HT hk)).1 f,(Ú s hs _ (HT hk)).2 f⟩
theorem anf:∀n:Nat,n<4->((EW n).map λ(k:Nat)=>(k:Int)+1).Nodup/\(n:Int)+2∉(EW n).map λ(k:Nat)=>(k:Int)+1:=by decide
theorem ang:∀s:Nat,s<3->((s:Int)=0\/(s:Int)=1\/(s:Int)=2)/\(Pq s=0↔(s:Int)=0)/\∀n:Nat,n<4->(Cs s n=0↔(s:Int)≠2):=by decide
theorem anh(hs:s<3)(hk:I ks<=3):Te (H_ s (I ks)) (mG s ks en) (Js (Jt c s ks)):=
 have h:=ang s hs;have l:=anf _ (HT hk)
 ⟨(Ce _).trans (Ce _).symm,l.1,l.2,h.1,h.2.1,h.2.2 _ (HT hk),λf m=>(Û hs hk f).mpr m⟩
theorem Ü(hn:n<=3):∀{k:Nat},k∈EW n->k<n:=λ{k} m=>(by decide:∀n<4,∀k∈EW n,k<n) n (HT hn) k m
theorem ani(o:HW AA)(rk:N5 (I AA) rg)(st:Int)(m:st∈U9 (I AA) (I rg)):L1 (N6 AA) rg st:=by
 refine⟨?_,?_,rk.2,o.1⟩;all_goals
  unfold U9 at m;simp only[D4,EY,Eh] at m
 .show-2-(I AA)<=st
  rcases m with rfl|rfl|⟨k,hk,rfl⟩|⟨k,hk,rfl⟩
  .exact Ax 1 AK A2 (.s (.s AK (.k 2)) A2) AK A4 [I AA] (CU _)
  .exact Ax 1 AK A2 (.s (.s AK (.k 2)) A2) (.s AK AF) A4 [I AA] (CU _)
  .have:=Ü o.1 hk;exact Ax 1 AI A7 (.s (.s AK (.k 2)) A7) (.s (.s AK (.k 3)) A2) A4 [k,I AA] (DM.mpr this)
  .exact CB 1 AK A2 1 AK A7 (.s (.s AK (.k 2)) A7) AI A4 [k,I AA] (CU k) (CU _)
 .rcases m with rfl|rfl|⟨k,hk,rfl⟩|⟨k,hk,rfl⟩
  .exact Ax 1 AK A2 AK A2 A4 [I rg] (CU _)
  .exact Ax 1 AK A2 (.s AK AF) A2 A4 [I rg] (CU _)
  .exact CB 1 AK A2 1 AK A7 (.s (.s AK (.k 3)) A7) A2 A4 [I rg,k] (CU _) (CU k)
  .have:=Ü rk.1 hk;exact Ax 1 AI A7 AI A7 A4 [k,I rg] (DM.mpr this)
theorem anj(h:p<I AA):Rk A8 (p,AA.getD p (-1,0))=D8 (GA A8 1 4 p (Nv (N6 AA) p) ((N6 AA).PW p)):=by
 show D8 (GA A8 1 4 p (match(AA.getD p _).1 with|.negSucc _=>-1|.ofNat o=>-3-o) (AA.getD p _).2)=D8 (GA A8 1 4 p (if 0<=(AA.getD p _).1 then-3-(AA.getD p _).1 else-1) (AA.getD p _).2);generalize AA.getD p _=x;obtain⟨x,y⟩:=x;cases x with
 |ofNat o=>exact congrArg (λz=>D8 (GA A8 1 4 p z y)) (if_pos (CU o)).symm|negSucc o=>exact congrArg (λz=>D8 (GA A8 1 4 p z y)) (if_neg (Mu.mpr (Int.negSucc_lt_zero o))).symm
section
variable{AA:List (Int×Nat)}
theorem ank(ho:I AA<=3)(h:p<I AA):(Pv cl w g s ks AA rg).w.BL (6+p)=H (Rk (Df w g s) (p,AA.getD p (-1,0))):=by have p3:=Hq h ho;rcases l3 ho with rfl|⟨_,rfl⟩|⟨_,_,rfl⟩|⟨_,_,_,rfl⟩<;>rcases n3 p3 with rfl|rfl|rfl<;>first|rfl|exact absurd h (by simp)
theorem di(ho:I AA<=3):(Pv cl w g s ks AA rg).w.BL 4=H (Ro (Df w g s) (I AA))/\(Pv cl w g s ks AA rg).w.BL 5=H (OL (Df w g s) AA rg)/\
  (Pv cl w g s ks AA rg).w.BL (6+I AA)=H (D8 (HQ ⟨Df w g s,Ex w g s,3⟩ (dX s (I ks) (I AA) (Iv w g s)) (Js (Jt cl s ks))))/\(Pv cl w g s ks AA rg).w.BL (7+I AA)=H (D8 [.A3 [.B 12,G9 7 (Df w g s) (EP s (I ks))]]):=by
 rcases l3 ho with rfl|⟨_,rfl⟩|⟨_,_,rfl⟩|⟨_,_,_,rfl⟩<;>exact⟨rfl,rfl,rfl,rfl⟩
theorem cF(hs:s<3)(hk:I ks<=3):Js (Jt c s ks) 1=H 7/\Js (Jt c s ks) (EP s (I ks))=H 7:=by refine⟨rfl,?_⟩;rcases n3 hs with rfl|rfl|rfl<;>rcases l3 hk with rfl|⟨_,rfl⟩|⟨_,_,rfl⟩|⟨_,_,_,rfl⟩<;>rfl
theorem anl(hs:s<3)(hk:I ks<=3)(o:HW AA)(rk:N5 (I AA) rg):KO (Pv cl w g s ks AA rg) where
 ok:=anb hs hk
 mo:=anh hs hk
 fo:={
  F:=λp hp=>⟨(ank o.1 hp).trans (congrArg H (anj hp)),by show(6:Int)+(p:Int)≠1000;have:=o.1;exact λEu=>QH (QG 1 AI A7 1 A7 (.k 3) 1 (.k 1000) (.a (.k 6) A2) AF AK A4 [p,I AA] (DM.mpr (by assumption)) (DM.mpr this) (Eg Eu.symm))⟩
  CR:=λp hp h0=>by
   have e:AA[p]?=H (AA.getD p (-1,0)):=by rw[Lf,DP hp];rfl
   have:=(o.2 p _ e).2.1;exact DM.mp (CB 1 AI A7 1 Aa A2 Cz A7 A4 [(AA.getD p (-1,0)).fst,p,↑(AA.getD p (-1,0)).fst.toNat] this (KY (Ax 1 AK A2 AK A2 A4 [(AA.getD p (-1,0)).fst] h0)))
  D:=(di o.1).1.trans (by show H (D8 _)=H (D8 (Ij (Df w g s) 1 5 (2+(I AA:Int))));rw[show(1+(I AA:Int)+1)=2+(I AA:Int) by exact En (Co (.a (.a AF A2) AF) (.a (.k 2) A2) A4 [I AA]) (Co (.a (.k 2) A2) (.a (.a AF A2) AF) A4 [I AA])])
  nd:=by decide
  hk:=(cF (c:=cl) hs hk).1}
 hE:=(di o.1).2.1
 yT:=by decide
 hC:=(di o.1).2.2.2
 hG:=(di o.1).2.2.1
 st:=ani o rk
 kc:=λe=>nomatch e
 kg:=by show I (U9 (I AA) (I rg))<900;rcases n4 o.1 with e|e|e|e<;>rcases n4 rk.1 with e'|e'|e'|e'<;>rw[e,e']<;>decide
 kk:=Û hs hk
 Sh:=(cF (c:=cl) hs hk).2
 fs:=rfl
 WL:=rfl
 kh:=rfl
 ob:=by exact λEu=>QH (Ax 1 (.a A2 (.k 4)) (.a A2 (.k 3)) AF AK A4 [I AA] (Eg Eu.symm))
 Bd:=rfl
 BV:=rfl
end
theorem Ý(e:Vp v=H p):v=.A3 (.B p.1::p.2):=by
 cases v with
 |A3 l=>
  cases l with
  |nil=>exact nn e|cons a l=>
   cases a with
   |B m=>exact BR e▸rfl|_=>exact nn e
 |_=>exact nn e
def Qm(l:List V):Bool:=match l with|[.B _]=>U|_=>A1
theorem anm(e:Qm l=U):∃CC,l=[.B CC]:=by
 cases l with
 |nil=>exact Bp e|cons a l=>
  cases a with
  |B m=>
   cases l with
   |nil=>exact⟨m,rfl⟩|cons=>exact Bp e
  |_=>exact Bp e
def mP(p:Int×List V):Bool:=!decide (p.1=3)&&(!decide (p.1=14)&&(!decide (p.1=20)||Qm p.2))
structure Þ(p:Int×List V):Prop where
 a:p.1≠3
 b:p.1≠14
 c:p.1=20->∃CC,p.2=[.B CC]
theorem ß(e:mP p=U):Þ p:=⟨of_decide_eq_false (NJ (C4 e)),of_decide_eq_false (NJ (C4 (AD e))),λz=>(QL.mp (AD (AD e))).elim (λq=>absurd z (of_decide_eq_false (NJ q))) anm⟩
def dj(x:V):Bool:=(Vp x).any mP
theorem ano(e:dj x=U):∃p:Int×List V,x=.A3 (.B p.1::p.2)/\Þ p:=by
 unfold dj at e;cases q:Vp x with
 |none=>rw[q] at e;exact Bp e|some p=>rw[q] at e;exact⟨p,Ý q,ß e⟩
theorem anp(e:(l.all dj)=U):Gh h k l l:=by
 induction l with
 |nil=>exact .AH|cons x l ih=>
  obtain⟨p,rfl,o⟩:=ano (C4 e);exact .AR (.DF o.a o.b o.c) (ih (AD e))
def mQ(f:V->Option Nat):List V->Option Nat
 |[]=>H 0|x::l=>(f x).bind λa=>(mQ f l).bind λb=>H (a+b)
def à(l:List V):Option (List V):=match l with|[.A3 a,_]=>H a|_=>AB
theorem anq(e:à l=H a):∃z,l=[.A3 a,z]:=by
 cases l with
 |nil=>exact nn e|cons x l=>
  cases x with
  |A3 b=>
   cases l with
   |nil=>exact nn e|cons z l=>
    cases l with
    |nil=>exact⟨z,BR e▸rfl⟩|cons=>exact nn e
  |_=>exact nn e
def á(l:List V):Option (List V×List V):=match l with|[.A3 a,.A3 [],.A3 b]=>H (a,b)|_=>AB
theorem anr(e:á l=H x):l=[.A3 x.1,.A3 [],.A3 x.2]:=by
 cases l with
 |nil=>exact nn e|cons a l=>
  cases a with
  |A3 a=>
   cases l with
   |nil=>exact nn e|cons y l=>
    cases y with
    |A3 y=>
     cases y with
     |cons=>exact nn e|nil=>
      cases l with
      |nil=>exact nn e|cons b l=>
       cases b with
       |A3 b=>
        cases l with
        |nil=>exact BR e▸rfl|cons=>exact nn e
       |_=>exact nn e
    |_=>exact nn e
  |_=>exact nn e
def mR(f:V->Option Nat)(s:V):Option Nat:=(Vp s).bind λp=>if p.1=3 then(à p.2).bind (mQ f) else if p.1=14 then(á p.2).bind λq=>(f (.A3 q.1)).bind λa=>(f (.A3 q.2)).bind λb=>if a<1000/\b<1000 then H 1 else AB else if mP p then H 1 else AB
def Pj(n:Nat):V->Option Nat:=Nat.rec (mR λx=>AB) (λx=>mR) n
theorem Rp{α β:Type}{o:Option α}{f:α->Option β}{x:β}(e:o.bind f=H x):∃v,o=H v/\f v=H x:=by
 cases o with
 |none=>exact nn e|some v=>exact⟨v,rfl,e⟩
theorem â [Decidable p]{α:Type}{x y:α}(h:(if p then H x else AB)=H y):p/\H x=H y:=by
 by_cases z:p
 .rw [if_pos z] at h;exact⟨z,h⟩
 .rw [if_neg z] at h;exact nn h
theorem ans(ih:∀{s c},f s=H c->P c s)(e:mQ f l=H c):RC P c l:=by
 induction l generalizing c with
 |nil=>exact BR e▸.nil|cons x l il=>
  obtain⟨a,ea,e⟩:=Rp e;obtain⟨b,eb,e⟩:=Rp e;exact BR e▸.AR (ih ea) (il eb)
theorem ã(ih:∀{s c},f s=H c->P c s)(e0:mR f s=H c):PR P c s:=by
 obtain⟨p,ep,e⟩:=Rp e0;rw[Ý ep];by_cases z:p.1=3
 .obtain ⟨l,el,e⟩:=Rp ((if_pos z).symm.trans e)
  obtain⟨y,el⟩:=anq el;rw[z,el];exact .Lk (ans ih e)
 have e:=(if_neg z).symm.trans e;by_cases u:p.1=14
 .obtain ⟨q,el,e⟩:=Rp ((if_pos u).symm.trans e)
  obtain⟨a,ea,e⟩:=Rp e;obtain⟨b,eb,e⟩:=Rp e;obtain⟨l,e⟩:=â e;rw[u,anr el];exact BR e▸.Mp (ih ea) (ih eb) l.1 l.2
 .obtain ⟨l,e⟩:=â ((if_neg u).symm.trans e)
  have o:=ß l;exact BR e▸.DF o.a o.b o.c
theorem ant(e:Pj n s=H c):Vo n c s:=by
 induction n generalizing s c with
 |zero=>exact ã (λe=>nn e) e|succ n ih=>exact ã (f:=Pj n) (λe=>ih e) e
def Rq(b:V):Prop:=∃c l,c<1000/\Vo 6 c b/\b=.A3 l
theorem Gz(e:((Pj 6 (.A3 [.B 3,.A3 l,z])).any λc=>decide (c<1000))=U):Rq (.A3 [.B 3,.A3 l,z]):=by
 cases q:Pj 6 _ with
 |none=>rw[q] at e;exact Bp e|some c=>rw[q] at e;exact⟨c,_,of_decide_eq_true e,ant q,rfl⟩
section
variable{ks:List Int}
theorem anu(o:HW AA):Rq (OL A8 AA rg):=by
 refine zl (P:=λAA=>Rq (OL A8 AA rg)) ?_ ?_ ?_ ?_ o
 .exact Gz rfl
 .exact λa=>Gz rfl
 .exact λa b=>⟨Gz rfl,Gz rfl⟩
 .exact λa b c=>⟨⟨Gz rfl,Gz rfl,Gz rfl⟩,Gz rfl,Gz rfl,Gz rfl⟩
theorem anv:Rq (Rk A8 p):=by
 obtain⟨i,x,y⟩:=p;show Rq (D8 (GA A8 1 4 i _ y));generalize (match(i,x,y).2.1 with|.negSucc _=>-1|.ofNat o=>-3-(o:Int))=z
 match y with
 |0=>exact Gz rfl|1=>exact Gz rfl|2=>exact Gz rfl|y+3=>exact Gz rfl
theorem anw(hs:s<3)(hk:I ks<=3):Rq (D8 (HQ ⟨A8,kd,3⟩ (dX s (I ks) N en) K)):=by refine GP hs ?_ ?_ ?_<;>exact L8 (HT hk) (Gz rfl) (Gz rfl) (Gz rfl) (Gz rfl)
theorem anx(hs:s<3)(hk:I ks<=3)(o:HW AA):∀b∈OI cl kd A8 en (Ro A8 N) (OL A8 AA rg) s ks AA,Rq b:=λb m=>by
 unfold OI at m;simp only[D4,EY,Eh,Hz,or_false] at m;rcases m with rfl|rfl|⟨p,_,rfl⟩|rfl|rfl
 .exact Gz rfl
 .exact anu o
 .exact anv
 .exact anw hs hk
 .exact Gz rfl
theorem anz(hs:s<3)(hk:I ks<=3):((Rm kd A8 s ks en).all dj)=U/\E1 (Rm kd A8 s ks en) 0 []=[]:=by refine GP hs ?_ ?_ ?_<;>exact HV hk ⟨rfl,rfl⟩ (λx=>⟨rfl,rfl⟩) (λx x=>⟨rfl,rfl⟩) (λx x x=>⟨rfl,rfl⟩)
end
def mS(N:Nat):List V:=.AV::(Ju (5+N) 0).map λp=>.O 17 p
def ä(N:Nat):List (Int×V):=(2,.B 1)::(Ju (4+N) 0).map λ(p:Nat)=>((4:Int)+p,V.B (2+p))
def dm(cl:Int->Int)(kd A8 en:Int)(GR Fe:V)(s:Nat)(ks:List Int)(AA:List (Int×Nat)):List A_:=GQ (.B (Ir s)) (.B (N1 s)) (D8 (Rm kd A8 s ks en))::(d_ 0 ((dY en (I AA)).zip (OI cl kd A8 en GR Fe s ks AA))).map λp=>LD (2+p.1) (4+p.1) (1+p.1) A8 p.2.1 p.2.2
def anA(N:Nat):List (Nat×V):=[(72,.B 3),(128,.B 4),(129,.B 5)]++(match N with|0=>[]|n+1=>[(115,.B (6+n))])++[(100,.B (6+N)),(99,.B (7+N))]
def X5(cl:Int->Int)(w g s:Nat)(ks:List Int)(AA:List (Int×Nat))(rg:List Int):List (Nat×List A_):=
 [(10,[.A6 (mS (I AA))]),(12,[.Ad (ä (I AA))]),(17,dm cl (Ex w g s) (Df w g s) (Iv w g s) (Ro (Df w g s) (I AA)) (OL (Df w g s) AA rg) s ks AA),
 (53,[.A6 (AA.map λp=>.B p.1)]),(57,[.A6 (N4 s (I ks))]),(58,[.A6 (Rm (Ex w g s) (Df w g s) s ks (Iv w g s))]),(59,[.Ad []]),(60,[]),(68,[.A6 (AA.map λp=>.B p.2)]),(82,[OD]),(83,[.A6 (Iu (I ks))]),
 (85,[.BC (X0 (Df w g s) (Ex w g s))]),(86,[.A6 [.O 87 0]]),(88,[.A6 []]),(89,[.Ad []]),(91,[.BC (anA (I AA))]),(92,[.BC (Wy s (I ks) (Iv w g s))]),(93,[.A6 ((U8 s (I ks)).map .B)]),(94,[.A6 (rg.map .B)]),
 (95,[.A6 ((U9 (I AA) (I rg)).map .B)]),(96,[.Ad (kV (Jt id s ks))]),(97,[.Ad (kV (Jt cl s ks))]),(98,[]),(99,[])]
theorem å:BP (kV l) f=(Js l f).map .B:=by
 induction l with
 |nil=>rfl|cons p l ih=>
  show(if p.1=f then H _ else BP (kV l) f)=(if p.1=f then H p.2 else Js l f).map _;by_cases z:p.1=f
  .rw [if_pos z,if_pos z];rfl
  .rw [if_neg z,if_neg z];exact ih
theorem Hg{h:A0}{k:Nat}{o:A_}{l:List A_}(e:h k=o::l):(h k)[0]?=H o:=by rw[e];rfl
section
variable{ks:List Int}
theorem anB(hs:s<3)(hk:I ks<=3):I (kV (Jt c s ks))<64:=by refine GP hs ?_ ?_ ?_<;>exact HV hk (LO rfl) (λx=>LO rfl) (λx x=>LO rfl) (λx x x=>LO rfl)
theorem anC(hk:I ks<=3):N4 s (I ks)=(Å s (I ks)).map .B/\Iu (I ks)=((EW (I ks)).map λ(k:Nat)=>(k:Int)+1).map V.B:=L8 (HT hk) ⟨rfl,rfl⟩ ⟨rfl,rfl⟩ ⟨rfl,rfl⟩ ⟨rfl,rfl⟩
theorem anD(hs:s<3)(hk:I ks<=3)(o:HW AA)(a:At (X5 cl w g s ks AA rg) h):O8 (Pv cl w g s ks AA rg) h:=by
 have Ip:=Hg (D9 (k:=92) a rfl);have anE:=Hg (D9 (k:=58) a rfl);have anF:=Hg (D9 (k:=59) a rfl);obtain⟨f1,f2⟩:=anC (s:=s) hk;obtain⟨b1,b2⟩:=anz (kd:=Ex w g s) (A8:=Df w g s) (en:=Iv w g s) hs hk;refine⟨⟨⟨_,Ip,rfl,rfl,rfl,rfl,rfl,rfl,rfl⟩,?_,Hg (D9 a rfl)⟩,⟨⟨_,Ip,rfl,rfl,rfl,rfl,rfl⟩,?_,⟨_,_,Hg (D9 a rfl),rfl,rfl⟩⟩,⟨⟨_,Ip,rfl,rfl,rfl⟩,Hg (D9 a rfl),?_,?_⟩,⟨_,Ip,rfl,rfl⟩,Hg (D9 a rfl),?_,⟨_,Hg (D9 a rfl),λf=>å,anB hs hk⟩,⟨_,Hg (D9 a rfl),λf=>å⟩,?_⟩
 .exact (Hg (D9 a rfl)).trans (by rw[f1];rfl)
 .exact (Hg (D9 a rfl)).trans (by rw[f2];rfl)
 .refine (Hg (D9 a rfl)).trans ?_
  exact HV o.1 rfl (λx=>rfl) (λx x=>rfl) (λx x x=>rfl)
 .refine (Hg (D9 a rfl)).trans ?_
  exact HV o.1 rfl (λx=>rfl) (λx x=>rfl) (λx x x=>rfl)
 .refine ⟨_,Hg (D9 a rfl),?_⟩
  exact HV o.1 ⟨rfl,rfl,rfl,rfl⟩ (λx=>⟨rfl,rfl,rfl,rfl⟩) (λx x=>⟨rfl,rfl,rfl,rfl⟩) (λx x x=>⟨rfl,rfl,rfl,rfl⟩)
 .exact .mk (.Lk (anp b1)) (Ds _) anE (anF.trans (congrArg (λz=>H _) b2.symm))
theorem æ(l:j<n):(Ju n i)[j]?=H (j+i):=by
 induction n generalizing i j with
 |zero=>exact absurd l (Mx j)|succ n ih=>
  cases j with
  |zero=>exact congrArg H (MT i).symm|succ j=>exact(ih (zB l)).trans (congrArg H (J_ j i 1))
theorem anG(l:j<n):BP ((Ju n i).map λ(p:Nat)=>((4:Int)+p,V.B (2+p))) ((4:Int)+(j+i:Nat))=H (.B (2+(j+i:Nat))):=by
 induction n generalizing i j with
 |zero=>exact absurd l (Mx j)|succ n ih=>
  cases j with
  |zero=>rw[MT];exact if_pos rfl|succ j=>
   refine(if_neg λq=>?_).trans (J_ j i 1▸ih (zB l));have q:=xm (Int.add_left_cancel q);exact Xf i (Hq (HT (QF i j)) (BQ ((J_ j 1 i).symm.trans q.symm)))
theorem anH(e:l[j]?=H a):(d_ i l)[j]?=H (j+i,a):=by
 induction l generalizing i j with
 |nil=>exact absurd e nofun|cons b l ih=>
  cases j with
  |zero=>rw[MT];exact congrArg (λx=>H _) (BR e)|succ j=>exact(ih e).trans (congrArg (λx=>H (x,a)) (J_ j i 1))
theorem anI{i:Nat}(o:HW AA)(anJ:h 10=[.A6 (mS (I AA))])(iH:h 12=[.Ad (ä (I AA))])(mO:h 82=[OD])(O6:h 17=dm cl kd A8 en GR Fe s ks AA)(e:(OI cl kd A8 en GR Fe s ks AA)[i]?=H b):FnAt h (4+i) b:=by have l:I (OI cl kd A8 en GR Fe s ks AA)=4+I AA/\I (dY en (I AA))=4+I AA:=HV o.1 ⟨rfl,rfl⟩ (λx=>⟨rfl,rfl⟩) (λx x=>⟨rfl,rfl⟩) (λx x x=>⟨rfl,rfl⟩);have li:=l.1▸(Dd.mp e).1;have lr:=l.2.symm▸li;have z:=anH (i:=0) ((List.getElem?_zip_eq_some (z:=((dY en _)[i],b))).mpr ⟨DP lr,e⟩);have f:=(GY (f:=λp:Nat×V×V=>LD (2+p.1) (4+p.1) (1+p.1) A8 p.2.1 p.2.2)).trans (congrArg _ z);have u:=Hq (cB li) (BQ (J_ 4 _ 1));have m:=(GY (f:=λp=>V.O 17 p)).trans (congrArg _ (æ (i:=0) u));exact⟨_,_,_,_,2+i,i+1,_,_,Hg mO,rfl,rfl,Hg iH,(if_neg λq=>Na (Hq () (QE 4 i)) (xm q)).trans (anG li),Hg anJ,(Lw (i:=2+i)).trans ((congrArg (λk=>(mS _)[k]?) (Xp 2 i)).trans m),(congrArg (·[i+1]?) O6).trans f,rfl⟩
end
theorem anK(ho:I AA<=3):I (OI cl kd A8 en GR Fe s ks AA)=4+I AA:=HV ho rfl (λx=>rfl) (λx x=>rfl) (λx x x=>rfl)
theorem anL(hs:s<3)(hk:I ks<=3)(o:HW AA)(a:At (X5 cl w g s ks AA rg) h):Pre (Pv cl w g s ks AA rg).w h (X0 (Df w g s) (Ex w g s)) (.O 97 0) (.O 88 0) 4000 [] []:=by
 refine⟨D9 a rfl,rfl,rfl,(by decide:(10)<50),λy y y=>rfl,λh2 s2 e C3 m l=>?_⟩;have e2:∀k x,k∈Vu->k≠85->lk k _=H x->h2 k=x:=λk x m n z=>(e k m n).trans (D9 a z);refine⟨m,e2 86 _ () () rfl,e2 60 _ () () rfl,⟨88,0,l,.inl rfl,Hg (e2 88 _ () () rfl)⟩,⟨[],e2 89 _ () () rfl,V4,(λk m=>nomatch m),(λmid v q=>nomatch q)⟩,λmid b q=>?_,?_⟩
 .have q:(if 4<=mid then(OI cl _ _ _ _ _ s ks AA)[(mid-4).toNat]? else AB)=H b:=q
  by_cases z:4<=mid
  .rw [if_pos z] at q
   have lt:=(Dd.mp q).1;rw[anK o.1] at lt;have em:mid=4+((mid-4).toNat):=by rw[S6 (nV z),Int.add_comm,Int.sub_add_cancel]
   refine⟨?_,?_,anx hs hk o b (HE q)⟩
   .rw [em]
    exact Eh.mpr ⟨_,HE (æ lt),congrArg _ (Xp _ 4)⟩
   .rw [em]
    exact anI o (e2 10 _ () () rfl) (e2 12 _ () () rfl) (e2 82 _ () () rfl) (e2 17 _ () () rfl) q
  .rw [if_neg z] at q;cases q
 .show I ((Ju _ 4).map λ(p:Nat)=>(p:Int))<=100
  have l:=o.1;exact L8 (HT l) (LO rfl) (LO rfl) (LO rfl) (LO rfl)
theorem anM(hs:s<3)(hk:I ks<=3)(o:HW AA)(rk:N5 (I AA) rg)(D:CJ h)(a:At (X5 cl w g s ks AA rg) h)(Wa:(h 79)[0]?=H (.A6 nums))(ln:I nums<=40)(rl:I r=40)
  (r1:BD r 1=.v (.O 79 0))(r2:BD r 2=.v (.O 80 0))(Tv:BD r 33=.v (.O 92 0))(Tw:BD r 18=.v (.O 85 0)):
  Ae A5 (AL A5 (d+50)) (Di.BL.dr 35) r h λfl x h'=>fl.Av=.Au U:=
 alb (anl hs hk o rk) (anL hs hk o a) (anD hs hk o a) D (D9 a rfl) (D9 a rfl) Wa ln rl r1 r2 Tv Tw
def X6(k:Int):Int:=if 16<=k then 1 else 0
def mT(v:V):Option (Int×Int):=match v with|.A3 (.B t::.B p::_)=>H (t,p)|_=>AB
def mU(v:V):Option Int:=match v with|.B i=>H i|_=>AB
theorem ç(e:mU v=H i):v=.B i:=by
 cases v with
 |B j=>exact congrArg _ (BR e)|_=>exact nn e
theorem anN(e:mT v=H x):∃more,v=.A3 (.B x.1::.B x.2::more):=by
 cases v with
 |A3 l=>
  cases l with
  |nil=>exact nn e|cons a l=>
   cases a with
   |B t=>
    cases l with
    |nil=>exact nn e|cons b l=>
     cases b with
     |B p=>exact⟨l,BR e▸rfl⟩|_=>exact nn e
   |_=>exact nn e
 |_=>exact nn e
theorem mV{α:Type}{f:V->Option α}{x:α}(e:o.bind f=H x):∃v,o=H v/\f v=H x:=by
 cases o with
 |none=>exact nn e|some v=>exact⟨v,rfl,e⟩
def dw(ex:List Fd)(ms:List V)(o k res:Int)(x:Int×Int):Prop:=0<=k/\k<I ((LA++ex).map U0)/\(Be ((LA++ex).map U0) k).bind mT=H x/\(Be ((LA++ex).map lK) k).bind mU=H o/\
 ((o=0/\res=k)\/(o=1/\0<=x.2/\((x.1=6/\res=k)\/(x.1=7/\(x.2<I ms/\(Be ms x.2).bind mU=H res\/¬x.2<I ms/\res=k)))))
def mW(ex:List Fd)(ms:List V)(o k res:Int)(x:Int×Int):Decidable (dw ex ms o k res x):=by unfold dw;infer_instance
theorem dw.ok(e:dw ex ms o k res x):Rj ex ms o k res:=by
 obtain⟨a,b,c,d,f⟩:=e;obtain⟨_,c,c'⟩:=mV c;obtain⟨m,rfl⟩:=anN c';obtain⟨_,d,d'⟩:=mV d;obtain rfl:=ç d';refine⟨_,_,m,a,b,c,d,f.imp_right λf=>⟨f.1,f.2.1,f.2.2.imp_right λg=>⟨g.1,g.2.elim (λq=>?_) λq=>?_⟩⟩⟩
 .obtain ⟨_,r,r'⟩:=mV q.2
  obtain rfl:=ç r';rw[if_pos q.1];exact r
 .rw [if_neg q.1]
  exact q.2
def è(ex:List Fd)(ms:List V)(o k res:Int):Bool:=@decide _ (mW ex ms o k res (((Be ((LA++ex).map U0) k).bind mT).getD (0,0)))
def anO(w g s:Nat):Bool:=(M7 w g s).all λk=>è (Jq w g s) (LC w g s) (X6 k) k (Hf g s (Gy w g s) k)&&è (N8 w g s) (LC w g s) (X6 k) k (Hf g s (Gy w g s) k)
theorem é(hw:w<2)(hg:g<2)(hs:s<3):anO w g s=U:=‹wgs hw hg hs›
theorem ê(hw:w<2)(hg:g<2)(hs:s<3):(∀k∈M7 w g s,Rj (Jq w g s) (LC w g s) (X6 k) k (Hf g s (Gy w g s) k))/\(∀k∈M7 w g s,Rj (N8 w g s) (LC w g s) (X6 k) k (Hf g s (Gy w g s) k)):=
 ⟨λk m=>(@of_decide_eq_true _ (mW ..) (EF.mp (Gm.mp (é hw hg hs) k m)).1).ok,λk m=>(@of_decide_eq_true _ (mW ..) (EF.mp (Gm.mp (é hw hg hs) k m)).2).ok⟩
def anP(kd A8 cur:Int)(rg:List Int):List (Nat×List A_):=[(55,[.A6 (M9 rg)]),(85,[U6 A8 kd]),(86,[.A6 [.O 87 0]]),(88,[.A6 []]),(89,[.Ad []]),(90,[LF cur])]++[58,59,60,92,93,94,95,96,97,98,99].map λk=>(k,[])
def mX(ex:List Fd)(cl:Int->Int)(w g s:Nat)(ks:List Int)(AA:List (Int×Nat))(rg:List Int):List (Nat×List A_):=
 GC ex++(dW cl (Ex w g s) (Df w g s) (LC w g s) (Ro (Df w g s) (I AA)) (OL (Df w g s) AA rg) s ks AA++anP (Ex w g s) (Df w g s) (EP s (I ks)) rg)
def anQ:List Nat:=Fy [96,97]
abbrev dz:DB->List T->A0->Prop:=λfl x x=>fl.Av=.Au U
def anR(w g s:Nat)(ks:List Int)(N:Nat)(t0 Ck Jv Jw IU:T):List T:=OJ w g s (I ks) (Df w g s) (Ex w g s) (Iv w g s) (7+N) t0 Ck Jv Jw IU
theorem ë(hs:s<3)(hk:I ks<=3):dh c s ks (I ks) 0 (kV (Pr s (I ks)))=kV (Jt c s ks)/\I (kV (Pr s (I ks)))<=4:=by rcases n3 hs with rfl|rfl|rfl<;>rcases l3 hk with rfl|⟨_,rfl⟩|⟨_,_,rfl⟩|⟨_,_,_,rfl⟩<;>exact⟨rfl,of_decide_eq_true rfl⟩
def ì(cl:Int->Int)(w g s:Nat)(ks:List Int)(AA:List (Int×Nat))(rg:List Int)(ex:List Fd)(anS:List (Nat×V))(anT anU:List A_):List (Nat×List A_):=GC ex++[(11,[.A6 (.AV::(Ju (I ks+2) 0).map λp=>.O 18 p)]),(18,dc (Ex w g s) (Df w g s) (I AA) ks),(85,[.BC anS]),(96,anT),(97,anU)]++(X5 cl w g s ks AA rg).filter λp=>EO p.1 [10,12,17,53,57,58,59,60,68,82,83,86,88,89,91,92,93,94,95,98,99]
theorem anV(hw:w<2)(hg:g<2)(hs:s<3)(hk:I ks<=3)(o:HW AA)(rk:N5 (I AA) rg)(D:CJ h)(a:At (ì (Hf g s (Gy w g s)) w g s ks AA rg (Wz w g s) (X0 (Df w g s) (Ex w g s)) [.Ad (kV (Pr s (I ks)))] [.Ad (kV (Pr s (I ks)))]) h):
  Ae A5 (AL A5 (d+50)) (Di.BL.dr 34) (anR w g s ks (I AA) t0 Ck Jv Jw IU) h dz:=by
 obtain⟨nums,ad,Wa,zA,a0,ln⟩:=id D;have RX:=Hg (D9 a (k:=83) (o:=[.A6 (Iu (I ks))]) (rfl));have ll:I (Iu (I ks))=I ks:=by rcases n4 hk with e|e|e|e<;>rw[e]<;>rfl
 refine Nm (.Aj #[] ((IJ RX).trans (congrArg H ll))) #[] (TJ (BG 1 A2 (.k 3) AI (.k 1000) A4 [I ks] hk)) (λx q=>nomatch q) ?_;have st:(λh'=>Gl h' .DU (.v (.B (I ks:Int))) .AV (Ho 0 (I ks)))=λx=>True:=funext λh'=>eq_true trivial;rw[st,PT];obtain⟨f1,f0⟩:=ë hs hk;obtain⟨f2,_⟩:=ë (c:=Hf g s (Gy w g s)) hs hk;have anW:At (Pu (Ex w g s) (Df w g s) (Iv w g s) w g s ks (I AA)) h:=At.I7 a #v[];refine am6 (d:=d) hw hg hs hk (I ks) 0 (Fl (Ei (.a AK A2) A2 A4 [I ks]) (Ei A2 (.a AK A2) A4 [I ks])) anW (D9 a (k:=96) #v[]) (D9 a (k:=97) #v[]) (By 1 A2 (.k 4) 2 A7 (.k 3) (.a (.a A2 (.m 2 A7)) AF) (.k 800) A4 [I (kV (Pr s (I ks))),I ks] f0 hk) (By 1 A2 (.k 4) 2 A7 (.k 3) (.a (.a A2 (.m 2 A7)) AF) (.k 800) A4 [I (kV (Pr s (I ks))),I ks] f0 hk) λh1 Jv Jw IU e6 M1 oo=>?_;rw[f1] at e6;rw[f2] at M1;have D1:CJ h1:=D.AX (oo _ () ()) (oo _ () ());have j1:HU anQ h h1:=⟨D1,oo _ () (),λk m=>oo k (λz=>by subst z;revert m;decide) (λz=>by subst z;revert m;decide)⟩;have a1:At (X5 (Hf g s (Gy w g s)) w g s ks AA rg) h1:=At.I7 (At.Bl (l:=[(96,[.Ad _]),(97,[.Ad _])]) (λp m=>by
  rcases D4.mp m with rfl|m
  .exact e6
  .rw [EK.mp m];exact M1) (a.kp j1)) #v[]
 exact anM (d:=d) hs hk o rk D1 a1 (by rw[oo _ () (),Wa];rfl) (by rw[Ce];exact ln) rfl rfl rfl rfl rfl
theorem anY(hw:w<2)(hg:g<2)(hs:s<3)(hk:I ks<=3)(o:HW AA)(rk:N5 (I AA) rg)(D:CJ h)
  (a:At (Ç.zip (mH (Hf g s (Gy w g s)) (Ex w g s) (Df w g s) (Iv w g s) (Ro (Df w g s) (I AA)) (OL (Df w g s) AA rg) s ks AA)++(mX (N8 w g s) (Hf g s (Gy w g s)) w g s ks AA rg).filter λp=>EO p.1 È) h):
  Ae A5 (AL A5 (d+50)) (Di.BL.dr 30) (dg w g s (I ks) (Df w g s) (Ex w g s) (Iv w g s) (7+I AA) t0 Ck) h dz:=by
 have al:At (mJ (Ex w g s) (Df w g s) (Iv w g s) s ks AA rg (dm (Hf g s (Gy w g s)) (Ex w g s) (Df w g s) (Iv w g s) (Ro (Df w g s) (I AA)) (OL (Df w g s) AA rg) s ks AA).tail) h:=At.I7 a #v[];refine U' 1 D al rfl a (amW hs hk o.1 rk.1) λh1 D1 a1 j1=>?_;have a2:At (ì (Hf g s (Gy w g s)) w g s ks AA rg (N8 w g s) [(73,.O 82 0),(106,.O 86 0),(108,.O 88 0),(110,.O 89 0),(109,.B 4000),(122,.B 0),(68,.B (Df w g s)),(94,.B (Ex w g s)),(70,.B 3)] [.Ad []] []) h1:=At.I7 a1 #v[];have mY:At (Ñ w g s _ _ _ _ (dm _ _ _ _ _ _ s ks AA).tail _) h1:=At.I7 a2 (rfl);refine U' 3 D1 mY rfl a2 (am1 hw hg hs hk) λh2 D2 a3 j2=>?_;exact anV hw hg hs hk o rk D2 (At.I7 a3 #v[])
theorem an0(hw:w<2)(hg:g<2)(hs:s<3)(hk:I ks<=3)(km:∀x∈ks,x∈M7 w g s)(o:HW AA)(rk:N5 (I AA) rg)(D:CJ h)(a:At (mX (Jq w g s) (Hf g s (Gy w g s)) w g s ks AA rg) h):
  Ae A5 (AL A5 (d+50)) (Di.BL.dr 23) (MA w g s (I ks) (Df w g s) (Ex w g s) t0 Ck) h dz:=by
 have al:=λp m=>a p (Im _ m);refine U' 1 D al rfl a (amR hw hg hs) λh1 D1 a1 j1=>?_;have a2:At (mX (N8 w g s) (Hf g s (Gy w g s)) w g s ks AA rg) h1:=At.I7 a1 #v[];have OE:At _ h1:=λp m=>a2 p (Im _ m);have mY:At ((6,h1 6)::(GC _++dW _ _ _ _ _ _ s ks AA)) h1:=λp m=>by
  rcases D4.mp m with rfl|m
  .rfl
  .exact (EY.mp m).elim (λm=>OE p m) λm=>a2 p (IG _ (Im _ m))
 refine L6 (ov:=Wj _ _ X6 _) (R:=λfl os=>fl=.B0 _/\os=mH _ _ _ _ _ _ s ks AA) zR zS
  (λh2 j=>⟨j.1,λp m=>(j.2.2 p.1 ?_).trans (OE p m)⟩) D1 a2 (L7 mY) rfl rfl
  (λa=>N2 ⟨_,_,_,amT hs hk o.1 a,(λp m=>?_),rfl,rfl⟩)
  (λfl os h2 r e FD Dc=>?_)
 .have:∀p∈GC (N8 w g s),p.1∈[30,1,2,3,4,5]:=λp m=>Wl m
  have:=this p m;revert this;generalize p.1=x;revert x;decide
 .obtain ⟨x,hx,rfl⟩:=Eh.mp m
  exact⟨rfl,(ê hw hg hs).2 x (km x hx)⟩
 .obtain ⟨rfl,rfl⟩:=r
  exact anY hw hg hs hk o rk Dc.1 ((Pk e).Bl FD)
theorem an1(D:CJ h)(a:At U1 h):Ae A5 (AL A5 (d+50)) (Di.BL.dr 2) (t0::r2.tail) h dz:=by refine alG D a λw g s ks h1 hw hg hs hk km D1 a1=>?_;refine alK hw hg hs D1 a1 λh2 D2 a2=>?_;refine alV hk (λk m=>(ê hw hg hs).1 k (km k m)) D2 a2 λL h3 lL Gw a3=>?_;refine alY hw hg hs hk lL Gw a3 λh4 Wg a4=>?_;refine al6 hw hg hs Wg a4 λh5 U4 a5=>?_;have an2:=λp m=>a5 p (Im _ m);refine amK (HX:=(Wm s _).drop 2) (HY:=(Wn _ s ks).drop 1) U4 an2 (D9 a5 rfl) (D9 a5 rfl) (D9 a5 rfl) (D9 a5 rfl) λAA rg h6 Ck o rk mE Ln Wx=>?_;exact an0 hw hg hs hk km o rk mE (At.I7 (At.Bl Ln (a5.kp Wx)) #v[])
theorem an3{nums:List Int}:Ae A5 (AL A5 (d+50)) Di.BL (.DT (nums.map .B)::E3 39 .AQ) (λx=>[]) λfl x x=>fl.Av=.Au U:=by
 have lt:I (nums.take 40)<=40:=by rw[qk];exact Nat.min_le_left ..
 refine aq (l:=(nums.take 40).map .B) (.mk λQ q=>⟨_,rfl,_,rfl,?_⟩) rfl ?_ ?_
 .rw [List.map_take] at q
  exact q
 .rw [Ce];exact BG 1 A2 (.k 40) AI (.k 100000) A4 [I (List.take 40 nums)] lt
 .refine R7 (b6 (KD (o':=.BC [(103,.O 79 0)]) #[] #[] rfl (KD (o':=.BC [(103,.O 79 0),(24,.B 0)]) #[] #[] rfl (b7 ?_))))
  refine an1 ⟨_,0,rfl,rfl,(Co AK AK A4 []),lt⟩ λp m=>?_
  have:p∈U1->p.2=[]/\p.1≠79/\p.1≠80:=λm=>by obtain⟨k,hk,rfl⟩:=Eh.mp m;exact⟨rfl,λz=>by subst z;revert hk;decide,λz=>by subst z;revert hk;decide⟩
  obtain⟨e,n1,n2⟩:=this m;rw[e,F4 n2,F4 n1]
end
section
open PySem PySem.W PySem.Calls PyProof.Rows PySem.SeqAt
theorem an4(e:Qw[f]?=H F):f<87:=(Dd.mp e).1
theorem í(e:Qw[f]?=H F):∃o fd body ps c,Nh (PB w h y nl) (Jg f) F o fd body ps c/\c.Bt=aS f:=by obtain⟨x,e1,q⟩:=aU (Nk (agx (y:=y) (nl:=nl)) (an4 e));obtain⟨F',e2,q⟩:=aU q;cases e.symm.trans e2;obtain⟨b,e3,q⟩:=aU q;exact⟨_,_,_,_,_,agu (ur e1) (agv e3) (C4 q) (AD q),rfl⟩
theorem an5(g:h.Ns mainGlobals mg)(y:YP w h){n:Str}{v:AG}(e:Le (EC w.params) 3 n=H v):mg n=H v:=by obtain⟨o,es,ep,e1,e2,_,f⟩:=g;obtain⟨c,d,es',apY,sl,x,ho,h1,h2⟩:=uV e;cases(Sy y _ _ ho).symm.trans e1;clear Zcd;cases e2;rw[<-f n];unfold nsFind findBy;rw[<-Array.find?_toList,h1,<-h2];rfl
theorem an6(w:Well P h v d)(e:WShape.has R d .int=U):∃i t,v=.int i t:=by
 cases w with
 |int i t=>exact⟨i,t,rfl⟩|_=>exact Bp e
inductive an7(P:FF)(h:Ca)(v:AG)(d:WData):Prop
 |mk (a:BJ) (vs:List AG) (xs:List WData) (e:d=.list xs) (q:v=.ref a) (o:h.get? a=H {cls:=.type "list",data:=.seq vs.toArray}) (w:WellAll P h vs xs)
theorem an8(w:Well P h v d)(e:WShape.has R d (.list .int)=U):an7 P h v d:=by
 cases w with
 |list o w=>exact⟨_,_,_,rfl,rfl,o,w⟩|_=>exact Bp e
inductive an9(h:Ca)(n:Nat)(vs:List AG):Prop
 |mk (nums:List Int) (l1:I vs=I nums) (l2:n=I nums) (r:C5 Ld (λx=>[]) h (nums.map V.B) vs)
theorem ints_of(e:î R xs .int=U)(wl:WellAll P h vs xs):an9 h (I xs) vs:=by
 induction xs generalizing vs with
 |nil=>cases wl;exact⟨[],rfl,rfl,rfl⟩
 |cons d ds ih=>
  cases wl with
  |cons a b=>
   obtain⟨nums,l1,l2,r⟩:=ih (AD e) b;obtain⟨i,t,rfl⟩:=an6 a (C4 e);exact⟨i::nums,congrArg _ l1,congrArg _ l2,⟨_,_,rfl,⟨t,rfl⟩,r⟩⟩
def ï(b:Bool):Bool:=match(match H (WData.bool (!b)) with|some (.bool A1)=>H (WData.bool A1)|some (.bool U)=>H (.bool U)|_=>AB) with|some (.bool U)=>U|_=>A1
theorem aoa(h:(WTm.and (.not (.lt (.lit (.int 63)) (.len (.arg 0)))) (.lit (.bool U))).holds [] {args:=[.list xs]}=U):I xs<=63:=by have e:(WTm.and (.not (.lt (.lit (.int 63)) (.len (.arg 0)))) (.lit (.bool U))).holds [] {args:=[.list xs]}=ï _:=rfl;refine DM.mp (Ie.mp λz=>?_);exact nomatch(show A1=U from(congrArg ï (decide_eq_true (show(63:Int)<I xs from z))).symm.trans (e.symm.trans h))
theorem aob(e:JN.row.toRowW.claim.pre [.list xs]=U):î [] xs .int=U/\I xs<=63:=by
 obtain⟨h1,h2⟩:=pre_splitW e;refine⟨?_,?_⟩
 .exact (Bool.or_false _).symm.trans (EF.mp (show((î [] xs _||A1)&&U)=U from h1)).1
 .exact aoa h2
theorem aoc:Qw[86]?=H Di:=rfl
theorem ð:ig 86=NG.name/\aN 86=U:=by constructor<;>kernel_rfl
def ñ(x:AG×Option BJ×OM×Array (Option AG)):Bool:=decide (x.2.2.1.scope.names.lookup (S' "script")=H .local)
def aod(K:Frag):Bool:=@Option.rec _ (λx=>Bool) A1 ñ (aT (K.lookup (Jg 86)))
theorem aoe(P:FF):aod (EC P)=U:=#v[]
theorem aof(ok:Nh (PB w h y nl) (Jg 86) F o fd body ps c):c.Bc.lookup (S' "script")=H .local:=by obtain⟨x,e1,q⟩:=aU (f:=ñ) (o:=aT ((EC _).lookup (Jg 86))) (aoe w.params);have h1:h.get? _=H o:=ok.DE;cases(Sy y _ _ (ur e1)).symm.trans h1;cases ok.iQ;rw[ok.Bc];exact of_decide_eq_true q
theorem aog:∀x,(0,x)∈aS 86->x=S' "script":=λx m=>by
 obtain⟨p,hp,e⟩:=Eh.mp m;injection e with e1 e2
 have:∀p∈uQ.getD 86 [],p.1=0->p.2="script":=by decide+kernel
 rw[<-e2,this p hp e1]
theorem aoh:JN.row.toRowW.claim.post [.list xs] (.bool U) [.list xs]=U:=by
 show(WShape.has [] (.bool U) .bool&&(WTm.eq ..).holds [] _)=U;rw[Gq];constructor
 .kernel_rfl
 .kernel_rfl
theorem aoi:WalkO EE IW (λu u=>True) YP JN.row.toRowW NG [] λf vs=>PySem.call f vs:=by
 intro w s₀ s₁ mg mb G y a o pm cd doc dV kV ho hd hc hD hm hg args vals as hpre hlay L wl low;have ea:a=Jg 86:=by have:=Nk (uc w.params) (show 86<87 by decide);rw[ð.2,Bool.not_true,Bool.false_or,Gq] at this;have e:=an5 G.T.g y (aP this.1);rw[ð.1,hm] at e;injection e with e;injection e
 clear hm ho;subst ea;obtain⟨d,r,rfl,hd1,hr⟩:=hasAllW_cons (pre_splitW hpre).1;cases hasAllW_nil hr;cases L with
 |cons ap0 lO=>
  clear low;cases lO;cases wl with
  |cons aoj aol=>
  cases aol;clear hlay;obtain⟨la,vs,xs,rfl,rfl,he,aom⟩:=an8 aoj hd1;obtain⟨hi,hl⟩:=aob hpre;obtain⟨nums,l1,l2,vr⟩:=ints_of hi aom;obtain⟨o,fd,body,ps,c,ok,aon⟩:=í (y:=y) (nl:=G.T.nolimit) aoc;have cs:=u7 (X:=PB w s₁.heap y G.T.nolimit) (by intro f F e;obtain⟨o,fd,body,ps,c,ok,_⟩:=í (y:=y) (nl:=G.T.nolimit) e;exact⟨o,fd,body,ps,c,ok⟩) 50;have st:Bh (PB w s₁.heap y G.T.nolimit) (λu=>[]) (λu=>[]) s₁.heap:=⟨(λs i o e=>by cases e),(λu=>rfl),(λu u u u p p' e u u=>by cases e),(λu u e=>e),(λa m=>by obtain⟨s,p,m,_⟩:=m;cases m)⟩;have E7:Given (PB w s₁.heap y G.T.nolimit) c (λu=>[]) s₁.heap [.DT (nums.map .B)] [.ref la]:=by
   have key:∀i (hi:i<[T.DT (nums.map V.B)].length),[T.DT (nums.map V.B)][i]=T.DT (nums.map V.B)/\i=0:=λi hi=>by
    have:i=0:=by simpa using hi
    subst this;exact⟨rfl,rfl⟩
   refine⟨rfl,λi hi=>?_,λi hi=>?_,λi hi=>?_,λi hi x hx hc=>?_⟩
   .obtain ⟨e,rfl⟩:=key i hi
    rw[e];refine⟨_,rfl,la,vs,rfl,⟨0,he⟩,vr,?_,?_⟩
    .rw [Ce];unfold BU;exact By 1 A2 A7 1 A7 (.k 63) A2 (.k 100000) A4 [I nums,I xs] (BQ l2.symm) hl
    .rintro ⟨s,p,m,_⟩;cases m
   .rw [(key i hi).1];nofun
   .rw [(key i hi).1];rfl
   .obtain ⟨e,rfl⟩:=key i hi
    rw[aon] at hx;rw[aog x hx,aof ok] at hc;cases hc
  have aoo:=u5 ok cs (n:=100) (A:=callerA) (s:=s₁) (Q:=λv u=>v=.Au U) ⟨by decide+kernel,by decide+kernel,rfl⟩ st E7 rfl (an3 (d:=0));refine wpAny_call (f_ aoo λr s' z=>?_);rcases r with e|(_|_|_|v)<;>first|exact z.elim|skip
  obtain⟨v',H',β',e,rv,g⟩:=z;subst e;subst rv;refine⟨.inl ⟨.bool U,.bool U,[],rfl,λcls=>rfl,.bool U,aoh,λu=>⟨V4,λa m=>nomatch m⟩⟩,.of_keep λb o e=>g.B5.AX b o e (λm=>by obtain⟨s,p,m,_⟩:=m;cases m),?_,.of_eq ?_⟩
  .rw [g.Hu]
  .rw [g.Hu];exact hg
end
theorem fin:mu.Holds:=holds_of č aoi
#print axioms fin
end Internal
theorem PySem.Challenge.cw_sj0021_01_holds : PySem.Challenge.rw_sj0021_01.Holds :=
  Internal.fin
