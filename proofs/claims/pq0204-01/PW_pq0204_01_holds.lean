import PyProof.Rows.All
import Wide.All
import OpenK.AllK
import Wide.FinOn
import PyProof.ExcAttrAll.Exception
import Lean
import PySem.Challenge.RW_pq0204_01
open PySem PySem.W PyProof.Rows PySem.Spec PySem.Calls
set_option Elab.async false
set_option linter.all false
set_option maxRecDepth 100000
namespace PQ.Internal
set_option genInjectivity false
set_option genCtorIdx false
set_option backward.match.sparseCases false
set_option genSizeOf false
set_option compiler.small 0
set_option compiler.extract_closed false
set_option compiler.reuse false
open Lean in
def QA(s:String):Syntax:=.atom .none s
open Lean in
def QL(l:List Syntax):Syntax:=.node .none nullKind ⟨l⟩
open Lean in
def QJ(s:String):Syntax:=mkIdent s.toName
open Lean in
def QN(k:String)(l:List Syntax):Syntax:=.node .none ("Lean.Parser." ++k).toName ⟨l⟩
open Lean in
def QT(s:String)(l:List Syntax):Syntax:=QN ("Tactic." ++s) [QA s,QL l,QL []]
open Lean in
def QP(g:Syntax)(x:Syntax):Syntax:=QN "Term.app" [g,QL [x]]
open Lean in
def QI(s:String)(n:Nat):Syntax:=QJ ("PQ.Internal." ++s++toString n)
open Lean in
def QG(c:Syntax):List Syntax->List Syntax
 |[]=>[]
 |y::l=>QN "Tactic.generalizeArg" [QL [],if l matches [] then c else QP (QJ "Prod.fst") c,QA "=",y]::QA "," ::QG (QP (QJ "Prod.snd") c) l
open Lean in
def QB(ys:List Syntax):List Syntax:=
 let n:=ys.length;let q:=QJ "QQ"
 if n==0 then [] else [QA ";",QN "Tactic.refine" [QA "refine",QN "Term.noImplicitLambda" [QA "no_implicit_lambda%",QP (QI "y" n) (QN "Term.syntheticHole" [QA "?",QA "_"])]],
  QA ";",QT "generalize" [QN "Tactic.generalizeArg" [QL [],QN "Term.app" [QN "Term.explicit" [QA "@",QI "n" n],QL (List.replicate (n+2) (QN "Term.hole" [QA "_"]))],QA "=",q]],
  QA ";",QT "generalize" (QG q ys).dropLast,QA ";",QT "clear" [q]]
open Lean in
local macro_rules
 | `(tactic|exists $a:term,$b:term)=>do
  let f (s:Syntax):List Syntax:=if s.isIdent then [s] else s[0]::s[1].getArgs.toList
  let xs:=f a;let k (s:String):=if b.raw.getId==`no then QT "skip" [] else QT s (f b)
  return QN "Tactic.paren" [QA "(",QN "Tactic.tacticSeq" [QN "Tactic.tacticSeq1Indented" [QL (k "revert" ::QA ";" ::QT "revert" xs::QB (xs.take 15)++QB ((xs.drop 15).take 15)++QB (xs.drop 30)++[QA ";",k "intro"])]],QA ")"]
set_option maxHeartbeats 1000000
set_option tactic.hygienic false
set_option bootstrap.genMatcherCode false
open Lean in
def QC(l:List String)(c:Name):Name:=match c.toString.toList with
 |[a]=>if a.toNat -192<192&&191<a.toNat then(l.getD (a.toNat -192) "").toName else c
 |[a,b]=>if a.toNat -192<192&&191<a.toNat then(l.getD (58*(a.toNat -188)+b.toNat -105) "").toName else c
 |_=>c
open Lean in
def QY(k s:String)(l:List Syntax):Syntax:=QN "Term.byTactic" [QA "by",QN "Tactic.tacticSeq" [QN "Tactic.tacticSeq1Indented" [QL [.node .none k.toName ⟨QA s::l⟩]]]]
open Lean in
def QZ(l:List String)(s:Syntax):Syntax:=match s with
 | .ident _ _ n _=>
  let k:=n.toString
  if k== "_0" then QY "Lean.Parser.Tactic.decide" "decide" [QN "Tactic.optConfig" [QL []]]
  else if k== "_2" then QY "tacticKernel_rfl" "kernel_rfl" []
  else mkIdent (n.components.foldl (λm c=>m++QC l c) .anonymous)
 | .node _ n a=>
  let k:=n.toString
  if k== "Lean.Parser.Tactic.show" then QN "Tactic.refine" [QA "refine",a[1]!]
  else if k== "Lean.Parser.Tactic.cases" &&a[2]!.getNumArgs==2 then QN "Tactic.induction" [QA "induction",a[1]!,a[2]!,QL [],a[3]!]
  else if k== "choice" then(a.find? (·.isOfKind "Lean.Parser.Term.anonymousCtor".toName)).getD (.node .none n a)
  else if k== "«term{_}»" then QN "Term.anonymousCtor" [QA "⟨",a[1]!,QA "⟩"]
  else .node .none n a
 |s=>s.setInfo .none
open Lean in
def QX(s:Syntax):Syntax:=
 let d:=s[1];let k:=d.getKind.toString;let b:=k== "Lean.Parser.Command.definition"
 if s[0][4].getNumArgs==0&&b&&(d[1][0].getId.getString!.front).isLower then
  s.setArg 1 (QN "Command.theorem" [QA "theorem",d[1],QN "Command.declSig" [d[2][0],d[2][1][0]],d[3]])
 else if s[0][1].getNumArgs==0&&(b||k== "Lean.Parser.Command.abbrev" ||k== "Lean.Parser.Command.instance") then
  s.setArg 0 (s[0].setArg 4 (QL [QN "Command.noncomputable" [QA "noncomputable"]]))
 else s
open Lean in
local macro_rules (kind:=Lean.Parser.Command.declaration)|s=>if s.getPos?.isNone then Macro.throwUnsupported else pure (QX (s.rewriteBottomUp (QZ ("some length List none true false cons tuple wpAny_bind list int Option heap Value rfl Nat trans pure get? Fact Shared wpAny_pure map x of_decide_eq_true bool size stuck env str Str if_neg if_pos Addr congrArg objs Int nil locals elim wpAny Bool val data Heap Nonempty names natAbs kindOf Rat ref toArray params num lookup x getD bind prog decide_eq_false fields Expr den base toks PyData decide_eq_true pos Slot wpAny_mono body model run own type Name Inv keep head casesOn var wpAny_newObj_type pen' globalImplicit seq kind reverse builtin inl acc name tail rows mpr Runs Constant inr wpAny_standAt wpAny_holding setIfInBounds function flatMap toList wpAny_loadName_local of_keeps stays False fdiv cell StaysIn ListComp behindTheImports scope foldedSetIterable IsList Pairwise Stmt get default cls notedBy inner dict iter mul wpAny_call_entry keeps Nodup Name_function_global decide_eq_decide toNat drop Subscript excClassObj Starred enc call extBut Attribute os' Rel cells resolve_right len Builtin ite Drawn ReadsAll Array frames Scope eval Assign PySem take succ IsCell spliced_cons wpAny_field all frame of_decide_eq_false boot_drawn wpAny_storeName_local isEmpty refl push add ret tabs args letOwnedTupleGo loadGlobal_global toInCall Tuple main beq_eq_false_iff_ne depth filterMap fresh NameKind error compLoop rawInt line wpAny_typeNameOfWhole_itemiter Left vars choose_spec sub zero codeAny Decidable wpAny_typeNameOf_itemiter FunctionDef wpAny_Name assignEach ctorIdx globals wpAny_Constant_int get_set cellsFrom wpAny_setField_rec subscripted CompEnd wpAny_Call_method kwonlyargs wpAny_dictEntries IsItemIter getLast? wpAny_setField mulOk_of ForInStep resolve_left lt_mul filter typeIs denote x x x x x x inferInstance mem_of_lookup dropLast strKind handled assign posonlyargs isCoroutine isGenerator defOf starEach codeAny_call_cells contains endLine Reads units nodup decide_eq_true_eq update Dict_items typeLookup boot_heap minor canLay0 builtins wpAny_BinOp assignInOrder wpAny_of_eq wpAny_callSpecial?_slot code append vals own' wpAny_isOneOf_itemiter seqIndex? wpAny_specialOf PlainList Constant_str storeName newId motive_1 beq_iff_eq wpAny_rule if_false eraseIdx free callWith_function_kw codeAny_call_builtin isSome step DictOf callWith_type1 x x x x x x isNone docDef unsupported UnaryOp sameBut nsMap tell slots codeAmong look execs defaults IsItemIterOut noParams isStar raise Compare getItem Call wpAny_Return_some table plainObj_wpAny_Assign_Attribute pyNext deeper leaveH assoc SrcAt owned qual motive_2 kept Unit findB_eq running bind_pure DictOfH isTrue moved cellOf size_of_entries wpAny_dictEpoch kw_defaults intsOf importedModules findB eq_self restOk Fold WData wpAny_seqItems BinOp ownAt x x x x x x topGo asleep_of_life tabOf oneOf TypeIs hand backTo pyIter mem_lookup schedN single same find? PyProof standAt nolimit spliced tail_any if_true comprehension".splitOn " "))))
open Nat renaming le_trans→ac,le_refl→a3,le_of_ble_eq_true→be,le_add_right→bv,lt_of_lt_of_le→ce,le_add_left→f3,add_le_add_left→g5,add_le_add→ii,add_le_add_right→io,lt_succ_of_le→i4,le_of_lt→i5,not_lt→i8,lt_of_le_of_lt→i9,zero_le→j0,add_comm→lc,mul_le_mul_left→li,le_of_eq→lm,eq_of_beq_eq_true→l0,ble_eq_true_of_le→l4,succ_le_succ→ol,beq→pp,add_sub_cancel_left→pt,succ_pos→pu,lt_succ_self→p1,ble→s4,zero_add→s6,add_assoc→s7,sub_add_cancel→us,le_succ→v3,le_of_lt_succ→ww,le_mul_of_pos_left→wT,lt_succ_of_lt→AC,ne_of_gt→A2,min_eq_left→Do,lt_irrefl→EQ,add_right_comm→E2,ne_of_lt→I9,blt→J0,sub_lt_sub_left→NE,le_of_add_le_add_right→On,lt_of_lt_of_eq→Ps,le_antisymm→Q2,casesOn→R1,add_lt_add_left→R2,one_mul→TW,le_of_succ_le→T8,sub_le_sub_right→UF,max_le→V3,two_pow_pos→V7,mul_div_cancel_left→V8,le_of_succ_le_succ→WP,pow_succ→X0,mul_le_mul_right→Yd,sub_lt→Yo,lt_two_pow_self→Yu,zero_mul→YG,pos_of_ne_zero→YH,lt_trans→YI,add_sub_of_le→YT,lt_add_of_pos_right→Y4,lt_of_not_le→Zc,mul_add_mod→Zq,mul_add_div→Zr,min_le_left→Zs,lt_of_le_of_ne→Z8,le→acY
open Option.some renaming inj→al,injEq→abD
open _root_.List renaming mem_singleton→am,all_eq_true→an,length_map→a2,mem_cons→a5,getElem?_eq_getElem→ch,mem_append→dL,length_append→f4,map_append→g1,mem_map→i1,casesOn→i2,length_cons→i3,getD_eq_getElem?_getD→i6,getElem?_map→j1,size_toArray→kt,map_map→lf,replicate→ln,eq_nil_of_length_eq_zero→l5,any_eq_true→ms,map_congr_left→r0,getElem_map→sp,mem_append_right→sK,getElem?_eq_some_iff→s5,range→ty,append_assoc→tz,map_cons→v7,append_nil→wf,mem_of_getElem?→wS,isEmpty_iff→At,nodup_cons→A4,ext_getElem→B0,length_pos_iff→Ch,toArray→FM,mem_flatMap→F3,lookup_cons→Gc,getElem_mem→Go,getElem?_append_right→GE,mem_of_find?_eq_some→IN,drop_eq_getElem_cons→IR,getElem?_eq_none→J1,mem_filterMap→J7,getLast?_eq_some_getLast→KE,forall_mem_cons→K9,mem_range→M4,map_eq_nil_iff→N6,zip_cons_cons→PP,getElem?_append_left→P1,mem_append_left→P7,map_inj_left→Q3,pairwise_singleton→R7,mem_reverse→SC,map_reverse→SL,pairwise_cons→S5,length_nil→T0,cons_append→U3,replicate_succ→U4,mem_map_of_mem→U5,length_reverse→U6,getElem_range'→U7,length_eq_zero_iff→V9,length_replicate→X1,getElem?_toArray→X2,drop_length→X8,mem_of_mem_drop→Ye,getLast?_concat→Yf,perm_singleton→Yv,mem_filter→Yw,find?_some→Yx,getElem_range→YJ,contains_cons→YK,rel_of_pairwise_cons→YO,ne_nil_of_length_pos→YP,forall_mem_singleton→YQ,reverse_cons→YU,mem_range'_1→YV,mem_of_mem_eraseIdx→YW,getLast?_map→YX,getLast_eq_getElem→Y5,getElem?_replicate→Y6,eraseIdx_cons_succ→Y7,not_mem_nil→Zd,filter_cons→Ze,take_of_length_le→Zg,find?_cons_of_pos→Zh,find?_cons_of_neg→Zi,take_append_drop→Zt,dropLast_eq_take→Zu,pairwise_append→ZD,mem_of_getLast?→ZE,getElem?_set_ne→ZF,dropLast_concat→ZG,range'→ZS,filter_eq_self→ZT,take_nil→Z9,any_map→acs
open PySem.PyData renaming casesOn→ap,eqv→f2,keyHash→i0,canLayAll0→YS,strOk→acr
open PySem.Heap renaming get?_push_of_some→a0,get?_push_size→f1,lt_size→g3,SameBut→ut,get?_update_other→w0,get?_update_self→xz,size_push→U1,get?_none_of_le→Yg,ExtBut→YA,size_after_update→Zj,get?_update_ne→ZV
open Bool renaming casesOn→ci,or_eq_true_iff→g4,and_eq_true_iff→im,not_eq_true'→wP,eq_false_iff→AT,and_eq_true→KF,false_eq_true→S6,not_not→T3,and_true→Yl,decide_and→YC,or_false→aaX,or_true→acv
open Prod.mk renaming inj→f0
open Option renaming map_eq_some_iff→h9,casesOn→i7,bind_eq_some_iff→lw,isNone_iff_eq_none→s3,isSome_iff_exists→V2,map_some→V6
open PySem renaming mainGlobals→jp,World→s2,wpAny_loadPart_at→s9,sysModules→Da,wpAny_execs_cons→Fa,bootBuiltins→Fk,wpAny_truthy_bool→GM,builtinsNs→J5,Around→KB,wpAny_typeLookup_exc→KM,swapsWith→K0,Program→Ok,wpAny_Assign_Name→P8,NameKind→R6,Arguments→S1,wpAny_Assign_Subscript→S3,wpAny_isTrue_Compare1→S9,leftWithCleanup→Tl,Params→TI,attributeBase→T7,wpAny_execs_nil→V4,sizeLine→V5,wpAny_assign_Name→W1,Call_name1→W6,builtinLookup_eq_fast→W7,wpAny_newTuple→Ya,swappedStores→Yi,behindInMarks→Yj,wpAny_call→Ym,wpAny_isSubtype_exc→Yq,interactive→Yr,Builtin→YB,treeTable→YR,wpAny_UnaryOp→Y2,codeAny_compStart_list→Zf,typeLookup_type→Zn,codeAny_loop→Zo,DictEntry→Zx,wpAny_Compare1→ZJ,wpAny_noted→ZN,operate→ZP,callEnvC→ZY,Result→Z2
open PySem.Data renaming ctorIdx→j2
open PySem.Challenge renaming pw_pq0204_01→nn
open Int renaming natAbs_mul→nw,mul_ne_zero→pc,gcd→pi,natCast_nonneg→s1,mul_fdiv_cancel_left→t3,lt_of_le_of_lt→w3,zero_sub→J3,ofNat_le→J4,le_trans→R0,one_mul→R8,ofNat_natAbs_of_nonpos→Uf,natAbs_of_nonneg→UV,natAbs_neg→U0,toNat_of_nonneg→U8,natCast_ne_zero→U9,fdiv_self→Wp,ofNat_lt→X3,ne_of_gt→X4,mul_comm→X5,gcd_pos_of_ne_zero_right→Yk,not_lt→Yp,neg_ne_zero→Yy,natCast_pos→Yz,le_of_lt→YL,mul_ediv_cancel_left→YY,mul_one→Y8,mul_assoc→Y9,eq_ofNat_of_zero_le→Za,neg_eq_zero→Zv,add_zero→Zw,lt_iff_le_and_ne→ZH,natAbs_pos→ZM,mul_fdiv_cancel→ZU,zero_mul→act
open _root_.Array renaming getElem?_eq_some_iff→o3,getElem?_eq_getElem→P2,eq_empty_of_size_eq_zero→X7,toArray_toList→Yh,eraseIdxIfInBounds→Y1,getElem?_eq_none→Zm,toList_eraseIdx→Zy,getElem?_toList→Zz,toList_append→ZW,ext'→acm
open Rat renaming num_divInt_den→sB,divInt→wv,one_mul→A1,add_zero→Db,zero_add→I3,mul_assoc→L9,mul_zero→M1,sub_eq_add_neg→Op,zero_mul→Q6,num_eq_zero→TD,mul_eq_zero→TE,divInt_mul_divInt→W9,divInt_add_divInt→XV,mul_one→Ys,div_def→Yt,mul_comm→YE,add_neg_cancel→YF,inv_mul_rev→Zp,add_mul→ZR,sub_add_cancel→Z3,mul_inv_cancel→Z4,inv_mul_cancel→Z5,add_assoc→Z6,neg_zero→acn,inv_zero→acp
open Classical renaming epsilon→un,choice→SZ,byContradiction→U2,epsilon_spec→Zl
open PySem.F renaming slot_dict_itemiterator_next→wl,slot_tuple_hash→W4,args_dict_itemiterator_next_1→W5,entry_dict_itemiterator_next→X6,slot_dict_itemiterator_iter→X9,excBase_Exception→YN,plainAttrs_dict→YZ,store_Exception→Y3,slot_dict_items_iter→Zk
open PySem.Builtin.Tuple renaming tupleHashOf→wE
open PySem.Obj renaming mapFields→w1,data_mapFields→J6,isFreed_of_fields→O3,data_mapDictKeys→ZC
open PySem.Calls renaming spliced_cons→A3,evalArgs_plain→L3,callWith_builtin→N8,spliced_nil→Tk,spliced_nil→T9
open PySem.Heap.SameBut renaming update→GT
open Lean.Grind.CommRing.Expr renaming eq_of_toPoly_eq→Ix,denote→W3
open PySem.Expr renaming casesOn→No
open Lean.Grind.CommRing renaming Context→N7,denoteInt_eq→P3
open PySem.Str renaming ofString→Os
open PySem.Flow renaming casesOn→P0
open PySem.W renaming topFrame→P5,through→aa0
open PySem.Builtin.Int renaming intBits→R9
open Ne renaming symm→S4
open PySem.SeqAt renaming eqv_refl→Yb
open PySem.BoolOp renaming casesOn→Yc
open PyProof.Rows renaming Subscript_→Yn
open Prod renaming fst→ZA
section
def nS{a:α}{G:Prop}(h:Ã=À a):G:=nomatch h
def we{a:α}{G:Prop}(h:À a=Ã):G:=nomatch h
def fT{G:Prop}(h:Å=Ä):G:=nomatch h
def tF{G:Prop}(h:Ä=Å):G:=nomatch h
def bg(f:α->Ï){a b:α}{G:Prop}(e:a=b)(h:pp (f a) (f b)=Å):G:=absurd (Ï.beq_refl (f b)) (by rw[e] at h;rw[h];decide)
def nM{α:Type u}{a:α}{G:Prop}(h:a∈([]:Â α)):G:=(Zd h).ç
def nl{α:Type u}{P:α->Prop}:∀a∈([]:Â α),P a:=Â.forall_mem_nil P
def bG{G:Prop}(k:(G->Ī)->Ī):G:=U2 k
section
variable{A:Sort u}{B:Sort v}{C:Sort w}{D:Sort x}{E:Sort y}{F:Sort z}{H:Sort p}{I:Sort q}{G:Prop}
def aj{P Q:Prop}(h:P/\Q)(k:P->Q->G):G:=h.ç λa h=>k a h
def b_{P Q R:Prop}(h:P/\Q/\R)(k:P->Q->R->G):G:=h.ç λa h=>h.ç λb h=>k a b h
def dc{P Q R S:Prop}(h:P/\Q/\R/\S)(k:P->Q->R->S->G):G:=h.ç λa h=>h.ç λb h=>h.ç λc h=>k a b c h
def jz{P Q R S T:Prop}(h:P/\Q/\R/\S/\T)(k:P->Q->R->S->T->G):G:=dc h λa b c h=>aj h (k a b c)
def qh{P Q R S T U:Prop}(h:P/\Q/\R/\S/\T/\U)(k:P->Q->R->S->T->U->G):G:=dc h λa b c h=>b_ h (k a b c)
def e07{P Q R S T U V:Prop}(h:P/\Q/\R/\S/\T/\U/\V)(k:P->Q->R->S->T->U->V->G):G:=dc h λa b c h=>dc h (k a b c)
def ao{P:A->Prop}(h:∃a,P a)(k:∀a,P a->G):G:=h.ç λa h=>k a h
def ag{P Q:A->Prop}(h:∃a,P a/\Q a)(k:∀a,P a->Q a->G):G:=ao h λa h=>aj h (k a)
def au{P Q R:A->Prop}(h:∃a,P a/\Q a/\R a)(k:∀a,P a->Q a->R a->G):G:=ao h λa h=>b_ h (k a)
def jA{P Q R S:A->Prop}(h:∃a,P a/\Q a/\R a/\S a)(k:∀a,P a->Q a->R a->S a->G):G:=ao h λa h=>dc h (k a)
def e15{P Q R S T:A->Prop}(h:∃a,P a/\Q a/\R a/\S a/\T a)(k:∀a,P a->Q a->R a->S a->T a->G):G:=ao h λa h=>jz h (k a)
def sf{P Q R S T U V W:A->Prop}(h:∃a,P a/\Q a/\R a/\S a/\T a/\U a/\V a/\W a)(k:∀a,P a->Q a->R a->S a->T a->U a->V a->W a->G):G:=ao h λa h=>dc h λb c d h=>jz h (k a b c d)
def bB{P:A->B->Prop}(h:∃a b,P a b)(k:∀a b,P a b->G):G:=h.ç λa h=>h.ç λb h=>k a b h
def aD{P Q:A->B->Prop}(h:∃a b,P a b/\Q a b)(k:∀a b,P a b->Q a b->G):G:=bB h λa b h=>aj h (k a b)
def a_{P Q R:A->B->Prop}(h:∃a b,P a b/\Q a b/\R a b)(k:∀a b,P a b->Q a b->R a b->G):G:=bB h λa b h=>b_ h (k a b)
def cb{P Q R S:A->B->Prop}(h:∃a b,P a b/\Q a b/\R a b/\S a b)(k:∀a b,P a b->Q a b->R a b->S a b->G):G:=bB h λa b h=>dc h (k a b)
def iD{P Q R S T:A->B->Prop}(h:∃a b,P a b/\Q a b/\R a b/\S a b/\T a b)(k:∀a b,P a b->Q a b->R a b->S a b->T a b->G):G:=bB h λa b h=>jz h (k a b)
def e26{P Q R S T U:A->B->Prop}(h:∃a b,P a b/\Q a b/\R a b/\S a b/\T a b/\U a b)(k:∀a b,P a b->Q a b->R a b->S a b->T a b->U a b->G):G:=bB h λa b h=>qh h (k a b)
def e29{P Q R S T U V W X:A->B->Prop}(h:∃a b,P a b/\Q a b/\R a b/\S a b/\T a b/\U a b/\V a b/\W a b/\X a b)(k:∀a b,P a b->Q a b->R a b->S a b->T a b->U a b->V a b->W a b->X a b->G):G:=bB h λa b h=>dc h λc d e h=>qh h (k a b c d e)
def kR{P:A->B->C->Prop}(h:∃a b c,P a b c)(k:∀a b c,P a b c->G):G:=bB h λa b h=>ao h (k a b)
def cG{P Q:A->B->C->Prop}(h:∃a b c,P a b c/\Q a b c)(k:∀a b c,P a b c->Q a b c->G):G:=kR h λa b c h=>aj h (k a b c)
def ba{P Q R:A->B->C->Prop}(h:∃a b c,P a b c/\Q a b c/\R a b c)(k:∀a b c,P a b c->Q a b c->R a b c->G):G:=kR h λa b c h=>b_ h (k a b c)
def gR{P Q R S:A->B->C->Prop}(h:∃a b c,P a b c/\Q a b c/\R a b c/\S a b c)(k:∀a b c,P a b c->Q a b c->R a b c->S a b c->G):G:=kR h λa b c h=>dc h (k a b c)
def e35{P Q R S T:A->B->C->Prop}(h:∃a b c,P a b c/\Q a b c/\R a b c/\S a b c/\T a b c)(k:∀a b c,P a b c->Q a b c->R a b c->S a b c->T a b c->G):G:=kR h λa b c h=>jz h (k a b c)
def qi{P Q R S T U:A->B->C->Prop}(h:∃a b c,P a b c/\Q a b c/\R a b c/\S a b c/\T a b c/\U a b c)(k:∀a b c,P a b c->Q a b c->R a b c->S a b c->T a b c->U a b c->G):G:=kR h λa b c h=>qh h (k a b c)
def kS{P:A->B->C->D->Prop}(h:∃a b c d,P a b c d)(k:∀a b c d,P a b c d->G):G:=bB h λa b h=>bB h (k a b)
def e42{P Q:A->B->C->D->Prop}(h:∃a b c d,P a b c d/\Q a b c d)(k:∀a b c d,P a b c d->Q a b c d->G):G:=kS h λa b c d h=>aj h (k a b c d)
def kT{P Q R:A->B->C->D->Prop}(h:∃a b c d,P a b c d/\Q a b c d/\R a b c d)(k:∀a b c d,P a b c d->Q a b c d->R a b c d->G):G:=kS h λa b c d h=>b_ h (k a b c d)
def iE{P Q R S:A->B->C->D->Prop}(h:∃a b c d,P a b c d/\Q a b c d/\R a b c d/\S a b c d)(k:∀a b c d,P a b c d->Q a b c d->R a b c d->S a b c d->G):G:=kS h λa b c d h=>dc h (k a b c d)
def e46{P Q R S T U:A->B->C->D->Prop}(h:∃a b c d,P a b c d/\Q a b c d/\R a b c d/\S a b c d/\T a b c d/\U a b c d)(k:∀a b c d,P a b c d->Q a b c d->R a b c d->S a b c d->T a b c d->U a b c d->G):G:=kS h λa b c d h=>qh h (k a b c d)
def e51{P:A->B->C->D->E->Prop}(h:∃a b c d e,P a b c d e)(k:∀a b c d e,P a b c d e->G):G:=kR h λa b c h=>bB h (k a b c)
def sg{P Q:A->B->C->D->E->Prop}(h:∃a b c d e,P a b c d e/\Q a b c d e)(k:∀a b c d e,P a b c d e->Q a b c d e->G):G:=e51 h λa b c d e h=>aj h (k a b c d e)
def zG{P:A->B->C->D->E->F->Prop}(h:∃a b c d e f,P a b c d e f)(k:∀a b c d e f,P a b c d e f->G):G:=kR h λa b c h=>kR h (k a b c)
def e62{P Q:A->B->C->D->E->F->Prop}(h:∃a b c d e f,P a b c d e f/\Q a b c d e f)(k:∀a b c d e f,P a b c d e f->Q a b c d e f->G):G:=zG h λa b c d e f h=>aj h (k a b c d e f)
def e63{P Q R:A->B->C->D->E->F->Prop}(h:∃a b c d e f,P a b c d e f/\Q a b c d e f/\R a b c d e f)(k:∀a b c d e f,P a b c d e f->Q a b c d e f->R a b c d e f->G):G:=zG h λa b c d e f h=>b_ h (k a b c d e f)
def e67{P Q R S T U V:A->B->C->D->E->F->Prop}(h:∃a b c d e f,P a b c d e f/\Q a b c d e f/\R a b c d e f/\S a b c d e f/\T a b c d e f/\U a b c d e f/\V a b c d e f)(k:∀a b c d e f,P a b c d e f->Q a b c d e f->R a b c d e f->S a b c d e f->T a b c d e f->U a b c d e f->V a b c d e f->G):G:=zG h λa b c d e f h=>e07 h (k a b c d e f)
def e76{P Q R S T U:A->B->C->D->E->F->H->Prop}(h:∃a b c d e f g,P a b c d e f g/\Q a b c d e f g/\R a b c d e f g/\S a b c d e f g/\T a b c d e f g/\U a b c d e f g)(k:∀a b c d e f g,P a b c d e f g->Q a b c d e f g->R a b c d e f g->S a b c d e f g->T a b c d e f g->U a b c d e f g->G):G:=kS h λa b c d h=>qi h (k a b c d)
def kU{P:A->B->C->D->E->F->H->I->Prop}(h:∃a b c d e f g j,P a b c d e f g j)(k:∀a b c d e f g j,P a b c d e f g j->G):G:=kS h λa b c d h=>kS h (k a b c d)
end
section
variable{A B C D E F G H I J K L M N O:Type}
noncomputable def n1{q:í A}(P:A->Prop):A:=un λa=>¬P a
def y1[q:í A]{P:A->Prop}(w:P (n1 (q:=q) P))(a):P a:=U2 λh=>Zl (p:=λa=>¬P a) {a,h} w
noncomputable def n2{q:í (A×B)}(P:A->B->Prop):=n1 (q:=q) λz=>P z.1 z.2
def y2[q:í (A×B)]{P:A->B->Prop}:let z:=n2 (q:=q) P;P z.1 z.2->∀a b,P a b:=λw y z=>y1 (P:=λ(z:A×B)=>P z.1 z.2) w (y,z)
noncomputable def n3{q:í (A×B×C)}(P:A->B->C->Prop):=n2 (q:=q) λa z=>P a z.1 z.2
def y3[q:í (A×B×C)]{P:A->B->C->Prop}:let z:=n3 (q:=q) P;P z.1 z.2.1 z.2.2->∀a b c,P a b c:=λw a y z=>y2 (P:=λa (z:B×C)=>P a z.1 z.2) w a (y,z)
noncomputable def n4{q:í (A×B×C×D)}(P:A->B->C->D->Prop):=n3 (q:=q) λa b z=>P a b z.1 z.2
def y4[q:í (A×B×C×D)]{P:A->B->C->D->Prop}:let z:=n4 (q:=q) P;P z.1 z.2.1 z.2.2.1 z.2.2.2->∀a b c d,P a b c d:=λw a b y z=>y3 (P:=λa b (z:C×D)=>P a b z.1 z.2) w a b (y,z)
noncomputable def n5{q:í (A×B×C×D×E)}(P:A->B->C->D->E->Prop):=n4 (q:=q) λa b c z=>P a b c z.1 z.2
def y5[q:í (A×B×C×D×E)]{P:A->B->C->D->E->Prop}:let z:=n5 (q:=q) P;P z.1 z.2.1 z.2.2.1 z.2.2.2.1 z.2.2.2.2->∀a b c d e,P a b c d e:=λw a b c y z=>y4 (P:=λa b c (z:D×E)=>P a b c z.1 z.2) w a b c (y,z)
noncomputable def n6{q:í (A×B×C×D×E×F)}(P:A->B->C->D->E->F->Prop):=n5 (q:=q) λa b c d z=>P a b c d z.1 z.2
def y6[q:í (A×B×C×D×E×F)]{P:A->B->C->D->E->F->Prop}:let z:=n6 (q:=q) P;P z.1 z.2.1 z.2.2.1 z.2.2.2.1 z.2.2.2.2.1 z.2.2.2.2.2->∀a b c d e f,P a b c d e f:=λw a b c d y z=>y5 (P:=λa b c d (z:E×F)=>P a b c d z.1 z.2) w a b c d (y,z)
noncomputable def n7{q:í (A×B×C×D×E×F×G)}(P:A->B->C->D->E->F->G->Prop):=n6 (q:=q) λa b c d e z=>P a b c d e z.1 z.2
def y7[q:í (A×B×C×D×E×F×G)]{P:A->B->C->D->E->F->G->Prop}:let z:=n7 (q:=q) P;P z.1 z.2.1 z.2.2.1 z.2.2.2.1 z.2.2.2.2.1 z.2.2.2.2.2.1 z.2.2.2.2.2.2->∀a b c d e f g,P a b c d e f g:=λw a b c d e y z=>y6 (P:=λa b c d e (z:F×G)=>P a b c d e z.1 z.2) w a b c d e (y,z)
noncomputable def n8{q:í (A×B×C×D×E×F×G×H)}(P:A->B->C->D->E->F->G->H->Prop):=n7 (q:=q) λa b c d e f z=>P a b c d e f z.1 z.2
def y8[q:í (A×B×C×D×E×F×G×H)]{P:A->B->C->D->E->F->G->H->Prop}:let z:=n8 (q:=q) P;P z.1 z.2.1 z.2.2.1 z.2.2.2.1 z.2.2.2.2.1 z.2.2.2.2.2.1 z.2.2.2.2.2.2.1 z.2.2.2.2.2.2.2->∀a b c d e f g h,P a b c d e f g h:=λw a b c d e f y z=>y7 (P:=λa b c d e f (z:G×H)=>P a b c d e f z.1 z.2) w a b c d e f (y,z)
noncomputable def n9{q:í (A×B×C×D×E×F×G×H×I)}(P:A->B->C->D->E->F->G->H->I->Prop):=n8 (q:=q) λa b c d e f g z=>P a b c d e f g z.1 z.2
def y9[q:í (A×B×C×D×E×F×G×H×I)]{P:A->B->C->D->E->F->G->H->I->Prop}:let z:=n9 (q:=q) P;P z.1 z.2.1 z.2.2.1 z.2.2.2.1 z.2.2.2.2.1 z.2.2.2.2.2.1 z.2.2.2.2.2.2.1 z.2.2.2.2.2.2.2.1 z.2.2.2.2.2.2.2.2->∀a b c d e f g h i,P a b c d e f g h i:=λw a b c d e f g y z=>y8 (P:=λa b c d e f g (z:H×I)=>P a b c d e f g z.1 z.2) w a b c d e f g (y,z)
noncomputable def n10{q:í (A×B×C×D×E×F×G×H×I×J)}(P:A->B->C->D->E->F->G->H->I->J->Prop):=n9 (q:=q) λa b c d e f g h z=>P a b c d e f g h z.1 z.2
def y10[q:í (A×B×C×D×E×F×G×H×I×J)]{P:A->B->C->D->E->F->G->H->I->J->Prop}:let z:=n10 (q:=q) P;P z.1 z.2.1 z.2.2.1 z.2.2.2.1 z.2.2.2.2.1 z.2.2.2.2.2.1 z.2.2.2.2.2.2.1 z.2.2.2.2.2.2.2.1 z.2.2.2.2.2.2.2.2.1 z.2.2.2.2.2.2.2.2.2->∀a b c d e f g h i j,P a b c d e f g h i j:=λw a b c d e f g h y z=>y9 (P:=λa b c d e f g h (z:I×J)=>P a b c d e f g h z.1 z.2) w a b c d e f g h (y,z)
noncomputable def n11{q:í (A×B×C×D×E×F×G×H×I×J×K)}(P:A->B->C->D->E->F->G->H->I->J->K->Prop):=n10 (q:=q) λa b c d e f g h i z=>P a b c d e f g h i z.1 z.2
def y11[q:í (A×B×C×D×E×F×G×H×I×J×K)]{P:A->B->C->D->E->F->G->H->I->J->K->Prop}:let z:=n11 (q:=q) P;P z.1 z.2.1 z.2.2.1 z.2.2.2.1 z.2.2.2.2.1 z.2.2.2.2.2.1 z.2.2.2.2.2.2.1 z.2.2.2.2.2.2.2.1 z.2.2.2.2.2.2.2.2.1 z.2.2.2.2.2.2.2.2.2.1 z.2.2.2.2.2.2.2.2.2.2->∀a b c d e f g h i j k,P a b c d e f g h i j k:=λw a b c d e f g h i y z=>y10 (P:=λa b c d e f g h i (z:J×K)=>P a b c d e f g h i z.1 z.2) w a b c d e f g h i (y,z)
noncomputable def n12{q:í (A×B×C×D×E×F×G×H×I×J×K×L)}(P:A->B->C->D->E->F->G->H->I->J->K->L->Prop):=n11 (q:=q) λa b c d e f g h i j z=>P a b c d e f g h i j z.1 z.2
def y12[q:í (A×B×C×D×E×F×G×H×I×J×K×L)]{P:A->B->C->D->E->F->G->H->I->J->K->L->Prop}:let z:=n12 (q:=q) P;P z.1 z.2.1 z.2.2.1 z.2.2.2.1 z.2.2.2.2.1 z.2.2.2.2.2.1 z.2.2.2.2.2.2.1 z.2.2.2.2.2.2.2.1 z.2.2.2.2.2.2.2.2.1 z.2.2.2.2.2.2.2.2.2.1 z.2.2.2.2.2.2.2.2.2.2.1 z.2.2.2.2.2.2.2.2.2.2.2->∀a b c d e f g h i j k l,P a b c d e f g h i j k l:=λw a b c d e f g h i j y z=>y11 (P:=λa b c d e f g h i j (z:K×L)=>P a b c d e f g h i j z.1 z.2) w a b c d e f g h i j (y,z)
noncomputable def n13{q:í (A×B×C×D×E×F×G×H×I×J×K×L×M)}(P:A->B->C->D->E->F->G->H->I->J->K->L->M->Prop):=n12 (q:=q) λa b c d e f g h i j k z=>P a b c d e f g h i j k z.1 z.2
def y13[q:í (A×B×C×D×E×F×G×H×I×J×K×L×M)]{P:A->B->C->D->E->F->G->H->I->J->K->L->M->Prop}:let z:=n13 (q:=q) P;P z.1 z.2.1 z.2.2.1 z.2.2.2.1 z.2.2.2.2.1 z.2.2.2.2.2.1 z.2.2.2.2.2.2.1 z.2.2.2.2.2.2.2.1 z.2.2.2.2.2.2.2.2.1 z.2.2.2.2.2.2.2.2.2.1 z.2.2.2.2.2.2.2.2.2.2.1 z.2.2.2.2.2.2.2.2.2.2.2.1 z.2.2.2.2.2.2.2.2.2.2.2.2->∀a b c d e f g h i j k l m,P a b c d e f g h i j k l m:=λw a b c d e f g h i j k y z=>y12 (P:=λa b c d e f g h i j k (z:L×M)=>P a b c d e f g h i j k z.1 z.2) w a b c d e f g h i j k (y,z)
noncomputable def n14{q:í (A×B×C×D×E×F×G×H×I×J×K×L×M×N)}(P:A->B->C->D->E->F->G->H->I->J->K->L->M->N->Prop):=n13 (q:=q) λa b c d e f g h i j k l z=>P a b c d e f g h i j k l z.1 z.2
def y14[q:í (A×B×C×D×E×F×G×H×I×J×K×L×M×N)]{P:A->B->C->D->E->F->G->H->I->J->K->L->M->N->Prop}:let z:=n14 (q:=q) P;P z.1 z.2.1 z.2.2.1 z.2.2.2.1 z.2.2.2.2.1 z.2.2.2.2.2.1 z.2.2.2.2.2.2.1 z.2.2.2.2.2.2.2.1 z.2.2.2.2.2.2.2.2.1 z.2.2.2.2.2.2.2.2.2.1 z.2.2.2.2.2.2.2.2.2.2.1 z.2.2.2.2.2.2.2.2.2.2.2.1 z.2.2.2.2.2.2.2.2.2.2.2.2.1 z.2.2.2.2.2.2.2.2.2.2.2.2.2->∀a b c d e f g h i j k l m n,P a b c d e f g h i j k l m n:=λw a b c d e f g h i j k l y z=>y13 (P:=λa b c d e f g h i j k l (z:M×N)=>P a b c d e f g h i j k l z.1 z.2) w a b c d e f g h i j k l (y,z)
noncomputable def n15{q:í (A×B×C×D×E×F×G×H×I×J×K×L×M×N×O)}(P:A->B->C->D->E->F->G->H->I->J->K->L->M->N->O->Prop):=n14 (q:=q) λa b c d e f g h i j k l m z=>P a b c d e f g h i j k l m z.1 z.2
def y15[q:í (A×B×C×D×E×F×G×H×I×J×K×L×M×N×O)]{P:A->B->C->D->E->F->G->H->I->J->K->L->M->N->O->Prop}:let z:=n15 (q:=q) P;P z.1 z.2.1 z.2.2.1 z.2.2.2.1 z.2.2.2.2.1 z.2.2.2.2.2.1 z.2.2.2.2.2.2.1 z.2.2.2.2.2.2.2.1 z.2.2.2.2.2.2.2.2.1 z.2.2.2.2.2.2.2.2.2.1 z.2.2.2.2.2.2.2.2.2.2.1 z.2.2.2.2.2.2.2.2.2.2.2.1 z.2.2.2.2.2.2.2.2.2.2.2.2.1 z.2.2.2.2.2.2.2.2.2.2.2.2.2.1 z.2.2.2.2.2.2.2.2.2.2.2.2.2.2->∀a b c d e f g h i j k l m n o,P a b c d e f g h i j k l m n o:=λw a b c d e f g h i j k l m y z=>y14 (P:=λa b c d e f g h i j k l m (z:N×O)=>P a b c d e f g h i j k l m z.1 z.2) w a b c d e f g h i j k l m (y,z)
end
def ln1{A B C D:Ï}(h:acY C D)(k:A+D<=B+C:=by simp+arith only[]):A<=B:=On (ac k (g5 h B))
def ln2{A B C D a b:Ï}(h:acY C D)(h':acY a b)(k:A+(D+b)<=B+(C+a):=by simp+arith only[]):A<=B:=ln1 (ii h h') k
def ln3{A B C D a b E F:Ï}(h:acY C D)(h':acY a b)(g:acY E F)(k:A+(D+b+F)<=B+(C+a+E):=by simp+arith only[]):A<=B:=ln1 (ii (ii h h') g) k
def fA{a b:Ï}(h:a=b):acY a b:=lm h
def kV{a b:Ï}(h:a=b):acY b a:=lm h.symm
end
section
abbrev D:=ā
abbrev AK:=Ë (Â D)
set_option genCtorIdx true in
inductive Out(α:Type) where
 |ok(a:α)(p:AK)
 |exc(k:Þ)(p:AK)
 |Û
structure M(α:Type) where
 Ĉ:AK->Out α
noncomputable def M.Ñ{α:Type}(a:α):M α:={λp=>.ok a p}
noncomputable def M.ù{α b:Type}(m:M α)(f:α->M b):M b:=⟨λp=>match m.Ĉ p with
 | .ok a p'=>(f a).Ĉ p'
 | .exc k p'=>.exc k p'
 | .Û=>.Û⟩
instance:Monad M where
 Ñ:=M.Ñ
 ù:=M.ù
noncomputable def M.Û{α:Type}:M α:={λ_=>.Û}
noncomputable def M.Áp{α:Type}(k:Þ):M α:={λp=>.exc k p}
instance {α:Type}:í (Out α):={.Û}
instance {α:Type}:í (M α):={M.Û}
instance:í ř.Ô:={{}}
instance:í ř.Around:={{}}
instance:í s2:={{λ_ _=>0,{λ_=>0,λ_=>0,id,λ_=>0,λ_ _=>0,λ_=>Å,λ_=>0,.refcount,.text,λ_=>0,λ_=>Ã,λ_=>Å,λ_ _ _=>Ä,λ_ _ _=>Ä,Ä,λ_=>Å,λ_=>Ã,λ_=>Ã,λ_ _ _=>0,λ_ _=>Ã,λ_=>Ã,λ_=>(0,Å,""),λ_=>Ã,id,λ_=>Å}}}
instance:í ř.ā:={.Ã}
instance:í ř.W.ÂW:={.Ã}
instance:í ř.ExcName:={.ĉ ""}
instance:í ř.GenState:={.ÂH}
instance:í ř.Œ:={{}}
instance:í ř.Program:={{Ķ,[],[],[],[],{}}}
instance:í ř.Model:={{λ_=>.Ác "",SZ Àa,SZ Àa}}
def bH(h:(Ñ a:M α).Ĉ p= .ok b p'):a=b/\p=p':=by
 injection h with c d;show{c,d}
section
variable{G:Prop}
def dC{a b:Data}(e:a=b)(h:pp a.ÀF b.ÀF=Å:=by rfl):G:=bg j2 e h
def pC{a b:ā}(e:a=b)(h:pp a.ÀF b.ÀF=Å:=by rfl):G:=bg ā.ÀF e h
def vC{a b:Í}(e:a=b)(h:pp a.ÀF b.ÀF=Å:=by rfl):G:=bg Í.ÀF e h
def oC{a b:Out α}(e:a=b)(h:pp a.ÀF b.ÀF=Å:=by rfl):G:=bg Out.ÀF e h
end
def bf{G:Prop}(h:(M.Û).Ĉ p= .ok a p'):G:=bg Out.ÀF h Î
def M.Áz(m:M α)(f:α->M b)(k:b->M c):(m>>=f)>>=k=m>>= λa=>f a>>=k:=by
 change M.ù (M.ù m f) k=M.ù m (λa=>M.ù (f a) k);unfold M.ù;congr 1;funext p;dsimp only;cases m.Ĉ p<;>rfl
def M.ÂI(m:M α):(m>>= λa=>Pure.Ñ a)=m:=by
 change M.ù m M.Ñ=m;cases m;unfold M.ù M.Ñ;congr 1;funext p;dsimp only;split<;>simp_all
def M.map_pure(m:M α):(m>>=Pure.Ñ)=m:=M.ÂI m
set_option genCtorIdx true in
inductive Ą where
 |ê(d:D)
 |ĉ(l:Â D)
 |sd(k:Â (Þ×D))
 |td(k:Â (D×D))
 |Az
abbrev Aa:=Â (Ë Ą)
noncomputable def Aa.ĵ(ρ:Aa)(i:Ï):Ë Ą:=(ρ[i]?).ø Ã
instance:í Ą:={.Az}
def eD{n d:Ï}(h:n+1<=d):∃e,d=e+1:={d -1,(us (ac (f3 1 n) h)).symm}
def yZ{n d:Ï}(h:n+3<=d):∃e,d=e+3:={d -3,(us (ac (f3 3 n) h)).symm}
def aQ{a b c:Ï}(h:b<=c)(k:a<=b:=by decide):a<=c:=ac k h
def kW{a b c:Ï}(h:b<=c+1)(k:a<b:=by decide):a<=c:=WP (ac k h)
def leU{a b c:Ï}(h:a<=b)(k:b<=c:=by decide):a<=c:=ac h k
structure Cx where
 ú:Ok
 w:World
 ÿ:ì
 mg:Þ->Ë Í
 mb:Þ->Ë Í
 P:Ë á
 exc:Í
 tab:á->Ë Þ
abbrev Cx.M(cx:Cx):Model:=ć cx.ú cx.w
instance:í Cx:={{SZ Àa,SZ Àa,Ķ,λ_=>Ã,λ_=>Ã,Ã,.Ã,λ_=>Ã}}
def FX(o:Obj):Prop:=o.ķ= .Ċ "tuple" /\∃vs n,o.ë= .Ĕ vs n
def Ev(Z Y:á->Prop)(h h':ì):Prop:=
 ∀b o,h.Ò b=À o->(¬Y b\/FX o)->
  h'.Ò b=À o\/(Z b/\(∃e n,o.ë= .ĺ e n)/\∃sl,h'.Ò b=À {o with Áh:=sl})
def Ev.ť(Z Y:á->Prop)(h:ì):Ev Z Y h h:=λ_ _ e _=>.Ę e
def Ev.Ð(a:Ev Z Y h g)(b:Ev Z Y g i):Ev Z Y h i:=by
 intro x o e q;rcases a x o e q with c|⟨z,f,s,c⟩
 ·show b x o c q
 ·rcases b x _ c q with d|⟨_,_,l,d⟩
  ·show .Ġ {z,f,s,d}
  ·show .Ġ {z,f,l,d}
def Ev.mono(a:Ev Z Y h h')(hz:∀b o,h.Ò b=À o->Z b->c b)(d:∀b o,h.Ò b=À o->Y b->f b):Ev c f h h':=by
 intro b o e q;rcases a b o e (q.imp (λn g=>n (d b o e g)) id) with i|⟨z,r⟩
 ·show .Ę i
 ·show .Ġ {hz b o e z,r}
def Ev.Ĩ{Z Y:á->Prop}(k:∀b o,h.Ò b=À o->h'.Ò b=À o):Ev Z Y h h':=λb o e _=>.Ę (k b o e)
def Ev.Ŧ{Z Y:á->Prop}{h:ì}(o:Obj):Ev Z Y h (h.Ŧ o):=.Ĩ λ_ _ e=>a0 _ e
def Ev.Âl{Z Y:á->Prop}(s:ut a h h')(d:Y a)(t:∀o,h.Ò a=À o->¬FX o):Ev Z Y h h':=by
 intro b o e q;by_cases c:b=a
 ·clear s;subst c;rcases q with q|q
  ·show absurd d q
  ·show absurd q (t o e)
 ·show .Ę ((s.2 b c).Ð e)
def Ev.Ĕ{Z Y:á->Prop}{h h':ì}(a:Ev Z Y h h'){b:á}{o:Obj}(e:h.Ò b=À o)(q:¬Y b\/FX o)(c:∀s n,o.ë≠ .ĺ s n):h'.Ò b=À o:=
 (a b o e q).Ŏ λ⟨_,⟨s,n,d⟩,_⟩=>c s n d
def Ev.cH(a:Ev Z Y h h')(e:h.Ò b=À o)(q:¬Y b)(hz:¬Z b):h'.Ò b=À o:=
 (a b o e (.Ę q)).Ŏ λx=>hz x.1
def Ev.ë(a:Ev Z Y h h'){b:á}{o:Obj}(e:h.Ò b=À o)(q:¬Y b):∃c,h'.Ò b=À c/\c.ë=o.ë/\c.ķ=o.ķ:=by
 rcases a b o e (.Ę q) with d|⟨_,_,s,d⟩
 ·show{o,d,Î,Î}
 ·show{_,d,Î,Î}
def VR(h:ì)(X:á->Prop)(v:Í)(d:D):Prop:=∃s,Ào h v d s/\∀a∈s,¬X a
def Am(h:ì)(X:á->Prop)(vs:Â Í)(ds:Â D):Prop:=∃s,œ h vs ds s/\∀a∈s,¬X a
def cI{P:Í->D->Â á->Prop}{Q:Â Í->Â D->Â á->Prop}(p:P .Ã .Ã [])(Bp:∀b,P (.Ù b) (.Ù b) [])(p2:∀i t,P (.Ê i t) (.Ê i) [])(c:∀x t,P (.Ý x t) (.Ý x) [])
  (f:∀{a o vs n xs s},h.Ò a=À o->o.ķ= .Ċ "list" ->o.ë= .Ĕ vs n->œ h vs.Ħ xs s->Q vs.Ħ xs s->P (.ò a) (.É xs) (a::s))
  (g:∀{a o vs n xs s},h.Ò a=À o->o.ķ= .Ċ "tuple" ->o.ë= .Ĕ vs n->œ h vs.Ħ xs s->Q vs.Ħ xs s->P (.ò a) (.Ç xs) s)
  (j:∀{a o e n k s bs},h.Ò a=À o->o.ķ= .Ċ "dict" ->o.ë= .ĺ e n->œ h (e.Ħ.Ö (·.key)) (k.Ö (·.1)) s->œ h (e.Ħ.Ö (·.ê)) (k.Ö (·.2)) bs->
   Q (e.Ħ.Ö (·.key)) (k.Ö (·.1)) s->Q (e.Ħ.Ö (·.ê)) (k.Ö (·.2)) bs->P (.ò a) (.ĺ k) (a::s++bs))
  (q:Q [] [] [])(q1:∀{v vs d ds s bs},Ào h v d s->œ h vs ds bs->P v d s->Q vs ds bs->Q (v::vs) (d::ds) (s++bs)):
  (∀{v d s},Ào h v d s->P v d s)/\∀{vs ds s},œ h vs ds s->Q vs ds s:=
 {Ào.rec (ÁO:=λv d s _=>P v d s) p Bp p2 c f g j q q1,œ.rec (ÂD:=λv d s _=>Q v d s) p Bp p2 c f g j q q1}
def mT{P:á->Prop}{a b:Â á}(h:∀x∈a++b,P x):∀x∈a,P x:=λx m=>h x (P7 _ m)
def mU{P:á->Prop}{a b:Â á}(h:∀x∈a++b,P x):∀x∈b,P x:=λx m=>h x (sK _ m)
def jB{P:á->Prop}(h:∀x∈a::b,P x):∀x∈b,P x:=λx m=>h x (.ě _ m)
def gS{P:á->Prop}(h:∀x∈a::b,P x):P a:=h a (.Ď _)
def jC{P:á->Prop}(x:P a)(h:∀x∈b,P x):∀x∈a::b,P x:=K9.ĝ {x,h}
def jD{P:á->Prop}{a b:Â á}(x:∀x∈a,P x)(h:∀x∈b,P x):∀x∈a++b,P x:=Â.forall_mem_append.ĝ {x,h}
section
variable{Z Y:Addr->Prop}{h h':Heap}(hk:Ev Z Y h h')
include hk
def gT:(∀{v d s},Ào h v d s->(∀a∈s,¬Y a/\¬Z a)->Ào h' v d s)/\∀{vs ds s},œ h vs ds s->(∀a∈s,¬Y a/\¬Z a)->œ h' vs ds s:=
 cI (λ_=>.Ã) (λb _=>.Ù b) (λi t _=>.Ê i t) (λx t _=>.Ý x t)
  (λo f c _ q y=>.É (hk.cH o (gS y).1 (gS y).2) f c (q (jB y)))
  (λo f c _ q y=>.Ç (hk.Ĕ o (.Ġ {f,_,_,c}) λk n e=>bg j2 (c.symm.Ð e) rfl) f c (q y))
  (λo f c _ _ g j y=>.ĺ (hk.cH o (gS y).1 (gS y).2) f c (g (mT (jB y))) (j (mU (jB y))))
  (λ_=>.å) λ_ _ p q y=>.Æ (p (mT y)) (q (mU y))
def aS(r:Ào h v d s):(∀a∈s,¬Y a/\¬Z a)->Ào h' v d s:=(gT hk).1 r
def aT(r:œ h v d s):(∀a∈s,¬Y a/\¬Z a)->œ h' v d s:=(gT hk).2 r
end
def VR.ev{Z Y X:á->Prop}{h h':ì}(r:VR h X v d)(hk:Ev Z Y h h')(hz:∀b,Z b->X b)(e:∀b,Y b->X b):VR h' X v d:=
 let⟨s,a,b⟩:=r;{s,aS hk a λx c=>{λy=>b x c (e x y),λz=>b x c (hz x z)},b}
def Am.ev{Z Y X:á->Prop}{h h':ì}(r:Am h X v d)(hk:Ev Z Y h h')(hz:∀b,Z b->X b)(e:∀b,Y b->X b):Am h' X v d:=
 let⟨s,a,b⟩:=r;{s,aT hk a λx c=>{λy=>b x c (e x y),λz=>b x c (hz x z)},b}
def gU:(∀{v d s},Ào h v d s->∀a∈s,∃o,h.Ò a=À o)/\∀{vs ds s},œ h vs ds s->∀a∈s,∃o,h.Ò a=À o:=
 cI nl (λ_=>nl) (λ_ _=>nl) (λ_ _=>nl)
  (λb _ _ _ q=>jC {_,b} q) (λ_ _ _ _ q=>q) (λb _ _ _ _ c e=>jC {_,b} (jD c e)) nl λ_ _ p q=>jD p q
def iQ(r:Ào h v d s):∀a∈s,∃o,h.Ò a=À o:=gU.1 r
def eN(r:œ h v d s):∀a∈s,∃o,h.Ò a=À o:=gU.2 r
def VR.less{X X':á->Prop}{h:ì}{v:Í}{d:D}(r:VR h X v d)(x:∀b o,h.Ò b=À o->X' b->X b):VR h X' v d:=
 let⟨s,a,b⟩:=r;{s,a,λy c z=>b y c (let⟨o,e⟩:=iQ a y c;x y o e z)}
def VR.Ê(i:ä)(t:Tok):VR h X (.Ê i t) (.Ê i):={[],.Ê i t,by simp}
def VR.Ù(b:é):VR h X (.Ù b) (.Ù b):={[],.Ù b,by simp}
def VR.Ý(x:Þ)(t:Tok):VR h X (.Ý x t) (.Ý x):={[],.Ý x t,by simp}
def VR.Ã:VR h X .Ã .Ã:={[],.Ã,by simp}
def Am.å:Am h X [] []:={[],.å,by simp}
def Am.Æ{h:ì}{X:á->Prop}{v:Í}{d:D}{vs:Â Í}{ds:Â D}(a:VR h X v d)(b:Am h X vs ds):Am h X (v::vs) (d::ds):=
 let⟨s,r,p⟩:=a;let⟨c,q,l⟩:=b;{s++c,.Æ r q,λx e=>(dL.mp e).ç (p x) (l x)}
def Td(h:ì)(X:á->Prop):Â Í->Â D->Prop
 |[],[]=>True
 |v::vs,d::ds=>VR h X v d/\Am h X vs ds
 |_,_=>Ī
def Vd(h:ì)(X:á->Prop)(v:Í):D->Prop
 | .Ã=>v= .Ã
 | .Ù b=>v= .Ù b
 | .Ê i=>∃t,v= .Ê i t
 | .Ý x=>∃t,v= .Ý x t
 | .Ç ds=>∃a vs,v= .ò a/\IsTup h a vs.ó/\Am h X vs ds
 | .É ds=>∃a vs,v= .ò a/\¬X a/\h.Ĳ a vs.ó/\Am h X vs ds
 | .ĺ _=>True
def oB:(∀{v d s},Ào h v d s->(∀a∈s,¬X a)->Vd h X v d)/\∀{vs ds s},œ h vs ds s->(∀a∈s,¬X a)->Td h X vs ds:=
 cI (λ_=>rfl) (λ_ _=>rfl) (λ_ t _=>{t,Î}) (λ_ t _=>{t,Î})
  (λo c b r _ p=>{_,_,Î,gS p,{_,o,c,_,b},{_,r,jB p}}) (λo c b r _ p=>{_,_,Î,{_,o,c,_,b},{_,r,p}}) (λ_ _ _ _ _ _ _ _=>trivial) (λ_=>trivial)
  λr q _ _ p=>{{_,r,mT p},{_,q,mU p}}
def VR.inv(r:VR h X v d):Vd h X v d:=r.ç λ_ q=>oB.1 q.1 q.2
def Am.gV(r:Am h X vs ds):Td h X vs ds:=r.ç λ_ q=>oB.2 q.1 q.2
def Am.inv(a:Am h X (v::vs) (d::ds)):VR h X v d/\Am h X vs ds:=a.gV
def cJ{P:Â Í->Â D->Prop}(p:P [] [])(Bp:∀{v d vs ds},VR h X v d->Am h X vs ds->P vs ds->P (v::vs) (d::ds)):∀{vs:Â Í} {ds:Â D},Am h X vs ds->P vs ds:=by
 intro vs;induction vs with
 |å=>
  intro ds r;cases ds using i2 with
  |å=>show p
  |Æ=>show r.gV.ç
 |Æ v vs i=>
  intro ds r;cases ds using i2 with
  |å=>show r.gV.ç
  |Æ=>show Bp r.inv.1 r.inv.2 (i r.inv.2)
def Am.Á(r:Am h X vs ds):vs.Á=ds.Á:=cJ (P:=λvs ds=>vs.Á=ds.Á) rfl (λ_ _ e=>â Ï.ś e) r
def Am.at{j:Ï}(r:Am h X vs ds):ds[j]? =À d->∃v,vs[j]? =À v/\VR h X v d:=
 cJ (P:=λvs ds=>∀j,ds[j]? =À d->∃v,vs[j]? =À v/\VR h X v d) (λ_ e=>nS e) (λa _ q j=>R1 j (λe=>{_,Î,al e▸a}) q) r j
def Am.ÁE(r:Am h X vs ds)(q:Am h X w e):Am h X (vs++w) (ds++e):=
 cJ (P:=λvs ds=>Am h X (vs++w) (ds++e)) q (λa _ q=>.Æ a q) r
def Am.Ń(n:Ï)(r:Am h X vs ds):Am h X (vs.Ń n) (ds.Ń n):=
 cJ (P:=λvs ds=>∀n,Am h X (vs.Ń n) (ds.Ń n)) (λn=>by rw[Â.drop_nil,Â.drop_nil];show .å) (λa b q n=>R1 n (.Æ a b) q) r n
def Am.Ś(n:Ï)(r:Am h X vs ds):Am h X (vs.Ś n) (ds.Ś n):=
 cJ (P:=λvs ds=>∀n,Am h X (vs.Ś n) (ds.Ś n)) (λn=>by rw[Z9,Z9];show .å) (λa b q n=>R1 n .å λn=>.Æ a (q n)) r n
def Am.Ė(r:Am h X vs ds):Am h X vs.Ė ds.Ė:=
 cJ (P:=λvs ds=>Am h X vs.Ė ds.Ė) .å (λa _ q=>by rw[YU,YU];show q.ÁE (.Æ a .å)) r
def VR.az(r:VR h X v (.Ê i)):∃t,v= .Ê i t:=r.inv
theorem VR.Aw(r:VR h X v (.Ù b)):v= .Ù b:=r.inv
def VR.cK(r:VR h X v (.Ý x)):∃t,v= .Ý x t:=r.inv
def VR.bO(r:VR h X v (.Ç ds)):∃a vs,v= .ò a/\IsTup h a vs.ó/\Am h X vs ds:=r.inv
def VR.aU(r:VR h X v (.É ds)):∃a vs,v= .ò a/\¬X a/\h.Ĳ a vs.ó/\Am h X vs ds:=r.inv
def VR.dI{vs:Â Í}(t:IsTup h a vs.ó)(r:Am h X vs ds):VR h X (.ò a) (.Ç ds):=by
 show au t λo b c w=>ao w λn d=>ag r ?_;clear r;intro s r p;show{s,.Ç b c d r,p}
def VR.bI{vs:Â Í}(t:h.Ĳ a vs.ó)(b:¬X a)(r:Am h X vs ds):VR h X (.ò a) (.É ds):=by
 show au t λo c d w=>ao w λn f=>ag r ?_;clear r;intro s r p;show{a::s,.É c d f r,λx g=>(a5.mp g).ç (λe=>e▸b) (p x)}
end
section
set_option genCtorIdx true in
inductive DO where
 |ŧ|Ž|ļ|ī|mod|pow
set_option genCtorIdx true in
inductive Fd where
 |eq|ne|lt|le|gt|ge
set_option genCtorIdx true in
inductive Bi where
 |ŏ|abs|max|min|É|Ç|sum
set_option genCtorIdx true in
mutual
inductive Tg where
 |name(i:Nat)
 |tup(l:EX)
inductive EX where
 |nil
 |cons(t:Tg)(l:EX)
end
instance:í DO:={.ŧ}
instance:í Fd:={.eq}
instance:í Bi:={.ŏ}
instance:í Tg:={.Ě 0}
instance:í EX:={.å}
def Df{α:Type}:Ë α->M α
 |À a=>Ñ a
 |Ã=>M.Û
noncomputable def itemAt(l:Â D)(i:ä):Ë D:=if l.Á<=100000 then(ÁI i l.Á).ù λj=>l[j]? else Ã
def Jp:D->D->M D
 | .É l,.Ê i=>Df (itemAt l i)
 | .Ç l,.Ê i=>Df (itemAt l i)
 |_,_=>M.Û
def HU:D->D->M D
 | .É l,.Ê n=>if l.Á<=100000 then Ñ (.É (if 0<=n then l.Ś n.ł else l.Ś (l.Á -(-n).ł))) else M.Û
 |_,_=>M.Û
def LD:D->D->M D
 | .É l,.Ê n=>if l.Á<=100000/\0<=n then Ñ (.É (l.Ń n.ł)) else M.Û
 | .Ç l,.Ê n=>if l.Á<=100000/\1<=n/\n<=l.Á then Ñ (.Ç (l.Ń n.ł)) else M.Û
 |_,_=>M.Û
def Mm:D->M D
 | .É l=>if l.Á<=100000 then Ñ (.É l.Ė) else M.Û
 |_=>M.Û
def Od:D->D->M D
 |a,.Ê n=>if n<=100000/\ -100000<=n then Ñ (.É (ln n.ł a)) else M.Û
 |_,_=>M.Û
@[irreducible] noncomputable def sm (a:ä):é:=decide (a.ï<2^8000)
def AX(a b:ä):é:=sm a&&sm b
def FY(a b:ä):é:=sm a&&decide (0<=b)&&decide (b<=5000)
noncomputable def binI:DO->ä->ä->M D
 | .ŧ,a,b=>Ñ (.Ê (a+b))
 | .Ž,a,b=>Ñ (.Ê (a -b))
 | .ļ,a,b=>if AX a b then Ñ (.Ê (a*b)) else M.Û
 | .ī,a,b=>if b≠0/\sm b=Ä then Ñ (.Ê (a.ī b)) else M.Û
 | .mod,a,b=>if b≠0 then Ñ (.Ê (a.fmod b)) else M.Û
 | .pow,a,b=>if FY a b then Ñ (.Ê (a^b.ł)) else M.Û
def Mn{α:Type}(op:DO)(n:Ï)(x:α)(f:α->D):M D:=match op with
 | .ŧ=>if n<=100000 then Ñ (f x) else M.Û
 |_=>M.Û
def Fe(op:DO)(a b:D):M D:=match a,b with
 | .Ê a,.Ê b=>binI op a b
 | .É a,.É b=>Mn op (a.Á+b.Á) (a++b) .É
 | .Ç a,.Ç b=>Mn op (a.Á+b.Á) (a++b) .Ç
 | .Ý a,.Ý b=>Mn op (a.Á+b.Á) (a++b) .Ý
 |_,_=>M.Û
def wg{C:Prop}(h:Fe op a b≠M.Û)(k:∀x y,a= .Ê x->b= .Ê y->C)(l:∀x y,a= .É x->b= .É y->C)(t:∀x y,a= .Ç x->b= .Ç y->C)(s:∀x y,a= .Ý x->b= .Ý y->C):C:=by
 cases a using ap with
 |Ê=>induction b using ap<;>first|show k _ _ Î Î|show absurd rfl h
 |É=>induction b using ap<;>first|show l _ _ Î Î|show absurd rfl h
 |Ç=>induction b using ap<;>first|show t _ _ Î Î|show absurd rfl h
 |Ý=>induction b using ap<;>first|show s _ _ Î Î|show absurd rfl h
 |_=>show absurd rfl h
def Oe:D->M D
 | .Ê a=>Ñ (.Ê (-a))
 |_=>M.Û
def Aw:D->M é
 | .Ù b=>Ñ b
 |_=>M.Û
def AV(d:D):é:=d.Àx&&decide (d.ű<=64)
def TQ(a b:D):M é:=if AV a&&AV b then Ñ (f2 a b) else M.Û
def B_:Fd->D->D->M D
 | .eq,a,b=>do Ñ (.Ù (<-TQ a b))
 | .ne,a,b=>do Ñ (.Ù (!(<-TQ a b)))
 | .lt,.Ê a,.Ê b=>Ñ (.Ù (decide (a<b)))
 | .le,.Ê a,.Ê b=>Ñ (.Ù (decide (a<=b)))
 | .gt,.Ê a,.Ê b=>Ñ (.Ù (decide (a>b)))
 | .ge,.Ê a,.Ê b=>Ñ (.Ù (decide (a>=b)))
 | .lt,.Ý a,.Ý b=>Ñ (.Ù (decide (a.cps.Ħ<b.cps.Ħ)))
 |_,_,_=>M.Û
def PB(xs:Â D)(d:D):é:=xs.any λy=>f2 y d
def Gw:D->D->M D
 |d,.Ç xs=>if YS xs&&d.Àx&&decide (d.ű<=64) then Ñ (.Ù (PB xs d)) else M.Û
 |_,_=>M.Û
def CW:D->é
 | .Ã=>Ä
 |_=>Å
def Jd:D->M (Â D)
 | .É l=>Ñ l
 | .Ç l=>Ñ l
 |_=>M.Û
noncomputable def allInts:Â D->Ë (Â ä)
 |[]=>À []
 | .Ê i::l=>(allInts l).Ö (i:: ·)
 |_=>Ã
def Kx:Bi->Â D->M D
 | .ŏ,[.É l]=>if l.Á<=100000 then Ñ (.Ê l.Á) else M.Û
 | .ŏ,[.Ç l]=>if l.Á<=100000 then Ñ (.Ê l.Á) else M.Û
 | .abs,[.Ê i]=>Ñ (.Ê i.ï)
 | .max,[.Ê a,.Ê b]=>Ñ (.Ê (if b>a then b else a))
 | .min,[.Ê a,.Ê b]=>Ñ (.Ê (if b<a then b else a))
 | .É,[.É l]=>if l.Á<=100000 then Ñ (.É l) else M.Û
 | .É,[.Ç l]=>if l.Á<=100000 then Ñ (.É l) else M.Û
 | .Ç,[.É l]=>if l.Á<=100000 then Ñ (.Ç l) else M.Û
 | .sum,[.É l]=>if l.Á<=100000 then(match allInts l with|À ns=>Ñ (.Ê ns.sum)|Ã=>M.Û) else M.Û
 |_,_=>M.Û
noncomputable def sel{α:Type}(a:α)(i:ä->α)(s:Þ->α)(t:Â D->α)(d:D):α:=ap (ÁO:=λ_=>α) d a (λ_=>a) i s (λ_=>a) t λ_=>a
def Te:Ï->Â D->é:=Ï.rec (λ_=>Å) λ_ g l=>l.ş (sel Å (λ_=>Ä) acr g)
def AU:D->é:=sel Å (λ_=>Å) (λ_=>Å) (Te 8)
def DP(v:Â (D×D))(k:D):Ë D:=(v.Âm λp=>f2 p.1 k).Ö (·.2)
def Jq(s:Â (D×D))(k v:D):Â (D×D):=if(DP s k).ÁW then s.Ö (λp=>if f2 p.1 k then(p.1,v) else p) else s++[(k,v)]
def Hk(v:Â (D×D))(k:D):Â (D×D):=v.ÀX λp=> !ā.eqv p.1 k
end
section
def TU(w:World):Ï->Â D->ä:=Ï.rec (λ_=>0) λ_ g l=>reduceHash (wE (l.Ö (sel 0 hashInt (hashStr w) g)))
def FZ(w:World)(n:Ï):D->ä:=sel 0 hashInt (hashStr w) (TU w n)
def Rv:Ï->Â D->Ï:=Ï.rec (λ_=>0) λ_ g l=>(l.Ö (sel 1 (λ_=>1) (λ_=>1) g)).sum+1
def Je(n:Ï):D->Ï:=sel 1 (λ_=>1) (λ_=>1) (Rv n)
inductive Kb:Ï->D->Prop
 |Ê {i}:Kb n (.Ê i)
 |Ý {x}:acr x=Ä->Kb n (.Ý x)
 |tup {l}:(∀d∈l,Kb n d)->Kb (n+1) (.Ç l)
def zH{d:D}:sel Å (λ_=>Ä) acr (Te n) d=Ä->Kb n d:=by
 induction n generalizing d with
 |ž=>
  cases d using ap with
  |Ê=>show λ_=>.Ê
  |Ý=>show .Ý
  |_=>show λh=>fT h
 |ś n i=>
  cases d using ap with
  |Ê=>show λ_=>.Ê
  |Ý=>show .Ý
  |Ç l=>show λh=>.tup λd a=>i (an.mp h d a)
  |_=>show λh=>fT h
def fR(h:AU k=Ä):Kb 8 k:=by
 cases k using ap with
 |Ç l=>show zH h
 |_=>show fT h
def wi(k:Kb n d)(r:Ào h v d a):a=[]:=
 (cI (P:=λ_ d a=>∀n,Kb n d->a=[]) (Q:=λ_ s a=>∀n,(∀d∈s,Kb n d)->a=[]) (λ_ _=>rfl) (λ_ _ _=>rfl) (λ_ _ _ _=>rfl) (λ_ _ _ _=>rfl)
  (λ_ _ _ _ _ n k=>nomatch k) (λ_ _ _ _ q _ k=>by cases k with|tup k=>show q _ k) (λ_ _ _ _ _ _ _ n k=>nomatch k) (λ_ _=>rfl)
  λ_ _ p q n k=>by rw[p n (k _ (.Ď _)),q n λd h=>k d (.ě _ h)];rfl).1 r n k
def kX{l':Â D}:(∀d∈l,∀e∈l',(f2 d e=Ä↔d=e))->(ā.eqvAll l l'=Ä↔l=l'):=by
 induction l generalizing l' with
 |å=>
  cases l' using i2 with
  |å=>show λ_=>{λ_=>rfl,λ_=>rfl}
  |Æ=>show λ_=>{λh=>fT h,nofun}
 |Æ d l i=>
  cases l' using i2 with
  |å=>show λ_=>{λh=>fT h,nofun}
  |Æ e l'=>
   intro h;rw[Â.Æ.injEq];show im.Ð (and_congr (h d (.Ď _) e (.Ď _)) (i λx a y b=>h x (.ě _ a) y (.ě _ b)))
def wj(k:Kb n d):Kb m e->(f2 d e=Ä↔d=e):=by
 induction k generalizing m e with
 | @Ê _ i=>
  intro k;cases k with
  | @Ê _ j=>rw[ā.Ê.injEq];show ÁP
  |_=>show{λh=>fT h,nofun}
 | @Ý _ x _=>
  intro k;cases k with
  | @Ý _ y _=>rw[ā.Ý.injEq];show ÁP
  |_=>show{λh=>fT h,nofun}
 | @tup _ l _ a=>
  intro k;cases k with
  | @tup _ f k=>rw[ā.Ç.injEq];show kX λd b e c=>a d b (k e c)
  |_=>show{λh=>fT h,nofun}
def mV(h:AU d=Ä)(h':AU e=Ä):f2 d e=Ä↔d=e:=wj (fR h) (fR h')
def jE(k:Kb n d):d.Àx=Ä/\d.ű<=n:=by
 induction k with
 |Ê=>show{Î,j0 _}
 |Ý h=>show{h,j0 _}
 | @tup n l z i=>
  clear z;have e:YS l=Ä/\ā.depthAll l<=n:=by
   induction l with
   |å=>show{Î,j0 _}
   |Æ d l k=>
    have a:=i d (.Ď _);have b:=k (λx c=>i x (.ě _ c));show{im.ĝ {a.1,b.1},V3.ĝ {a.2,b.2}}
  show{e.1,ol e.2}
section
variable{prog:Ok}{w:World}{E:Value->Shared->Prop}
def kY(k:Kb n d):∀(A:KB) (E:Í->Ô->Prop) (s:Ô) (v:Í) (Q:ä->Ô->Prop),A.Àp+n<cLine->VR s.Ì (λ_=>Ī) v d->
  Q (FZ w n d) {s with Ā:=s.Ā+Je n d}->è (ć ú w) A (pyHash v) Q E s:=by
 exists ú w n d,k;induction k with
 |Ê=>intro A E s v Q u r h;obtain⟨t,Î⟩:=r.az;show wpAny_pyHash_int h
 |Ý=>intro A E s v Q u r h;obtain⟨t,Î⟩:=r.cK;show wpAny_pyHash_str h
 | @tup n l G p=>
  intro A E s v Q u r h;show a_ r.bO λa H I z c=>au z λo g q y=>ao y λm B=>?_;clear z y;subst I;exists n l A E s Q a H o m,G p u h c g q B r;have T:s.Âe (.ò a) "tuple":={o,g,q};show È (wpAny_cRoomFor_or (.Ġ (ln1 u)) ?_);show È (ÁJ T W4.ö ?_);show È (ÁJ T W4.ö ?_);show È (wpAny_callSpecialIfBoundUnlessNone?_slot T W4 (Ľ W4 T F.entry_tuple_hash ?_ (F.args_tuple_hash_1 _)));change è _ _ (Ő.Ů.tupleItemsOf (.ò a)>>=_) _ _ s;show È (wpAny_tupleItemsOf g B (È ?_));rw[<-Ŕ.forIn_toList];show wpAny_forIn_list _ (λi (b:Ŕ ä) j=>∃done left,l=done++left/\Am s.Ì (λ_=>Ī) i left/\b.Ħ=done.Ö (FZ w n)/\j={s with Ā:=s.Ā+(done.Ö (Je n)).sum})
   _ ?_ ?_ _ _ {[],l,Î,c,Î,Î}
  ·rintro x i b j ⟨done,left,e,c,f,Î⟩;exists x i b done left,e c f;cases left using i2 with
   |å=>show c.gV.ç
   |Æ d left=>
    exists d left,e c;show È (p d (e▸sK _ (.Ď _)) _ _ _ _ _ (ln1 u) c.inv.1 (Õ {done++[d],left,by simp[e],c.inv.2,by simp[f],by simp[s7]}))
  ·rintro b j ⟨done,left,e,c,f,Î⟩;exists b done left,e c f;cases left using i2 with
   |Æ=>show c.gV.ç
   |å=>
    obtain rfl:=e.Ð (wf _);change è _ _ (retInt (wE b.Ħ)) _ _ _;rw[f];show wpAny_ret_mkInt ?_;change è _ _ (if(decide (-(2:ä)^63<=wE (l.Ö (FZ w n)))&&decide (wE (l.Ö (FZ w n))<2^63))=Ä then _ else _) Q E _;have h:Q (reduceHash (wE (l.Ö (FZ w n)))) {s with Ā:=s.Ā+(l.Ö (Je n)).sum+1}:=h;unfold reduceHash at h;by_cases C:(decide (-(2:ä)^63<=wE (l.Ö (FZ w n)))&&decide (wE (l.Ö (FZ w n))<2^63))=Ä
    ·rw[à C] at h⊢;show Õ h
    ·rw[ß C] at h⊢;show È (ÁQ (Õ h))
def jF(k:Kb n d):∀(A:KB) (E:Í->Ô->Prop) (s:Ô) (v:Í) (Q:é->Ô->Prop),VR s.Ì (λ_=>Ī) v d->Q Ä s->è (ć ú w) A (eqIsQuiet n v) Q E s:=by
 exists ú w n d,k;induction k with
 |Ê=>intro A E s v Q r h;obtain⟨t,Î⟩:=r.az;rw[eqIsQuiet_byValue _ Î];show Õ h
 |Ý=>intro A E s v Q r h;obtain⟨t,Î⟩:=r.cK;rw[eqIsQuiet_byValue _ Î];show Õ h
 | @tup n l C i=>
  intro A E s v Q r h;show a_ r.bO λa G H z b=>au z λo c g j=>ao j λm p=>?_;clear z j;subst H;exists n l A E s Q a G o m,C i h b c g p r;have T:s.Âe (.ò a) "tuple":={o,c,g};unfold eqIsQuiet;show È (ÁJ T F.slot_tuple_eq.ö (È (wpAny_isInstance T isSubtype_tuple_tuple (È (ÂX c p (È ?_))))));rw[<-Ŕ.forIn_toList];show wpAny_forIn_list _ (λq u f=>u.1=Ã/\f=s/\∃e,Am s.Ì (λ_=>Ī) q e/\∀d∈e,d∈l) _ ?_ ?_ _ _ {Î,Î,_,b,λ_=>id}
  ·clear r b c T;rintro v q u f ⟨y,Î,e,b,B⟩;cases e using i2 with
   |å=>show b.gV.ç
   |Æ d J=>show È (i d (B d (.Ď _)) A E _ v _ b.inv.1 (Õ {Î,Î,_,b.inv.2,λx I=>B x (.ě _ I)}))
  ·clear r b c T;rintro ⟨L,N⟩ f ⟨y,Î,_⟩;subst y;show Õ h
end
open Classical in
noncomputable def deep(ú:Ok)(w:World):HeapKind ú w D where
 is:=λh k a=>AU k=Ä/\Ào h (.ò a) k []
 hash:=FZ w 8
 draws:=Je 8
 room:=λA=>A.Àp+80<cLine
 inj:=λc f=>(reads_det (λ_ _ e _=>e) f.2 c.2).1
 ľ:=λ{h h' k a d o n ep} x g i j=>⟨x.1,aS (Z:=λ_=>Ī) (Y:=λb=>b=d) (Ev.Âl j Î λp e q=>by
   rw[g] at e;(have l:=al e;clear e;subst l);show aj q λ_ m=>bB m λ_ _ q=>?_;rw[i] at q;show dC q) x.2 λ_ c=>nomatch c⟩
 pyHash:=λu hk h=>kY (fR hk.1) _ _ _ _ _ (ln1 u) {_,hk.2,nofun} h
 eqBool:=λ{A E s x y a b Q} u c f h=>SeqAt.eqBoolOverData _ _ _ _ _ _ _ _ _ _ _ _ c.2 f.2 (jE (fR c.1)).1 (jE (fR f.1)).1
  (i9 (g5 (ac (Zs ..) (ac (jE (fR c.1)).2 _0)) _) u) (by
   have e:=mV c.1 f.1;by_cases q:x=y
   ·rw[e.ĝ q];simpa [q] using h
   ·rw[AT.ĝ (λz=>q (e.mp z))];simpa [q] using h)
 quiet:=λhk h=>jF (fR hk.1) _ _ _ _ _ {_,hk.2,nofun} h
end
section
structure Gd where
 cx:Cx
 A:KB
 d:Ï
 X:á->Prop
 Z:á->Prop
 Ü:Env
 nm:Â Þ
 lo:Ï
 ĉ:Ï->á
instance:í Gd:={{SZ Àa,SZ Àa,0,λ_=>Ī,λ_=>Ī,Ķ,[],0,λ_=>0}}
def Gd.V(g:Gd)(b:á):Prop:=g.cx.P=À b\/b=g.Ü.æ
def Cx.K(cx:Cx)(b:á):Prop:=cx.P=À b\/∃q,cx.tab b=À q
def Gd.Y(g:Gd)(b:á):Prop:=g.V b\/∃q,g.cx.tab b=À q
def EY(vs:Ŕ Í):Prop:=∀q t,vs[1]? ≠À (.Ý q t)
def bz{vs:Ŕ Í}(h:vs[1]? =À v)(n:∀q t,v≠ .Ý q t):EY vs:=λq t e=>n q t (al (h.symm.Ð e))
def RecAt(h:ì)(b:á):Prop:=∃o f,h.Ò b=À o/\o.ë= .ü f/\EY f
def Dh(T:á->Ë Þ)(X:á->Prop)(h:ì):Prop:=∀b q,T b=À q->X b/\∃p,h.Ò b=À (tabObj p)/\TriplesOk p.Ħ/\
 ∀ă cv,Ái ă p.Ħ=À cv->∃c FU vs t,cv= .ò c/\¬X c/\h.Ò c=À FU/\FU.ë= .ü vs/\vs[1]? =À (.Ý q t)
def Dh.ÁX{Z U X X':á->Prop}(t:Dh T X h)(E:Ev Z U h h')(k:∀b q,T b=À q->¬U b)(u:∀b o s,h.Ò b=À o->o.ë= .ü s->¬X b->U b->EY s)(g:∀b o,h.Ò b=À o->X' b->X b)(p:∀b q,T b=À q->X' b):Dh T X' h':=by
 exists T h h' Z U X X',t E k u g p;intro b q e;show aj (t b q e) λH w=>au w λl m n r=>{p b q e,l,E.Ĕ m (.Ę (k b q e)) (λ_ _ d=>dC d),n,λv z A=>?_};show iE (r v z A) λc FU B C G i a ⟨f,j⟩=>{c,FU,B,C,G,λx=>i (g c _ a x),E.Ĕ a (.Ę λy=>u c _ _ a f i y _ _ j) (λ_ _ d=>dC (f.symm.Ð d)),f,j}
def F_(h:ì)(Ü:Env)(m:Þ->Ë Í)(x:Þ)(v:Í):Prop:=
 (Ü.ð x=À .local/\m x=À v)\/((Ü.ð x=À .Ĭ\/Ü.ð x=À .ÁT)/\(x==("__classdict__" :Þ))=Å/\∃c,Ü.ō.ö x=À c/\h.Ŝ c (À v))
structure BB(g:Gd)(a:á):Prop where
 x:g.X a
 z:¬g.Z a
 y:¬g.Y a
 lo:g.lo<=a
def OT(x:Þ×Í×D):Þ×Í:=(x.1,x.2.1)
def Mp(x:Þ×Í×D):Þ×D:=(x.1,x.2.2)
def FV(x:D×á×Í×D):D×á×Í:=(x.1,x.2.1,x.2.2.1)
def GC(x:D×á×Í×D):D×D:=(x.1,x.2.2.2)
def Tf(cx:Cx)(h:ì)(X:á->Prop)(a:á)(k:Â (Þ×D)):Prop:=∃l:Â (Þ×Í×D),h.ÁY (Àd cx.ú cx.w) a (l.Ö OT)/\l.Ö Mp=k/\∀x∈l,VR h X x.2.1 x.2.2
def Th(cx:Cx)(h:ì)(X:á->Prop)(a:á)(k:Â (D×D)):Prop:=∃l:Â (D×á×Í×D),(by classical show h.ÂJ (deep cx.ú cx.w) a (l.Ö FV))/\l.Ö GC=k/\∀x∈l,VR h X x.2.2.1 x.2.2.2
def AS(g:Gd)(h:ì)(o:á)(v:Í):Ą->Prop
 | .ê d=>VR h g.X v d
 | .ĉ ds=>∃vs,v= .ò o/\BB g o/\h.ÁK o vs.ó/\Am h g.X vs ds
 | .sd k=>v= .ò o/\BB g o/\Tf g.cx h g.X o k
 | .td k=>v= .ò o/\BB g o/\Th g.cx h g.X o k
 | .Az=>∃P,g.cx.P=À P/\v= .ò P
def Ą.Bm:Ą->é
 | .ĉ _| .sd _| .td _=>Ä
 |_=>Å
inductive Bb(g:Gd)(h:ì):AK->Prop
 |no:g.cx.P=Ã->Bb g h Ã
 |yes {P l} (vs:Â Í):g.cx.P=À P->g.X P->¬g.Z P->P≠g.Ü.æ->h.Ĳ P vs.ó->Am h g.X vs l->Bb g h (À l)
def Nn(h ÿ:ì)(f:Â Env):Prop:=∀e∈f,e.İ.ĕ≠ .module/\∃L o s n,e.Š=À L/\ÿ.Ò L=Ã/\h.Ò L=À o/\o.ë= .ĺ s n
structure Č(g:Gd)(ρ:Aa)(Az:AK)(h:ì):Prop where
 ĩ:g.cx.ÿ.ĭ h
 HV:g.cx.ÿ.ã.Ú<=g.Ü.æ
 low:g.lo<=g.Ü.æ
 ĕ:g.Ü.İ.ĕ= .Ĥ
 glob:g.Ü.ÀG=jp
 blt:g.Ü.Ày=J5
 Âf:g.A.Àe=Ã
 ű:g.A.ű+g.d<=950
 Àp:g.A.Àp+3*g.d<=9000
 ŕ:∃f u,g.A.ŕ=À (f::u)/\f.Š=g.Ü.Š/\f.İ.ĕ= .Ĥ/\Nn h g.cx.ÿ (f::u)/\∀b,g.Z b↔∃e∈f::u,e.Š=À b
 zx:∀b,g.Z b->g.X b
 lx:g.X g.Ü.æ
 KO:∀b,g.X b->g.cx.ÿ.Ò b=Ã
 xs:∀b,g.X b->∃o,h.Ò b=À o
 Az:Bb g h Az
 ũ:Dh g.cx.tab g.X h
 ō:g.Ü.ō.ĳ λx y=>x.2≠y.2
 Ĭ:∀x,g.Ü.ð x=À .Ĭ->∃c v,g.Ü.ō.ö x=À c/\h.Ŝ c v/\g.X c/\g.lo<=c
 Àq:g.nm.Ŀ
 Ż:∃(m:Þ->Ë Í),h.Ns g.Ü.æ m/\
  ∀i sl,ρ.ĵ i=À sl->∃x v,g.nm[i]? =À x/\F_ h g.Ü m x v/\AS g h (g.ĉ i) v sl
 uniq:∀i j s a,ρ.ĵ i=À s->ρ.ĵ j=À a->s.Bm=Ä->a.Bm=Ä->g.ĉ i=g.ĉ j->i=j
def Bb.at_(p:Bb g h n)(e:g.cx.P=À P):∃l vs,n=À l/\h.Ĳ P vs.ó/\Am h g.X vs l/\g.X P/\¬g.Z P/\P≠g.Ü.æ:=by
 cases p with
 |no q=>show nS (q.symm.Ð e)
 |yes vs q a b c d r=>obtain rfl:=al (q.symm.Ð e);show{_,vs,Î,d,r,a,b,c}
def Bb.x(p:Bb g h n)(e:g.cx.P=À P):g.X P/\¬g.Z P/\P≠g.Ü.æ:=bB (p.at_ e) λ_ _ a=>a.2.2.2
def Bb.Ĕ(p:Bb g h f)(e:g.cx.P=À P):∃o vs n,h.Ò P=À o/\o.ķ= .Ċ "list" /\o.ë= .Ĕ vs n:=
 aD (p.at_ e) λ_ _ _ a=>au a.1 λo b c d=>ao d λn d=>{o,_,n,b,c,d}
def Bb.to(p:Bb g h n)(d:g'.cx.P=g.cx.P)(k:∀P o,g.cx.P=À P->g.X P->¬g.Z P->P≠g.Ü.æ->h.Ò P=À o->o.ķ= .Ċ "list" ->h'.Ò P=À o/\g'.X P/\¬g'.Z P/\P≠g'.Ü.æ)(r:∀{vs l},Am h g.X vs l->Am h' g'.X vs l):Bb g' h' n:=by
 cases p with
 |no q=>show .no (d.Ð q)
 |yes vs q a b c f i=>
  show ag f λo j e=>?_;have z:=k _ o q a b c j e.1;show .yes vs (d.Ð q) z.2.1 z.2.2.1 z.2.2.2 {o,z.1,e} (r i)
def Bb.back(p:Bb g h e)(p':Bb g' h' Ē)(c:g'.cx.P=g.cx.P)(r:∀{vs l},Am h' g'.X vs l->Am h' g.X vs l):Bb g h' Ē:=by
 cases p' with
 |no q=>show .no (c.symm.Ð q)
 |yes vs q _ _ _ a b=>show .yes vs (c.symm.Ð q) (p.x (c.symm.Ð q)).1 (p.x (c.symm.Ð q)).2.1 (p.x (c.symm.Ð q)).2.2 a (r b)
def Č.oE{g:Gd}{ρ:Aa}{p:AK}{h:ì}(I:Č g ρ p h){b:á}{o:Obj}(e:h.Ò b=À o)(f:∀vs n,o.ë≠ .Ĕ vs n)(i:∀s n,o.ë≠ .ĺ s n):¬g.V b:=by
 rintro (q|q)
 ·show ba (I.Az.Ĕ q) λj vs n a _ d=>?_;rw[e] at a;(have z:=al a;clear a;subst z);show f _ _ d
 ·show ag I.Ż λm c _=>ba c ?_;clear c;intro j s k a d _;rw[<-q,e] at a;(have z:=al a;clear a;subst z);show i _ _ d
def Č.y_{p:AK}(I:Č g ρ p h){b:á}{o:Obj}(e:h.Ò b=À o)(a:∀vs n,o.ë≠ .Ĕ vs n)(c:∀s n,o.ë≠ .ĺ s n)(d:∀f,o.ë≠ .ü f):¬g.Y b:=λy=>y.ç (I.oE e a c) λ⟨q,y⟩=>ag (I.ũ b q y).2 λj i _=>by cases e.symm.Ð i;show d _ Î
def Č.mW{p:AK}(I:Č g ρ p h){s n}(e:h.Ò b=À o)(c:o.ë= .ĺ s n)(f:b≠g.Ü.æ):¬g.Y b:=by
 rintro ((q|q)|⟨q,y⟩)
 ·show ba (I.Az.Ĕ q) λi v n a _ d=>?_;rw[e] at a;(have z:=al a;clear a;subst z);rw[c] at d;show dC d
 ·show f q
 ·show ag (I.ũ b q y).2 λj a _=>by cases e.symm.Ð a;show dC c
def mX(I:Č g ρ p h)(E:Ev g.Z Y h h')(e:∀b o,h.Ò b=À o->Y b->(∀v,o.ë≠ .Ĭ v))(x:h.Ŝ c v):h'.Ŝ c v:=by
 show ag x λo a d=>{o,E.Ĕ a (.Ę λy=>e c o a y v d) λs n q=>?_,d};rw[d] at q;show dC q
noncomputable def Gd.on(g:Gd)(X':á->Prop):Gd:={g with X:=X'}
noncomputable def Gd.ŧ(g:Gd)(a:á):Gd:=g.on λb=>g.X b\/b=a
def BB.p(O:BB g a)(e:g.cx.P=À a):Ī:=O.y (.Ę (.Ę e))
def BB.l(O:BB g a)(e:a=g.Ü.æ):Ī:=O.y (.Ę (.Ġ e))
def BB.de(r:AS g h o v sl)(a:sl.Bm=Ä):BB g o:=by
 cases sl using Ą.ď with
 |ĉ=>show r.ż.2.1
 |sd=>show r.2.1
 |td=>show r.2.1
 |ê|Az=>show fT a
def AS.Ö{X':á->Prop}{h h':ì}{i:á}{v:Í}{sl:Ą}(j:∀{v d},VR h g.X v d->VR h' X' v d)(t:∀{v d},Am h g.X v d->Am h' X' v d)(u:∀{v d},Ào h v d []->Ào h' v d [])
  (f:sl.Bm=Ä->BB g i->X' i/\∀o,h.Ò i=À o->(∀A,o.ë≠ .ü A)->(∀v,o.ë≠ .Ĭ v)->h'.Ò i=À o)(r:AS g h i v sl):AS (g.on X') h' i v sl:=by
 exists g X' h h' i v sl,j t u f r;have m:sl.Bm=Ä->BB g i->BB (g.on X') i:=λq O=>{(f q O).1,O.z,O.y,O.lo};cases sl using Ą.ď with
 |ê d=>show j r
 |ĉ I=>
  obtain⟨B,e,O,⟨n,q⟩,r⟩:=r;show{B,e,m Î O,{n,(f Î O).2 _ q (λ_=>nofun) λ_=>nofun},t r}
 |sd C=>
  obtain⟨e,O,l,⟨o,s,p,q,E,a,G⟩,k,r⟩:=r;show{e,m Î O,l,{o,s,p,(f Î O).2 _ q (λ_ b=>bg j2 (a.symm.Ð b) rfl) λ_ b=>bg j2 (a.symm.Ð b) rfl,E,a,G},k,λx c=>j (r x c)}
 |td C=>
  obtain⟨e,O,l,⟨o,s,p,q,a1,a,GD,w,H⟩,k,r⟩:=r;show{e,m Î O,l,{o,s,p,(f Î O).2 _ q (λ_ b=>bg j2 (a.symm.Ð b) rfl) λ_ b=>bg j2 (a.symm.Ð b) rfl,a1,a,GD,λx c=>{(w x c).1,u (w x c).2},H},k,λx c=>j (r x c)}
 |Az=>show r
def AS.ev{g:Gd}{h h':ì}{Y:á->Prop}(E:Ev g.Z Y h h')(a:∀b,g.Z b->g.X b)(y:∀b,Y b->g.X b)(c:sl.Bm=Ä->¬Y i)(r:AS g h i v sl):AS g h' i v sl:=
 r.Ö (λr=>r.ev E a y) (λr=>r.ev E a y) (λr=>aS E r nl) λq O=>{O.x,λo e _ _=>E.cH e (c q) O.z}
def Bb.Ö{h h':ì}{e:AK}(p:Bb g h e)(f:∀P,g.cx.P=À P->X' P/\∀vs,h.Ĳ P vs->h'.Ĳ P vs)(s:∀{v d},Am h g.X v d->Am h' X' v d):Bb (g.on X') h' e:=by
 cases p with
 |no q=>show .no q
 |yes vs q a b c l i=>show .yes vs q (f _ q).1 b c ((f _ q).2 _ l) (s i)
def Bv(g:Gd)(h:ì)(U:á->Prop):Prop:=∀b o,h.Ò b=À o->U b->g.Y b\/((∃f,o.ë= .ü f)/\¬g.X b)
def Np(h:ì)(a:á):Prop:=∃o,h.Ò a=À o/\∀f,o.ë≠ .ü f
def eO:(∀{v d s},Ào h v d s->∀a∈s,Np h a)/\∀{vs ds s},œ h vs ds s->∀a∈s,Np h a:=
 cI nl (λ_=>nl) (λ_ _=>nl) (λ_ _=>nl)
  (λo _ b _ q=>jC {_,o,λ_ z=>bg j2 (b.symm.Ð z) rfl} q) (λ_ _ _ _ q=>q) (λo _ b _ _ c e=>jC {_,o,λ_ z=>bg j2 (b.symm.Ð z) rfl} (jD c e)) nl λ_ _ p q=>jD p q
def cR(r:Ào h v d s):∀a∈s,Np h a:=eO.1 r
def bJ(r:œ h v d s):∀a∈s,Np h a:=eO.2 r
def Bv.not{Z U:á->Prop}(u:Bv g h U)(hz:∀b,Z b->g.X b)(a:∀b,g.Y b->g.X b)(k:Np h x)(q:¬g.X x):¬U x/\¬Z x:=
 {λy=>k.ç λo e=>(u x o e.1 y).ç (λy=>q (a x y)) λf=>f.1.ç λs f=>e.2 s f,λz=>q (hz x z)}
def VR.jG(u:Bv g h U)(r:VR h g.X v d)(hk:Ev Z U h h')(hz:∀b,Z b->g.X b)(y:∀b,g.Y b->g.X b):VR h' g.X v d:=
 r.ç λs a=>{s,aS hk a.1 λx c=>u.not hz y (cR a.1 x c) (a.2 x c),a.2}
def Am.jG(u:Bv g h U)(r:Am h g.X v d)(hk:Ev Z U h h')(hz:∀b,Z b->g.X b)(y:∀b,g.Y b->g.X b):Am h' g.X v d:=
 r.ç λs a=>{s,aT hk a.1 λx c=>u.not hz y (bJ a.1 x c) (a.2 x c),a.2}
def AS.jG(u:Bv g h U)(E:Ev g.Z U h h')(a:∀b,g.Z b->g.X b)(c:∀b,g.Y b->g.X b)(r:AS g h i v sl):AS g h' i v sl:=
 r.Ö (λr=>r.jG u E a c) (λr=>r.jG u E a c) (λr=>aS E r nl) λq O=>{O.x,λo e _ _=>E.cH e (λd=>(u _ o e d).ç O.y λq=>q.2 O.x) O.z}
section
variable{g:Gd}{ρ ρ':Aa}{V pen':AK}{h h':Heap}{X' U:Addr->Prop}
def Č.yx(I:Č g ρ V h)(b:á)(y:g.Y b):g.X b:=y.ç (λy=>y.ç (λq=>(I.Az.x q).1) λq=>q▸I.lx) λ⟨_,q⟩=>(I.ũ b _ q).1
def Ev.y(E:Ev g.Z g.V h h'):Ev g.Z g.Y h h':=E.mono (λ_ _ _ z=>z) λ_ _ _=>.Ę
structure Nq(g:Gd)(h h':ì)(X':á->Prop):Prop where
 S:g.cx.ÿ.ĭ h'
 D:∀L o e n,g.Z L->h.Ò L=À o->o.ë= .ĺ e n->∃o e n,h'.Ò L=À o/\o.ë= .ĺ e n
 z:∀b,g.Z b->X' b
 l:X' g.Ü.æ
 b:∀b,X' b->g.cx.ÿ.Ò b=Ã
 s:∀b,X' b->∃o,h'.Ò b=À o
 c:∀x c v,g.Ü.ð x=À .Ĭ->g.Ü.ō.ö x=À c->g.X c->h.Ŝ c v->X' c/\∃v,h'.Ŝ c v
 t:Dh g.cx.tab X' h'
def DB(g:Gd)(ρ:Aa)(h:ì):Prop:=∃m:Þ->Ë Í,h.Ns g.Ü.æ m/\∀i sl,ρ.ĵ i=À sl->∃x v,g.nm[i]? =À x/\F_ h g.Ü m x v/\AS g h (g.ĉ i) v sl
def Ga(g:Gd)(ρ:Aa):Prop:=∀i j s a,ρ.ĵ i=À s->ρ.ĵ j=À a->s.Bm=Ä->a.Bm=Ä->g.ĉ i=g.ĉ j->i=j
def Č.pre(I:Č g ρ V h)(K:Nq g h h' X')(P:Bb (g.on X') h' Ē)(r:DB (g.on X') ρ' h')(U:Ga g ρ'):Č (g.on X') ρ' Ē h':=by
 exists g ρ ρ' V Ē h h' X',I K P r U;show{K.S,I.HV,I.low,I.ĕ,I.glob,I.blt,I.Âf,I.ű,I.Àp,?_,K.z,K.l,K.b,K.s,P,K.t,I.ō,λx u=>?_,I.Àq,r,U}
 ·show iD I.ŕ λA B a C k d w=>{A,B,a,C,k,λe y=>?_,w};show aj (d e y) λE G=>iE G λL o i n f nb j m=>cG (K.D L o i n ((w L).ĝ {e,y,f}) j m) λo i n j m=>{E,L,o,i,n,f,nb,j,m}
 ·show cb (I.Ĭ x u) λd v e q p H=>aj (K.c x d v u e p q) λp J=>ao J λv q=>{d,v,e,q,p,H}
def F_.Ö(q:F_ h Ü m x v)(C:∀c v,h.Ŝ c v->h'.Ŝ c v):F_ h' Ü m x v:=
 q.imp_right λa=>{a.1,a.2.1,a.2.2.imp λc b=>{b.1,C c _ b.2}}
def DB.Ö(a:DB g ρ h)(N:∀m,h.Ns g.Ü.æ m->h'.Ns g.Ü.æ m)(C:∀c v,h.Ŝ c v->h'.Ŝ c v)(T:∀i sl v,ρ.ĵ i=À sl->AS g h (g.ĉ i) v sl->AS (g.on X') h' (g.ĉ i) v sl):DB (g.on X') ρ h':=ag a λm n b=>{m,N m n,λi sl e=>a_ (b i sl e) λx v d f j=>{x,v,d,f.Ö C,T i sl v e j}}
section
variable(I:Inv g ρ V h)
include I
def Bv.Ĭ(u:Bv g h U)(E:Ev g.Z U h h')(c:á)(v:Ë Í):h.Ŝ c v->h'.Ŝ c v:=
 mX I E λb o e y v q=>(u b o e y).ç (I.y_ e (λ_ _ z=>bg j2 (q.symm.Ð z) rfl) (λ_ _ z=>bg j2 (q.symm.Ð z) rfl) λ_ z=>bg j2 (q.symm.Ð z) rfl) λf=>f.1.ç λ_ z=>bg j2 (q.symm.Ð z) rfl
def Č.gW(e:g.cx.tab b=À q):¬g.V b:=ag (I.ũ b q e).2 λ_ e _=>I.oE e nofun nofun
def Č.jH(E:Ev g.Z g.V h h'):Dh g.cx.tab g.X h':=
 I.ũ.ÁX E (λ_ _=>I.gW) (λb o f e q _ u=>(I.oE e (λ_ _ z=>bg j2 (q.symm.Ð z) rfl) (λ_ _ z=>bg j2 (q.symm.Ð z) rfl) u).ç) (λ_ _ _ x=>x) λb q e=>(I.ũ b q e).1
def Bv.zI(d:Bv g h U)(E:Ev g.Z U h h')(S:g.cx.ÿ.ĭ h')(m:∃o s n,h'.Ò g.Ü.æ=À o/\o.ë= .ĺ s n)(r:∀P,g.cx.P=À P->∃o,h'.Ò P=À o)(t:Dh g.cx.tab g.X h'):Nq g h h' g.X:=by
 show{S,λL o s n _ i j=>?_,I.zx,I.lx,I.KO,λb p=>?_,λx c v _ _ a q=>{a,v,d.Ĭ I E c v q},t}
 ·by_cases e:L=g.Ü.æ
  ·show e▸m
  ·show au (E.ë i λu=>(d L o i u).ç (I.mW i j e) λf=>f.1.ç λ_ z=>bg j2 (j.symm.Ð z) rfl) λk l A _=>{k,s,n,l,A.Ð j}
 ·by_cases q:g.cx.P=À b
  ·show r b q
  ·by_cases e:b=g.Ü.æ
   ·show cG m λo _ _ w _=>{o,e▸w}
   ·by_cases n:∃q,g.cx.tab b=À q
    ·show ao n λq n=>ag (t b q n).2 λB z _=>{_,z}
    ·show ao (I.xs b p) λo w=>ag (E.ë w λu=>(d b o w u).ç (λy=>y.ç (λy=>y.ç q e) λz=>n z) λf=>f.2 p) λk l _=>{k,l}
def Č.locs(N:∀m,h.Ns g.Ü.æ m->∃a,h'.Ns g.Ü.æ a):∃o s n,h'.Ò g.Ü.æ=À o/\o.ë= .ĺ s n:=ag I.Ż λm b _=>kT (N m b) λ_ o s n e d _=>{o,s,n,e,d}
def Č.gX(u:Bv g h U)(E:Ev g.Z U h h')(S:g.cx.ÿ.ĭ h')(N:∀m,h.Ns g.Ü.æ m->h'.Ns g.Ü.æ m)(P:Bb g h' Ē)(t:Dh g.cx.tab g.X h'):Č g ρ Ē h':=
 I.pre (u.zI I E S (I.locs λm q=>{m,N m q}) (λ_ q=>(P.Ĕ q).imp λ_ ⟨_,_,a,_⟩=>a) t) P (DB.Ö I.Ż N (u.Ĭ I E) λ_ _ _ _ r=>r.jG u E I.zx I.yx) I.uniq
def Č.ÁX(E:Ev g.Z g.V h h')(S:g.cx.ÿ.ĭ h')(N:∀m,h.Ns g.Ü.æ m->h'.Ns g.Ü.æ m)(P:Bb g h' Ē):Č g ρ Ē h':=I.gX (λ_ _ _ y=>.Ę (.Ę y)) E S N P (I.jH E)
def Nq.Âl{a:á}(i:ut a h h')(E:Ev g.Z (λb=>b=a) h h')(j:g.X a)(k:¬g.Z a)(m:∃o,h'.Ò a=À o)(p:¬g.Y a)(r:∀c v,h.Ŝ c v->∃v,h'.Ŝ c v):Nq g h h' g.X:=by
 show{λb o e=>(i.2 b λq=>?_).Ð (I.ĩ b o e),λL o u n f e d=>{o,u,n,(i.2 L λq=>k (q▸f)).Ð e,d},I.zx,I.lx,I.KO,λb w=>?_,λx c v _ _ a q=>{a,r c v q},I.ũ.ÁX E (λb q e f=>p (.Ġ {q,f▸e})) (λb o y e d n f=>absurd (f▸j) n) (λ_ _ _ x=>x) λb q e=>(I.ũ b q e).1}
 ·show nS ((I.KO _ j).symm.Ð (q▸e))
 ·by_cases q:b=a
  ·show q▸m
  ·show(I.xs b w).imp λo e=>(i.2 b q).Ð e
end
end
end
section
open Classical in
def Ff(g:Gd)(h:ì):Â (á×Obj):=
 (ty h.ã.Ú).Ų λa=>if a=g.Ü.æ\/(g.cx.ÿ.Ò a).ÁW=Ä then Ã else(h.Ò a).Ö λo=>(a,o)
def jI(e:h.Ò a=À o)(b:a≠g.Ü.æ)(c:g.cx.ÿ.Ò a=Ã):(a,o)∈Ff g h:=by
 show J7.ĝ {a,M4.ĝ (g3 e),?_};rw[ß (by simp[b,c]),e];rfl
def bC(g:Gd)(h:ì):News g.cx.ÿ g.Ü.æ h (Ff g h):=by
 intro p c;show ag (J7.mp c) λa _ b=>?_;split at b
 ·show nS b
 ·rename_i n;rw[not_or] at n;clear c;obtain⟨o,d,Î⟩:=h9.mp b;show{d,n.1,by simpa using n.2}
def Č.fr{p:AK}(I:Č g ρ p h):∃m,Fr g.cx.ÿ g.Ü.æ h m:=
 let⟨m,n,_⟩:=I.Ż;{m,n,I.ĩ,I.HV}
inductive TV(g:Gd)(h:ì)(e:á)(vs:Ŕ Í):Prop
 |mk (T o ts) (a1:vs[1]? =À (.ò T)) (a:T≠e) (GD:g.lo<=T) (b:¬g.X T) (c:h.Ò T=À o) (d:o.ë= .ü ts) (f:ts[3]? =À .Ã/\EY ts)
inductive Of(g:Gd)(h:ì)(e:á)(k:Þ):Prop
 |mk (lo:g.lo<=e) (x:¬g.X e) (o vs d) (a1:h.Ò e=À o) (a:o.ķ=g.cx.exc) (GD:o.ë= .ü vs) (b:o.ĺ=À d) (c:¬g.X d) (f:∃m t,h.Ns d m/\m "kind" =À (.Ý k t)) (i:vs[1]? =À .Ã\/TV g h e vs)
def Af(g:Gd)(ρ:Aa){α b:Type}(R:ì->b->α->Prop)(s:Ô)(o:Out α)(Q:b->Ô->Prop)(E:Í->Ô->Prop):Prop:=match o with
 | .ok a Ē=>∀v h' tk,Ev g.Z g.Y s.Ì h'->Č g ρ Ē h'->R h' v a->Q v {s with Ì:=h',Ā:=tk}
 | .exc k Ē=>∀e h' tk,Ev g.Z g.Y s.Ì h'->Č g ρ Ē h'->Of g h' e k->E (.ò e) {s with Ì:=h',Ā:=tk}
 | .Û=>Ī
section
variable{g:Gd}{ρ:Aa}{α α₁ β β₁:Type}{R:Heap->β->α->Prop}{R₁:Heap->β₁->α₁->Prop}{s:Shared}{Q:β->Shared->Prop}{Q₁:β₁->Shared->Prop}{E:Value->Shared->Prop}{V:AK}
def Af.later(H:Af g ρ R s o Q E)(e:Ev g.Z g.Y s.Ì c):Af g ρ R {s with Ì:=c,Ā:=d} o Q E:=by
 cases o using Out.ď with
 |ok a p=>show λv h t b I r=>H v h t (e.Ð b) I r
 |exc k p=>show λv h t b I r=>H v h t (e.Ð b) I r
 |Û=>show H
def Af.Ĕ{m:M α₁}{f:α₁->M α}(H:Af g ρ R s ((m>>=f).Ĉ V) Q E)
  (K:∀a n v h t,m.Ĉ V= .ok a n->Ev g.Z g.Y s.Ì h->Č g ρ n h->R₁ h v a->Af g ρ R {s with Ì:=h,Ā:=t} ((f a).Ĉ n) Q E->Q₁ v {s with Ì:=h,Ā:=t}):
  Af g ρ R₁ s (m.Ĉ V) Q₁ E:=by
 have b:Af g ρ R s (match m.Ĉ V with| .ok a d=>(f a).Ĉ d| .exc k d=>.exc k d| .Û=>.Û) Q E:=H;cases c:m.Ĉ V with
 |ok a p=>
  rw[c] at b;show λv i j e I r=>K a p v i j c e I r (b.later e)
 |exc k p=>rw[c] at b;show b
 |Û=>rw[c] at b;show b
def Af.Ũ{a:α}(H:Af g ρ R s ((Ñ a:M α).Ĉ V) Q E){tk:Ï}(e:Ev g.Z g.Y s.Ì h')(I:Č g ρ V h')(r:R h' v a):Q v {s with Ì:=h',Ā:=tk}:=H v h' tk e I r
def Af.now{a:α}(H:Af g ρ R s ((Ñ a:M α).Ĉ V) Q E)(I:Č g ρ V s.Ì)(r:R s.Ì v a):Q v {s with Ā:=tk}:=H v s.Ì tk (Ev.ť _ _ _) I r
def Af.aC{a:α}(H:Af g ρ R s ((Ñ a:M α).Ĉ V) Q E)(I:Č g ρ V s.Ì)(r:R s.Ì v a):Q v s:=H v s.Ì s.Ā (Ev.ť _ _ _) I r
end
abbrev VX(g:Gd):ì->Í->D->Prop:=λh v d=>VR h g.X v d
def Ak(g:Gd)(e:ý)(f:Aa->M D):Prop:=∀ρ p s (Q:Í->Ô->Prop) (E:Í->Ô->Prop),Č g ρ p s.Ì->Af g ρ (VX g) s ((f ρ).Ĉ p) Q E->è g.cx.M g.A (ŗ e g.Ü) Q E s
def Č.gY{g:Gd}{ρ:Aa}{p:AK}{h h':ì}{new:Â (á×Obj)}(I:Č g ρ p h)(S:g.cx.ÿ.ĭ h')(N:News g.cx.ÿ g.Ü.æ h' (new++Ff g h)):
  Ev g.Z (λb=>b=g.Ü.æ) h h':=by
 show λb o e q=>.Ę ?_;by_cases a:b=g.Ü.æ
 ·rcases q with q|⟨_,v,n,q⟩
  ·show absurd a q
  ·clear left;show bG λG=>ag I.Ż λm f w=>ba f λd s k i j _=>G ?_;rw[a,i] at e;(have z:=al e;clear e;subst z);show bg j2 (j.symm.Ð q) rfl
 ·cases c:g.cx.ÿ.Ò b with
  |À d=>
   have:=I.ĩ b d c;rw[e] at this;(have z:=al this;clear this;subst z);show S b _ c
  |Ã=>show(N _ (sK _ (jI e a c))).1
def Č.landed{p:AK}(I:Č g ρ p h)(S:g.cx.ÿ.ĭ h')(N:News g.cx.ÿ g.Ü.æ h' (new++Ff g h)):Ev g.Z g.V h h':=
 (I.gY S N).mono (λ_ _ _ z=>z) λ_ _ _=>.Ġ
def Bb.ev{g:Gd}{h h':ì}{Y:á->Prop}(p:Bb g h e)(E:Ev g.Z Y h h')(a:∀b,g.Z b->g.X b)(y:∀b,Y b->g.X b)(c:∀b,g.cx.P=À b->¬Y b):Bb g h' e:=by
 show p.Ö (λP q=>{(p.x q).1,?_}) λr=>r.ev E a y;rintro v ⟨o,f,i,n,d⟩;show{o,E.Ĕ f (.Ę (c P q)) (λs n z=>bg j2 (d.symm.Ð z) rfl),i,n,d}
theorem Č.Jr{p:AK}(I:Č g ρ p h)(b:á)(a:g.cx.P=À b):b≠g.Ü.æ:=(I.Az.x a).2.2
def cS{h:ì}(a:h.Ns L m)(b:h.Ns L i):m=i:=by
 show gR a ?_;clear a;intro o s p e d k f;show gR b ?_;clear b;intro l n q c g r j;rw[e] at c;(have z:=al c;clear c;subst z);rw[d] at g;cases g;show funext λx=>(f x).symm.Ð (j x)
def Č.new{g:Gd}{ρ:Aa}{p:AK}{h h':ì}{new:Â (á×Obj)}{m:Þ->Ë Í}(I:Č g ρ p h)(a:Fr g.cx.ÿ g.Ü.æ h m)(F:Fr g.cx.ÿ g.Ü.æ h' m)
  (N:News g.cx.ÿ g.Ü.æ h' (new++Ff g h)):Ev g.Z g.Y h h'/\Č g ρ p h':=
 {(I.landed F.č N).y,I.ÁX (I.landed F.č N) F.č (λd c=>cS a.ns c▸F.ns) (I.Az.ev (I.gY F.č N) I.zx (λb q=>q▸I.lx) I.Jr)}
def Č.aW{g:Gd}{ρ:Aa}{p:AK}{h:ì}(I:Č g ρ p h)(o:Obj):Ev g.Z g.Y h (h.Ŧ o)/\Č g ρ p (h.Ŧ o):=by
 have E:=Ev.Ŧ (Z:=g.Z) (Y:=λ_=>Ī) (h:=h) o;show{Ev.Ŧ o,I.ÁX (Ev.Ŧ o) (λb a e=>a0 _ (I.ĩ b a e)) (λm c=>c.ľ λb a e=>a0 _ e) (I.Az.ev E I.zx (λ_ q=>q.ç) λ_ _ q=>q)}
def Č.ų{g:Gd}{ρ:Aa}{p:AK}{h:ì}(I:Č g ρ p h):¬g.X h.ã.Ú:=λq=>by
 show ao (I.xs _ q) λo e=>EQ _ (g3 e)
section
variable{g:Gd}
def sj(i:ä)(k ă):Ak g (.ğ (.Ê i) k ă) λ_=>Ñ (.Ê i):=λa p s Q E I H=>ÀH (H.now I (VR.Ê i _))
def sk(x:Þ)(k ă):Ak g (.ğ (.Ý x) k ă) λ_=>Ñ (.Ý x):=λa p s Q E I H=>ÁL (H.now I (VR.Ý x _))
def qj(b:é)(k ă):Ak g (.ğ (.Ù b) k ă) λ_=>Ñ (.Ù b):=λa p s Q E I H=>λ_ _ _=>H.aC I (VR.Ù b)
def qk(k ă):Ak g (.ğ .Ã k ă) λ_=>Ñ .Ã:=λa p s Q E I H=>λ_ _ _=>H.aC I VR.Ã
def dg(hk:g.Ü.İ.ĕ= .Ĥ)(n:s.Ì.Ns g.Ü.æ m)(a:F_ s.Ì g.Ü m x v)(d:(x==("__debug__"))=Å)(h:Q v s):
  è g.cx.M g.A (ŗ (.ċ x ă) g.Ü) Q E s:=by
 show ÀD ?_ d;rcases a with⟨q,e⟩|⟨q|q,f,c,e,b⟩
 ·show ħ hk q n e h
 ·show wpAny_loadName_cell hk q e b h
 ·show wpAny_loadName_free hk q e b h f
def DU(f:Ą->Ë α)(i:Ï)(ρ:Aa):M α:=Df ((ρ.ĵ i).ù f)
def fB{α b:Type}{f:Ą->Ë α}{F:α->M b}{P:Out b->Prop}(h:P .Û->Ī)(H:P ((DU f i ρ>>=F).Ĉ p)):∃sl a,ρ.ĵ i=À sl/\f sl=À a/\P ((F a).Ĉ p):=by
 unfold DU at H;cases e:(ρ.ĵ i).ù f with
 |Ã=>rw[e] at H;show(h H).ç
 |À a=>rw[e] at H;show ag (lw.mp e) λsl c d=>{sl,a,c,d,H}
noncomputable def Ą.v(s:Ą):Ë D:=s.ď À (λ_=>Ã) (λ_=>Ã) (λ_=>Ã) Ã
noncomputable def Ą.o(s:Ą):Ë (Â D):=s.ď (λ_=>Ã) À (λ_=>Ã) (λ_=>Ã) Ã
noncomputable def Ą.s(s:Ą):Ë (Â (Þ×D)):=s.ď (λ_=>Ã) (λ_=>Ã) À (λ_=>Ã) Ã
noncomputable def Ą.t(s:Ą):Ë (Â (D×D)):=s.ď (λ_=>Ã) (λ_=>Ã) (λ_=>Ã) À Ã
abbrev Js:=DU Ą.v
abbrev ER:=DU Ą.o
abbrev HW:=DU Ą.s
abbrev DC:=DU Ą.t
def Ą.v_eq{sl:Ą}(h:sl.v=À l):sl= .ê l:=by
 cases sl using Ą.ď with
 |ê=>show â _ (al h)
 |_=>show nS h
def Ą.aa2{sl:Ą}(h:sl.o=À l):sl= .ĉ l:=by
 cases sl using Ą.ď with
 |ĉ=>show â _ (al h)
 |_=>show nS h
def Ą.s_eq{sl:Ą}(h:sl.s=À l):sl= .sd l:=by
 cases sl using Ą.ď with
 |sd=>show â _ (al h)
 |_=>show nS h
def Ą.so{sl:Ą}(h:sl.t=À l):sl= .td l:=by
 cases sl using Ą.ď with
 |td=>show â _ (al h)
 |_=>show nS h
theorem Af.DU{α b c:Type}{f:Ą->Ë α}{F:α->M b}{R:ì->c->b->Prop}{Q:c->Ô->Prop}(H:Af g ρ' R s ((DU f i ρ>>=F).Ĉ p) Q E):∃sl a,ρ.ĵ i=À sl/\f sl=À a/\Af g ρ' R s ((F a).Ĉ p) Q E:=fB (P:=λo=>Af g ρ' R s o Q E) id H
def Af.td{a b:Type}{F:Â (D×D)->M a}{R:ì->b->a->Prop}{Q:b->Ô->Prop}(H:Af g ρ' R s ((DC i ρ>>=F).Ĉ p) Q E):∃l,ρ.ĵ i=À (.td l)/\Af g ρ' R s ((F l).Ĉ p) Q E:=a_ H.DU λ_ l e q H=>{l,Ą.so q▸e,H}
def Af.sd{a b:Type}{F:Â (Þ×D)->M a}{R:ì->b->a->Prop}{Q:b->Ô->Prop}(H:Af g ρ' R s ((HW i ρ>>=F).Ĉ p) Q E):∃l,ρ.ĵ i=À (.sd l)/\Af g ρ' R s ((F l).Ĉ p) Q E:=a_ H.DU λ_ l e q H=>{l,Ą.s_eq q▸e,H}
def kZ{x:Þ}(b:g.nm[i]? =À x)(c:(x==("__debug__"))=Å):Ak g (.ċ x ă) (Js i):=λf p s Q E I H=>by
 rw[<-M.map_pure (Js i f)] at H;show a_ (Af.DU H) λo d e h H=>?_;rw[Ą.v_eq h] at e;show ag I.Ż λm n j=>a_ (j i _ e) λy v a k l=>?_;rw[b] at a;obtain rfl:=al a;show dg I.ĕ n k c (H.aC I l)
end
end
section
def VR.on(r:VR h g.X v d)(I:Č g ρ p h)(e:Ev g.Z g.Y h h'):VR h' g.X v d:=r.ev e I.zx I.yx
def Am.on(r:Am h g.X v d)(I:Č g ρ p h)(e:Ev g.Z g.Y h h'):Am h' g.X v d:=r.ev e I.zx I.yx
def cT(h:sm a=Ä):R9 a<=8000:=by
 unfold sm at h;unfold R9;split
 ·simp+arith only[]
 ·rename_i z;have b:a.ï≠0:=by
   intro q;apply z;simp[ä.natAbs_eq_zero.mp q]
  have:=(Ï.log2_lt b).ĝ (Ø h);show ac (by assumption) _0
def mY(h:AX a b=Ä):IntMulOk a b:=by
 unfold AX at h;simp only[KF] at h;have c:=cT h.1;have d:=cT h.2;unfold IntMulOk Ő.ä.intTooBig bitsLine;simp only[KF,Àr,not_and];intro _ q;lia
def k_(h:sm b=Ä):Ő.divisionGoesByPylong a b=Å:=by
 apply Ân.noPylong_of_log2;have:=cT h;unfold R9 at this;split at this
 ·rename_i z;have:=by simpa using z
  subst this;decide
 ·show ac (by assumption) _0
def du(h:FY a b=Ä):0<=b/\(R9 a)*b<=2^27:=by
 unfold FY at h;simp only[KF,Àr] at h;obtain⟨⟨d,c⟩,e⟩:=h;show{c,?_};have f:=cT d;have:(R9 a)*b<=8000*5000:=ä.mul_le_mul (J4.ĝ f) e c (by simp+arith only[]);show R0 this _0
section
variable{g:Gd}{ρ:Aa}{V:AK}{s:Shared}{Q:Value->Shared->Prop}{E:Value->Shared->Prop}
def Af.ő{c:Prop}[ÀA c]{m:M α}(H:Af g ρ R s ((if c then m else M.Û).Ĉ V) a E):c/\Af g ρ R s (m.Ĉ V) a E:=by
 by_cases q:c
 ·rw[à q] at H;show{q,H}
 ·rw[ß q] at H;show H.ç
def aH(h:n<=100000):n<=V5:=by unfold V5;show ac (by assumption) _0
def mZ(I:Č g ρ V s.Ì)(r:Am s.Ì g.X vs ds)(h:ds.Á<=100000)(H:Af g ρ (VX g) s ((Ñ (.Ç ds):M D).Ĉ V) Q E):è g.cx.M g.A (newTuple vs) Q E s:=đ (aj (I.aW {ķ:=.Ċ "tuple",ë:=.Ĕ vs.ó}) λe a=>(H.Ũ e a (VR.dI (IsTup.new _ _) (r.on I e)))) (aH (by change vs.ó.Ú<=_;rw[kt,r.Á];show h))
def ql{vs:Â Í}{ds:Â D}(I:Č g ρ V s.Ì)(r:Am s.Ì g.X vs ds)(h:ds.Á<=100000)(H:Af g ρ (VX g) s ((Ñ (.É ds):M D).Ĉ V) Q E):è g.cx.M g.A (newList vs) Q E s:=by
 show đ ?_ (aH (by change vs.ó.Ú<=_;rw[kt,r.Á];show h));show aj (I.aW {ķ:=.Ċ "list",ë:=.Ĕ vs.ó}) λe a=>H.Ũ (tk:=s.Ā) e a (VR.bI {_,f1 _ Î,Î,_,Î} I.ų (r.on I e))
noncomputable def DO.op:DO->Operator
 | .ŧ=>.Add| .Ž=>.Sub| .ļ=>.Mult| .ī=>.FloorDiv| .mod=>.Mod| .pow=>.Pow
def eE(H:Af g ρ (VX g) s ((Mn op n x f).Ĉ V) Q E):op= .ŧ/\n<=100000/\Af g ρ (VX g) s ((Ñ (f x):M D).Ĉ V) Q E:=by
 cases op using DO.ď with
 |ŧ=>show{Î,Af.ő H}
 |_=>show H.ç
def wk{bop:DO}{v w:Í}{a b:D}(I:Č g ρ V s.Ì)(r:VR s.Ì g.X v a)(d:VR s.Ì g.X w b)(H:Af g ρ (VX g) s ((Fe bop a b).Ĉ V) Q E):è g.cx.M g.A (binaryOp bop.op v w) Q E s:=by
 exists g ρ V s Q E bop v w a b,I r d H;show wg (λe=>by rw[e] at H;show H) (λx y f h=>?_) (λx y f h=>?_) (λx y f h=>?_) λx y f h=>?_
 ·subst f;subst h;obtain⟨t,Î⟩:=r.az;obtain⟨u,Î⟩:=d.az;cases bop using DO.ď with
  |ŧ=>show add_int (H.now I (VR.Ê _ _))
  |Ž=>show sub_int (H.now I (VR.Ê _ _))
  |ļ=>show let⟨q,H⟩:=Af.ő H;mul_int (H.now I (VR.Ê _ _)) (mY q)
  |ī=>show let⟨q,H⟩:=Af.ő (m:=(Ñ (ā.Ê (x.ī y)):M D)) H;floordiv_int q.1 (H.now I (VR.Ê _ _)) (.Ę (k_ q.2))
  |mod=>show let⟨q,H⟩:=Af.ő (c:=y≠0) (m:=(Ñ (ā.Ê (x.fmod y)):M D)) H;mod_int' q (H.now I (VR.Ê _ _))
  |pow=>show let⟨q,H⟩:=Af.ő (c:=FY x y=Ä) (m:=(Ñ (ā.Ê (x^y.ł)):M D)) H;pow_int (du q).1 (du q).2 (H.now I (VR.Ê _ _))
 ·subst f;subst h;obtain⟨Î,q,H⟩:=eE H;show cb r.aU λa C z T j l=>?_;subst z;show cb d.aU λb G z U k i=>?_;subst z;show ao I.fr λm F=>add_lists F (bC g s.Ì) j k (λJ n N=>?_) (aH (by rw[l.Á,i.Á];show q));show aj (I.new (new:=[_]) F n N) λe o=>H.Ũ (tk:=s.Ā) e o (VR.bI {_,(N _ (.Ď _)).1,Î,_,Î} I.ų ((l.ÁE i).on I e))
 ·subst f;subst h;obtain⟨Î,q,H⟩:=eE H;obtain⟨a,C,Î,j,l⟩:=r.bO;obtain⟨b,G,Î,k,i⟩:=d.bO;show ao I.fr λm F=>add_tuples F (bC g s.Ì) j k (λL=>?_) (λ_ O=>?_) (λ_ _ J n N=>?_) (aH (by rw[l.Á,i.Á];show q))
  ·clear j;subst L;clear q r;obtain rfl:x=[]:=l5 l.Á.symm;show H.aC I d
  ·clear k;subst O;clear q d;obtain rfl:y=[]:=l5 i.Á.symm;rw[wf] at H;show H.aC I r
  ·show aj (I.new (new:=[_]) F n N) λe o=>H.Ũ (tk:=s.Ā) e o (VR.dI {_,(N _ (.Ď _)).1,Î,_,Î} ((l.ÁE i).on I e))
 ·subst f;subst h;obtain⟨Î,q,H⟩:=eE H;obtain⟨t,Î⟩:=r.cK;obtain⟨u,Î⟩:=d.cK;show P.add_str ?_;split
  ·rename_i p;have e:x++y=y:=Þ.ext' (by
    have B:x.cps.Ú=0:=by simpa [Þ.Á] using p
    rw[Þ.cps_append,X7 B];simp)
   rw[e] at H;show H.aC I d
  ·split
   ·rename_i p;have e:x++y=x:=Þ.ext' (by
     have B:y.cps.Ú=0:=by simpa [Þ.Á] using p
     rw[Þ.cps_append,X7 B];simp)
    rw[e] at H;show H.aC I r
   ·show{aH (by rw[Þ.length_append];show q),H.now I (VR.Ý _ _)}
def la{bop:DO}{op:Operator}{l r:ý}{ă:Pos}{f c:Aa->M D}(h:Ak g l f)(e:Ak g r c)(o:bop.op=op):
  Ak g (.ÂY l op r ă) (λρ=>do let a<-f ρ;let b<-c ρ;Fe bop a b):=λρ V s Q E I H=>by
 subst o;show Àz (h ρ V s _ E I (H.Ĕ λa p v x y _ _ d i j=>e ρ p _ _ E d (j.Ĕ λb z w k t _ m n q u=>wk (s:={s with Ì:=k,Ā:=t}) n (i.on d m) q u)))
def sq(h:Ak g x f):Ak g (.Ád .USub x ă) (λρ=>do Oe (<-f ρ)):=λρ V s Q E I H=>by
 show Y2 (h ρ V s _ E I (H.Ĕ λa p v k t _ _ c r b=>?_));cases a using ap with
 |Ê a=>obtain⟨u,Î⟩:=r.az;show neg_int (b.now c (VR.Ê _ _))
 |_=>show b.ç
end
end
section
section
variable{g:Gd}{ρ:Aa}{V:AK}{s:Shared}{Q:Value->Shared->Prop}{E:Value->Shared->Prop}
def Č.room(I:Č g ρ V h):g.A.Àp+100<cLine:=by
 show i9 (io (ac (bv ..) I.Àp) 100) _0
noncomputable def Fd.op:Fd->CmpOp
 | .eq=>.Eq| .ne=>.NotEq| .lt=>.Lt| .le=>.LtE| .gt=>.Gt| .ge=>.GtE
def dw(h:AV d=Ä):SeqAt.shaped d=Ä:=h
def Af.lg{c:Prop}[ÀA c]{m:M a}{f:a->M α}(H:Af g ρ R s (((if c then m else M.Û)>>=f).Ĉ V) b E):c/\Af g ρ R s ((m>>=f).Ĉ V) b E:=by
 by_cases q:c
 ·rw[à q] at H;show{q,H}
 ·rw[ß q] at H;show H.ç
def oF{v w:Í}{a b:D}(I:Č g ρ V s.Ì)(r:VR s.Ì g.X v a)(c:VR s.Ì g.X w b)(H:Af g ρ (VX g) s ((B_ o a b).Ĉ V) Q E):è g.cx.M g.A (compareOp o.op v w) Q E s:=by
 exists g ρ V s Q E o v w a b,I r c H;have m:=I.room;cases o using Fd.ď with
 |eq=>
  show aj (Af.lg H) λq H=>aj (im.mp q) λd e=>ag r λi f _=>ag c λj h _=>eq_dataH f h (dw d) (dw e) (ln1 m) (Af.aC H I (VR.Ù _))
 |ne=>
  show aj (Af.lg H) λq H=>aj (im.mp q) λd e=>ag r λi f _=>ag c λj h _=>ne_dataH f h (dw d) (dw e) (ln1 m) (Af.aC H I (VR.Ù _))
 |lt=>
  cases a using ap with
  |Ê a=>
   cases b using ap with
   |Ê b=>obtain⟨t,Î⟩:=r.az;obtain⟨u,Î⟩:=c.az;show lt_int (H.aC I (VR.Ù _))
   |_=>show H.ç
  |Ý a=>
   cases b using ap with
   |Ý b=>obtain⟨t,Î⟩:=r.cK;obtain⟨u,Î⟩:=c.cK;show lt_str (H.aC I (VR.Ù _))
   |_=>show H.ç
  |_=>show H.ç
 |le=>
  cases a using ap with
  |Ê a=>
   cases b using ap with
   |Ê b=>obtain⟨t,Î⟩:=r.az;obtain⟨u,Î⟩:=c.az;show le_int (H.aC I (VR.Ù _))
   |_=>show H.ç
  |_=>show H.ç
 |gt=>
  cases a using ap with
  |Ê a=>
   cases b using ap with
   |Ê b=>obtain⟨t,Î⟩:=r.az;obtain⟨u,Î⟩:=c.az;show gt_int (H.aC I (VR.Ù _))
   |_=>show H.ç
  |_=>show H.ç
 |ge=>
  cases a using ap with
  |Ê a=>
   cases b using ap with
   |Ê b=>obtain⟨t,Î⟩:=r.az;obtain⟨u,Î⟩:=c.az;show ge_int (H.aC I (VR.Ù _))
   |_=>show H.ç
  |_=>show H.ç
def DV(g:Gd)(e:ý)(f:Aa->M D):Prop:=∀ρ V s w (Q:é->Ô->Prop) (E:Í->Ô->Prop),Č g ρ V s.Ì->Af g ρ (λ_ b c=>b=c) s ((f ρ>>=Aw).Ĉ V) Q E->(w=ŗ e g.Ü)->è g.cx.M g.A (ÂK e g.Ü w) Q E s
theorem Af.Aw(H:Af g ρ (λ_ (b:é) c=>b=c) s ((Aw d).Ĉ V) f E):∃b,d= .Ù b/\Af g ρ (λ_ (b:é) c=>b=c) s ((Ñ b:M é).Ĉ V) f E:=by
 cases d using ap with
 |Ù b=>show{b,Î,H}
 |_=>show H.ç
def Ak.test(h:Ak g e f)(c:∀w,ÂK e g.Ü w=(do let v<-w;Âo e.ă;holding [v] (truthy v))):DV g e f:=λρ V s w Q E I H d=>by
 subst d;show wpAny_isTrue_value (h ρ V s _ E I (H.Ĕ λa p v k t _ _ i r j=>?_)) (c _);obtain⟨b,Î,l⟩:=j.Aw;rw[r.Aw];show GM (l.aC i Î)
def su(h:Ak g l f)(d:Ak g r e)(o:p.op=op)(m:Yj op r=Å):
  Ak g (.Áq l [op] [r] ă) (λρ=>f ρ>>= λa=>e ρ>>= λb=>B_ p a b):=λρ V s Q E I H=>by
 subst o;show ZJ (h ρ V s _ E I (H.Ĕ λa i v x y _ _ c j k=>d ρ i _ _ E c (k.Ĕ λb z w A B _ n q t u=>oF q (j.on c n) t u))) m
def qm(h:Ak g l f)(e:Ak g r i)(o:p.op=op)(m:Yj op r=Å):
  DV g (.Áq l [op] [r] ă) (λρ=>f ρ>>= λa=>i ρ>>= λb=>B_ p a b):=λρ V s J Q E I H j=>by
 clear j;subst o;simp only[M.Áz] at H;show S9 (h ρ V s _ E I (H.Ĕ λa k v L N _ _ d n q=>e ρ k _ _ E d (q.Ĕ λb O w T U _ t u y z=>
  oF u (n.on d t) y (z.Ĕ λc Y x d7 d8 _ _ A B C=>by
   obtain⟨b,Î,G⟩:=C.Aw;rw[B.Aw];show GM (G.aC A Î))))) m
def sv(h:Ak g x f):Ak g (.Ád .Not x ă) (λρ=>f ρ>>=Aw>>= λb=>Ñ (.Ù (!b))):=λρ V s Q E I H=>by
 dsimp only at H;rw[M.Áz] at H;show Y2 (h ρ V s _ E I (H.Ĕ λa p v k t _ _ d r c=>not_of ?_));cases a using ap with
 |Ù b=>rw[r.Aw];show GM (Af.aC c d (VR.Ù _))
 |_=>show c.ç
def qn(h:DV g x f):DV g (.Ád .Not x ă) (λρ=>f ρ>>=Aw>>= λb=>Ñ (.Ù (!b))):=λρ V s w Q E I H e=>by
 rw[M.Áz] at H;show wpAny_isTrue_Not (h ρ V s _ _ E I (H.Ĕ λa p v k t _ _ c r d=>Af.aC d c (by rw[r])) rfl)
def VR.ĕ(r:VR h X v d):isSame v .Ã=Ñ (CW d):=by
 show ag r ?_;clear r;intro a r _;cases r<;>rfl
def is_none(I:Č g ρ V s.Ì)(r:VR s.Ì g.X v a)(H:Af g ρ (VX g) s ((Ñ (.Ù (CW a==y)):M D).Ĉ V) Q E):è g.cx.M g.A (compareOp (if y then .Is else .IsNot) v .Ã) Q E s:=by
 cases y using ci with
 |Ä=>
  change è _ _ (do return .Ù (<-isSame v .Ã)) Q E s;rw[r.ĕ];show È (Õ (Õ (H.aC I ?_)));rw[show(CW a==Ä)=CW a by cases CW a<;>rfl];show VR.Ù _
 |Å=>
  change è _ _ (do return .Ù (!(<-isSame v .Ã))) Q E s;rw[r.ĕ];show È (Õ (Õ (H.aC I ?_)));rw[show(CW a==Å)= !CW a by cases CW a<;>rfl];show VR.Ù _
def lh(h:Ak g l f)(o:(if y then CmpOp.Is else CmpOp.IsNot)=op):
  Ak g (.Áq l [op] [.ğ .Ã k p] ă) (λρ=>f ρ>>= λa=>Ñ (.Ù (CW a==y))):=λρ V s Q E I H=>by
 subst o;show ZJ (h ρ V s _ E I (H.Ĕ λa d v e t _ _ b r c=>wpAny_Constant_none (is_none b r c))) (by induction y using ci<;>rfl)
def jJ(h:Ak g l f)(o:(if y then CmpOp.Is else CmpOp.IsNot)=op):
  DV g (.Áq l [op] [.ğ .Ã k p] ă) (λρ=>f ρ>>= λa=>Ñ (.Ù (CW a==y))):=λρ V s q Q E I H w=>by
 clear w;subst o;rw[M.Áz] at H;show S9 (h ρ V s _ E I (H.Ĕ λa t v u z _ _ d r e=>wpAny_Constant_none (is_none d r (Af.Ĕ e λc A x B C _ _ i j m=>?_)))) (by induction y using ci<;>rfl);obtain⟨b,Î,n⟩:=m.Aw;rw[j.Aw];show GM (n.aC i Î)
def KP:Â (M D)->M é
 |[]=>Ñ Ä
 |m::l=>m>>=Aw>>= λb=>if b then KP l else Ñ Å
def OU:Â (M D)->M é
 |[]=>Ñ Å
 |m::l=>m>>=Aw>>= λb=>if b then Ñ Ä else OU l
def Ew(op:BoolOp)(l:Â (M D)):M é:=match op with
 | .And=>KP l
 | .Or=>OU l
def Gb(b:é):M D:=Ñ (.Ù b)
inductive GR(g:Gd):Â ý->Â (Aa->M D)->Prop
 |å:GR g [] []
 |Æ {e:ý} {f:Aa->M D} {a b}:DV g e f->GR g a b->GR g (e::a) (f::b)
inductive Ex(g:Gd):Â ý->Â (Aa->M D)->Prop
 |å:Ex g [] []
 |Æ {e:ý} {f:Aa->M D} {a b}:Ak g e f->(∀x p,e≠ .ņ x p)->Ex g a b->Ex g (e::a) (f::b)
def all_true{j:Â ý}{l:Â (Aa->M D)}(h:GR g j l):∀(V:AK) (s:Ô) (Q:é->Ô->Prop),Č g ρ V s.Ì->
  Af g ρ (λ_ (b:é) c=>b=c) s ((Ew op (l.Ö λf=>f ρ)).Ĉ V) Q E->è g.cx.M g.A (allTrue op j g.Ü) Q E s:=by
 exists g ρ E op j l,h;induction h with
 |å=>
  intro V s Q I H;cases op using Yc with
  |And=>show wpAny_allTrue_And_nil (Af.aC H I Î)
  |Or=>show wpAny_allTrue_Or_nil (Af.aC H I Î)
 | @Æ e f j l h _ m=>
  intro V s Q I H;cases op using Yc with
  |And=>
   show wpAny_allTrue_And_cons (h ρ V s _ _ E I (Af.Ĕ H λa p v k t _ _ d r i=>?_) rfl);subst r;cases v using ci with
   |Ä=>show m p _ Q d i
   |Å=>show Af.aC i d Î
  |Or=>
   show wpAny_allTrue_Or_cons (h ρ V s _ _ E I (Af.Ĕ H λa p v k t _ _ d r i=>?_) rfl);subst r;cases v using ci with
   |Ä=>show Af.aC i d Î
   |Å=>show m p _ Q d i
def lj(m:M é):(m>>=Gb)>>=Aw=m:=by
 rw[M.Áz];show M.ÂI m
def m_(h:GR g e a):
  DV g (.BoolOp op e ă) (λρ=>Ew op (a.Ö λf=>f ρ)>>=Gb):=λρ V s w Q E I H b=>by
 rw[lj] at H;show wpAny_isTrue_BoolOp (all_true h V s Q I H)
def sx{op:BoolOp}{l:Â ý}{ă:Pos}{i:Â (Aa->M D)}(h:Ex g l i)(n:l≠[]):∀(V:AK) (s:Ô) (Q:Í->Ô->Prop),Č g ρ V s.Ì->
  Af g ρ (VX g) s ((Ew op (i.Ö λf=>f ρ)>>=Gb).Ĉ V) Q E->è g.cx.M g.A (boolOp ă op (evalEach l g.Ü)) Q E s:=by
 exists g ρ E op l ă i,h n;induction h with
 |å=>show absurd rfl n
 | @Æ e f l i h a m o=>
  intro V s Q I H;exists e f l i V s Q,h a m o n I H;cases op using Yc with
  |And=>
   have H:Af g ρ (VX g) s ((f ρ>>= λd=>Aw d>>= λb=>(if b then KP (i.Ö λf=>f ρ) else Ñ Å)>>=Gb).Ĉ V) Q E:=by
    have e:(Ew .And ((f::i).Ö λf=>f ρ)>>=Gb)=(f ρ>>= λd=>Aw d>>= λb=>(if b then KP (i.Ö λf=>f ρ) else Ñ Å)>>=Gb):=by
     change(f ρ>>=Aw>>=_)>>=Gb=_;rw[M.Áz,M.Áz]
    rw[<-e];show H
   clear n;cases m with
   |å=>
    show h ρ V s Q E I (H.Ĕ λa p v k t _ _ j r c=>?_);cases a using ap with
    |Ù b=>induction b using ci<;>show Af.aC (a:=ā.Ù _) c j r
    |_=>show c.ç
   | @Æ q u w zJ x n2 y=>
    show È (h ρ V s _ E I (H.Ĕ λa p v k t _ _ j r c=>?_));cases a using ap with
    |Ù b=>
     show È (ġ (È (Ģ ?_)));rw[r.Aw];show GM ?_;clear r;cases b using ci with
     |Å=>show Õ (Af.aC c j (VR.Ù _))
     |Ä=>show o (by simp) p _ Q j c
    |_=>show c.ç
  |Or=>
   have H:Af g ρ (VX g) s ((f ρ>>= λd=>Aw d>>= λb=>(if b then Ñ Ä else OU (i.Ö λf=>f ρ))>>=Gb).Ĉ V) Q E:=by
    have e:(Ew .Or ((f::i).Ö λf=>f ρ)>>=Gb)=(f ρ>>= λd=>Aw d>>= λb=>(if b then Ñ Ä else OU (i.Ö λf=>f ρ))>>=Gb):=by
     change(f ρ>>=Aw>>=_)>>=Gb=_;rw[M.Áz,M.Áz]
    rw[<-e];show H
   clear n;cases m with
   |å=>
    show h ρ V s Q E I (H.Ĕ (R₁:=VX g) λa p v k t _ _ j r c=>?_);cases a using ap with
    |Ù b=>induction b using ci<;>show Af.aC (a:=ā.Ù _) c j r
    |_=>show c.ç
   | @Æ q u w zJ x n2 y=>
    show È (h ρ V s _ E I (H.Ĕ (R₁:=VX g) λa p v k t _ _ j r c=>?_));cases a using ap with
    |Ù b=>
     show È (ġ (È (Ģ ?_)));rw[r.Aw];show GM ?_;clear r;cases b using ci with
     |Ä=>show Õ (Af.aC (a:=ā.Ù Ä) c j (VR.Ù _))
     |Å=>show o (by simp) p _ Q j c
    |_=>show c.ç
def jK(h:Ex g e a)(n:e≠[]):
  Ak g (.BoolOp op e ă) (λρ=>Ew op (a.Ö λf=>f ρ)>>=Gb):=λρ V s Q E I H=>sx h n V s Q I H
def sy(h:DV g c f)(i:Ak g a j)(l:Ak g b fb):
  Ak g (.IfExp c a b ă) (λρ=>f ρ>>=Aw>>= λb=>if b then j ρ else fb ρ):=λρ V s Q E I H=>by
 show wpAny_IfExp (h ρ V s _ _ E I (H.Ĕ λb p v k t _ _ d r e=>?_) rfl);subst r;cases v using ci with
 |Ä=>show i ρ p _ Q E d e
 |Å=>show l ρ p _ Q E d e
end
end
section
structure Cm(cx:Cx)(Cj:Þ->Ë D):Prop where
 g:cx.ÿ.Ns jp cx.mg
 b:cx.ÿ.Ns J5 cx.mb
 bi:∀x:Þ,x≠ "__name__" ->cx.mb x=Fk x
 glob:∀x d,Cj x=À d->∃v a,cx.mg x=À v/\Ào cx.ÿ v d a
 Âp:cx.ÿ.NoLimit
section
variable{g:Gd}{ρ:Aa}{V:AK}{s:Shared}{Q:Value->Shared->Prop}{E:Value->Shared->Prop}
def Di:Â (M D)->M (Â D)
 |[]=>Ñ []
 |m::l=>m>>= λd=>Di l>>= λds=>Ñ (d::ds)
abbrev WG(g:Gd):ì->Â Í->Â D->Prop:=λh vs ds=>Am h g.X vs ds
def ak(h:∀x p,e≠ .ņ x p):Àk (e::a) Ü=(Å,ŗ e Ü)::Àk a Ü:=by
 induction e using No<;>first|rfl|show absurd rfl (h _ _)
def gZ(h:Ex g b c):∀(V:AK) (s:Ô) (Q:Â Í->Ô->Prop),Č g ρ V s.Ì->
  Af g ρ (WG g) s ((Di (c.Ö λf=>f ρ)).Ĉ V) Q E->è g.cx.M g.A (Âq (Âg ă (Àk b g.Ü))) Q E s:=by
 exists g ρ E b c ă,h;induction h with
 |å=>intro V s Q I H;show Tk (Af.aC H I Am.å)
 | @Æ e f b c h n _ i=>
  intro V s Q I H;rw[ak n];show ŝ (h ρ V s _ E I (Af.Ĕ H λa p v k t _ _ d r j=>i p _ _ d (Af.Ĕ j λu w x y z _ l m o q=>Af.aC q m (Am.Æ (r.on d l) o))))
def Mq(ds:Â D):M D:=if ds.Á<=100000 then Ñ (.Ç ds) else M.Û
def EZ(ds:Â D):M D:=if ds.Á<=100000 then Ñ (.É ds) else M.Û
def sz(h:Ex g e b):Ak g (.Ů e k ă) (λρ=>Di (b.Ö λf=>f ρ)>>=Mq):=λρ V s Q E I H=>by
 show Tuple_ (gZ h V s _ I (H.Ĕ λd p v k t _ _ c r a=>aj (Af.ő a) λq a=>mZ c r q a))
def qo(h:Ex g e b):Ak g (.Â e ă) (λρ=>Di (b.Ö λf=>f ρ)>>=EZ):=λρ V s Q E I H=>by
 show List_ (gZ h V s _ I (H.Ĕ λd p v k t _ _ c r a=>aj (Af.ő a) λq a=>ql c r q a))
def VT(g:Gd)(h:ì)(v:Í)(d:D):Prop:=VR h g.X v d\/∃a vs ds,v= .ò a/\d= .É ds/\BB g a/\h.Ĳ a vs.ó/\Am h g.X vs ds
def Hl(g:Gd)(e:ý)(f:Aa->M D):Prop:=∀ρ V s (Q:Í->Ô->Prop) (E:Í->Ô->Prop),Č g ρ V s.Ì->Af g ρ (VT g) s ((f ρ).Ĉ V) Q E->è g.cx.M g.A (ŗ e g.Ü) Q E s
def Af.weak(H:Af g ρ R s o b E)(k:∀h v a,c h v a->R h v a):Af g ρ c s o b E:=by
 cases o using Out.ď with
 |ok a p=>show λv d t e I r=>H v d t e I (k _ _ _ r)
 |exc=>show H
 |Û=>show H
def Ak.op(h:Ak g e f):Hl g e f:=λρ V s Q E I H=>h ρ V s Q E I (H.weak λ_ _ _ r=>.Ę r)
def KQ(i:Ï)(ρ:Aa):M D:=match ρ.ĵ i with
 |À (.ê d)=>Ñ d
 |À (.ĉ l)=>Ñ (.É l)
 |_=>M.Û
def iR{x:Þ}(a:g.nm[i]? =À x)(h:(x==("__debug__"))=Å):Hl g (.ċ x ă) (KQ i):=λρ V s Q E I H=>by
 exists g i x ă ρ V s Q E,a h I H;unfold KQ at H;cases e:ρ.ĵ i with
 |Ã=>rw[e] at H;show H.ç
 |À j=>
  rw[e] at H;show ag I.Ż λm n k=>a_ (k i _ e) λy v b c f=>?_;rw[a] at b;cases b;cases j using Ą.ď with
  |ê d=>show dg I.ĕ n c h (Af.aC H I (.Ę f))
  |ĉ l=>
   obtain⟨o,Î,O,p,r⟩:=f;show dg I.ĕ n c h (Af.aC H I (.Ġ {_,o,l,Î,Î,O,p.isList,r}))
  |_=>show H.ç
def VT.on(r:VT g h v d)(I:Č g ρ V h)(e:Ev g.Z g.Y h h'):VT g h' v d:=by
 rcases r with r|⟨a,b,c,Î,Î,O,⟨o,f,i,n,j⟩,r⟩
 ·show .Ę (r.on I e)
 ·show .Ġ {a,b,c,Î,Î,O,{o,e.cH f O.y O.z,i,n,j},r.on I e}
def VT.aU(r:VT g h v (.É ds)):∃a vs,v= .ò a/\h.Ĳ a vs.ó/\Am h g.X vs ds:=by
 rcases r with r|⟨a,vs,d,Î,e,_,l,r⟩
 ·show cb r.aU λa vs e _ l r=>?_;show{a,vs,e,l,r}
 ·cases e;show{a,vs,Î,l,r}
def VT.bO(r:VT g h v (.Ç ds)):∃a vs,v= .ò a/\IsTup h a vs.ó/\Am h g.X vs ds:=by
 rcases r with r|⟨a,vs,d,Î,e,_⟩
 ·show r.bO
 ·show pC e
def Af.opt{o:Ë α}(H:Af g ρ R s ((Df o).Ĉ V) b E):∃a,o=À a/\Af g ρ R s ((Ñ a:M α).Ĉ V) b E:=by
 cases o using i7 with
 |Ã=>show H.ç
 |À a=>show{a,Î,H}
def g_(h:ÁI i n=À j): -(n:ä)<=i/\i<n/\((0<=i/\i.ł=j)\/(i<0/\(i+n).ł=j)):=by
 exists i n j,h;have e:ÁI i n=(if(decide (0<=(if i<0 then i+n else i))&&decide ((if i<0 then i+n else i)<n))=Ä then À (if i<0 then i+n else i).ł else Ã):=rfl;rw[e] at h;by_cases q:(decide (0<=(if i<0 then i+n else i))&&decide ((if i<0 then i+n else i)<n))=Ä
 ·rw[à q] at h;have h:=al h;have q:=im.mp q;have a:=Ø q.1;have c:=Ø q.2;by_cases b:i<0
  ·rw[à b] at a h;show{ä.le_of_sub_nonneg (by rw[ä.sub_neg];show a),ä.lt_of_lt_of_le b (s1 n),.Ġ {b,h}}
  ·rw[ß b] at a c h;show{R0 (ä.neg_nonpos_of_nonneg (s1 n)) a,c,.Ę {a,h}}
 ·rw[ß q] at h;show nS h
def eP(h:itemAt l i=À d):∃j,ÁI i l.Á=À j/\l[j]? =À d/\ -(2^63)<=i/\i<2^63/\ -(l.Á:ä)<=i/\((0<=i/\i.ł=j)\/(i<0/\(i+l.Á).ł=j)):=by
 unfold itemAt at h;by_cases a:l.Á<=100000
 ·rw[à a] at h;have a:(l.Á:ä)<2^63:=w3 (J4.ĝ a) _0;show ag (lw.mp h) λj b e=>b_ (g_ b) λc f k=>{j,b,e,R0 (ä.neg_le_neg (YL a)) c,ä.lt_trans f a,c,k}
 ·rw[ß a] at h;show nS h
def wm(I:Č g ρ V s.Ì)(m:VT g s.Ì o a)(p:VR s.Ì g.X i b)
  (q:∀o i,ÀL B Å o i=ZP [o,i] (Ár o i))
  (H:Af g ρ (VX g) s ((Jp a b).Ĉ V) Q E):è g.cx.M g.A (subscriptTail C B o i) Q E s:=by
 exists g ρ V s Q E o a i b B C,I m p q H;cases a using ap with
 |É l=>
  cases b using ap with
  |Ê k=>
   obtain⟨t,Î⟩:=p.az;obtain⟨x,G,Î,h,r⟩:=m.aU;show ag (Af.opt H) λd u H=>au (eP u) λj _ w J=>dc J λlo y L N=>ag (r.at w) λv c f=>?_;have n:=r.Á;show Âr h.ÀY slot_list_getitem.ö ?_ (q _ _);rcases N with⟨z,e⟩|⟨z,e⟩
   ·show wpAny_getItem_list h z y (by rw[e];simpa using c) (Af.aC H I f)
   ·show wpAny_getItem_list_neg h z (by rw[kt,n];show L) lo (by simp only[kt];rw[n,e];simpa using c) (Af.aC H I f)
  |_=>show H.ç
 |Ç l=>
  cases b using ap with
  |Ê k=>
   obtain⟨t,Î⟩:=p.az;obtain⟨x,G,Î,h,r⟩:=m.bO;show ag (Af.opt H) λd u H=>jA (eP u) λj O w lo y=>ag (r.at w) λv c f=>?_;have n:=r.Á;show Âr h.ÀY slot_tuple_getitem.ö (getItem_tuple h lo y.1 (by rw[kt,n];show O) (by simpa using c) (Af.aC H I f)) (q _ _)
  |_=>show H.ç
 |_=>show H.ç
def sA(h:Hl g u f)(d:Ak g l e)(j:∀o i,ÀL l Å o i=ZP [o,i] (Ár o i)):
  Ak g (.ń u l ă) (λρ=>f ρ>>= λa=>e ρ>>= λb=>Jp a b):=λρ V s Q E I H=>
 Yn (h ρ V s _ E I (H.Ĕ λa p v x y _ _ c r k=>d ρ p _ _ E c (k.Ĕ λb z w A B _ m n q t=>wm n (r.on c m) q j t)))
end
end
section
section
variable{g:Gd}{ρ:Aa}{V:AK}{s:Shared}{Q:Value->Shared->Prop}{E:Value->Shared->Prop}
def Č.lk(I:Č g ρ V h)(o a:Obj):Ev g.Z g.Y h ((h.Ŧ o).Ŧ a)/\Č g ρ V ((h.Ŧ o).Ŧ a):=aj (I.aW o) λe b=>aj (b.aW a) λc d=>{e.Ð c,d}
def bp{h:ì}(x:h.Ĳ l i)(o:Obj):(h.Ŧ o).Ĳ l i:=let⟨a,b,r⟩:=x;{a,a0 _ b,r}
def iS{a c:ý}{l:á}{vs:Â Í}{v u:Í}{lo h:Ë ä}{ds:Â D}(I:Č g ρ V s.Ì)(b:s.Ì.Ĳ l vs.ó)(p:IsPart v lo)(d:IsPart u h)
  (f:vs.Á<=100000)(j:Am s.Ì g.X (slicePick vs.ó lo h Ã).Ħ ds)
  (k:∀o i,ÀL c Å o i=ZP [i,o] (Ár o i))(t:∀o r,letTemporaryGo a o r=Ñ ())
  (H:Af g ρ (VX g) s ((Ñ (ā.É ds):M D).Ĉ V) Q E):
  è g.cx.M g.A (subscriptTail a c (.ò l) (.ò s.Ì.ã.Ú)) Q E {s with Ì:=s.Ì.Ŧ {ķ:=.Ċ "slice",ë:=.ü #[v,u,.Ã]}}:=by
 show slice_listK b p d ?_ (k _ _) (t _) (aH (by simpa using f));show aj (I.lk {ķ:=.Ċ "slice",ë:=.ü #[v,u,.Ã]} {ķ:=.Ċ "list",ë:=.Ĕ (slicePick vs.ó lo h Ã)}) λe m=>?_;have z:(s.Ì.Ŧ {ķ:=.Ċ "slice",ë:=.ü #[v,u,.Ã]}).ã.Ú=s.Ì.ã.Ú+1:=U1 ..;show H.Ũ (tk:=s.Ā) e m (VR.bI (vs:=(slicePick vs.ó lo h Ã).Ħ) ?_ ?_ (j.on I e))
 ·rw[<-z];show{_,f1 _ Î,Î,0,by rw[Yh]}
 ·show aj (I.aW {ķ:=.Ċ "slice",ë:=.ü #[v,u,.Ã]}) λ_ n=>?_;rw[<-z];show n.ų
def qp{u n:ý}{p ă:Pos}{f i:Aa->M D}(o:Hl g u f)(y:Ak g n i):
  Ak g (.ń u (.Slice Ã (À n) Ã p) ă) (λρ=>f ρ>>= λa=>i ρ>>= λb=>HU a b):=λρ V s Q E I H=>by
 show Yn (o ρ V s _ E I (H.Ĕ λa z v T U _ _ j A m=>wpAny_Slice (Õ (y ρ z _ _ E j (m.Ĕ λb Y w B C _ G J L c=>Õ ?_)))));clear m;cases a using ap with
 |É l=>
  cases b using ap with
  |Ê k=>
   obtain⟨x,d,Î,N,r⟩:=(A.on j G).aU;obtain⟨t,Î⟩:=L.az;show aj (Af.ő c) λO c=>kba_turn (value':=.ċ (Os "_") {0,0,0,0}) (λ_=>rfl) ?_;show iS (s:={s with Ì:=B,Ā:=C}) J N .Ã (.Ê k t) (by rw[r.Á];show O) ?_ (λ_ _=>rfl) (λ_ _=>rfl) c;by_cases q:0<=k
   ·rw[à q];have h:=U8 q;have e:=slicePick_upto' d.ó k.ł;rw[h] at e;rw[e];simpa using r.Ś k.ł
   ·rw[ß q];have h: -((((-k).ł)))=k:=by rw[U8 (ä.neg_nonneg_of_nonpos (YL (ä.not_le.mp q))),ä.neg_neg]
    have e:=slicePick_butLast d.ó (-k).ł (ä.lt_toNat.ĝ (ä.neg_pos_of_neg (ä.not_le.mp q)));rw[h] at e;rw[e,<-r.Á];simpa using r.Ś (d.Á -(-k).ł)
  |_=>show c.ç
 |_=>induction b using ap<;>show c.ç
def qq{u n:ý}{p ă:Pos}{o y:Aa->M D}(O:Hl g u o)(T:Ak g n y):
  Ak g (.ń u (.Slice (À n) Ã Ã p) ă) (λρ=>o ρ>>= λa=>y ρ>>= λb=>LD a b):=λρ V s Q E I H=>by
 show Yn (O ρ V s _ E I (H.Ĕ λa U v e8 e9 _ _ f z A=>wpAny_Slice ?_));show T ρ U _ _ E f (A.Ĕ λb f6 w B C _ G d J c=>Õ (Õ ?_));clear A;cases a using ap with
 |É l=>
  cases b using ap with
  |Ê k=>
   obtain⟨x,vs,Î,i,r⟩:=(z.on f G).aU;obtain⟨t,Î⟩:=J.az;obtain⟨⟨j,q⟩,c⟩:=Af.ő c;have h:((k.ł:Ï):ä)=k:=U8 q;show kba_turn (value':=.ċ (Os "_") {0,0,0,0}) (λ_=>rfl) ?_;show iS d i (.Ê k t) .Ã (by rw[r.Á];show j) ?_ (λ_ _=>rfl) (λ_ _=>rfl) c;have e:=slicePick_from' vs.ó k.ł;rw[h] at e;rw[e];simpa using r.Ń k.ł
  |_=>show c.ç
 |Ç l=>
  cases b using ap with
  |Ê k=>
   obtain⟨x,vs,Î,i,r⟩:=(z.on f G).bO;obtain⟨t,Î⟩:=J.az;obtain⟨⟨j,q,Y⟩,c⟩:=Af.ő (m:=(Ñ (ā.Ç (l.Ń k.ł)):M D)) c;have h:((k.ł:Ï):ä)=k:=U8 (R0 _0 q);have L:=r.Á;show ao d.fr λm F=>?_;have hw:Í.Ê k t=Í.Ê ((k.ł:Ï):ä) t:=by rw[h]
   rw[hw];show kba_turn (value':=.ċ (Os "_") {0,0,0,0}) (λ_=>rfl) ?_;show slice_tuple_from (s:={s with Ì:=B,Ā:=C}) (a:=k.ł) F (bC g B) i (J4.mp (by rw[h];show q)) (by simp only[kt];show J4.mp (by rw[h,L];show Y)) (λh' F' N=>?_) rfl (λ_=>rfl) (aH (by simp only[kt];show ln2 (fA L) j));have hg:=(N _ (.Ď _)).1;show aj (d.new (new:=[_]) F F' N) λe I'=>c.Ũ (tk:=C) e I' (VR.dI (vs:=vs.Ń k.ł) {_,hg,Î,_,by simp;rfl} ((r.Ń k.ł).on d e))
  |_=>show c.ç
 |_=>induction b using ap<;>show c.ç
end
end
section
section
variable{g:Gd}{ρ:Aa}{V:AK}{s:Shared}{Q:Value->Shared->Prop}{E:Value->Shared->Prop}
def sC{p Bp p2 ă:Pos}{f:Aa->M D}(d:Hl g u f)
  (h:∀o i,∃j,ÀL (.Slice Ã Ã (À (.Ád .USub (.ğ (.Ê 1) k p2) Bp)) p) Å o i=ZP j (Ár o i)):
  Ak g (.ń u (.Slice Ã Ã (À (.Ád .USub (.ğ (.Ê 1) k p2) Bp)) p) ă) (λρ=>f ρ>>= λa=>Mm a):=λρ V s Q E I H=>by
 exists g u k p Bp p2 ă f ρ V s Q E,d h I H;show Yn (d ρ V s _ E I (H.Ĕ λa w v m t z Py c n b=>wpAny_Slice (Õ (Õ ?_))));exists a w v m t,z Py c n b;show Y2 (ÀH (neg_int ?_));cases a using ap with
 |É l=>
  obtain⟨x,y,Î,q,r⟩:=n.aU;show aj (Af.ő b) λA b=>ao (h (.ò x) (.ò m.ã.Ú)) λj h=>kba_turn (value':=.ċ (Os "_") {0,0,0,0}) (λ_=>rfl) ?_;show subscriptTail_ops (ì.Ĳ.ÀY (bp q _)) list_getitem_lookup
   (wpAny_getItem_list_slice (bp q _) (ì.IsSliceOf.new ..) .Ã .Ã (.Ê _ _) _0 ?_ (aH (by simp only[kt,r.Á];show A))) h (λ_=>rfl)
  rw[krv_pick];show aj (c.lk {ķ:=.Ċ "slice",ë:=.ü #[.Ã,.Ã,.Ê (-1) (t+1)]} {ķ:=.Ċ "list",ë:=.Ĕ y.Ė.ó}) λe B=>b.Ũ e B (VR.bI {_,f1 _ Î,Î,0,Î} ?_ (r.Ė.on c e));show(c.aW _).2.ų
 |_=>show b.ç
def Č.oG(I:Č g ρ V h)(x:¬g.X a)(b:h.Ò a=À o)(e:Ev g.Z g.Y h h'):h'.Ò a=À o:=
 e.cH b (λy=>x (I.yx a y)) (λz=>x (I.zx a z))
def hc(n:Ï)(ę:Ŕ Í):Â.foldl (λx1 x2=>x1++x2) ę (ln n #[v])=ę++(ln n v).ó:=by
 induction n generalizing ę with
 |ž=>rfl
 |ś n i=>
  rw[U4,Â.foldl_cons,i,U4];apply acm;simp
def Am.replicate(r:VR h X v d):∀n,Am h X (ln n v) (ln n d)
 |0=>Am.å
 |n+1=>by rw[U4,U4];show .Æ r (Am.replicate r n)
def sD{x n:ý}{p ă:Pos}{h i:Aa->M D}(l:Ak g x h)(o:∀y q,x≠ .ņ y q)(r:Ak g n i):
  Ak g (.ÂY (.Â [x] p) .Mult n ă) (λρ=>h ρ>>= λa=>i ρ>>= λb=>Od a b):=λρ V s Q E I H=>by
 exists g x n p ă h i ρ V s Q E,l o r I H;show Àz (List_ ?_);rw[ak o];show ŝ (l ρ V s _ E I (H.Ĕ λa t v T U z Py f A B=>Tk ?_));exists a t v T U,z Py f A B;show đ (aj (f.aW {ķ:=.Ċ "list",ë:=.Ĕ #[v]}) λe C=>(r ρ t _ _ E C ((Af.later B e).Ĕ λb Y w G d7 z j c J d=>?_))) (by size_fits);exists b Y w G d7,z j c J d;cases b using ap with
 |Ê k=>
  obtain⟨u,Î⟩:=J.az;obtain⟨⟨L,q2⟩,d⟩:=Af.ő d;have hl:=C.oG f.ų (f1 _ Î) j;show ao c.fr λm F=>mul_list F (bC g G) hl (R0 _0 q2) (w3 L _0) (by simp;show R0 L _0) λh' F' N=>?_;have hg:=(N _ (.Ď _)).1;show aj (c.new (new:=[_]) F F' N) λO I'=>d.Ũ O I' (VR.bI {_,hg,Î,0,?_} c.ų (Am.replicate ((A.on f (e.Ð j)).on c O) _));rw[ß (by simp),hc];simp
 |_=>show d.ç
def Jt(Cj:Þ->Ë D)(x:Þ):M D:=Df (Cj x)
def VR.ÿ(I:Č g ρ V h)(r:Ào g.cx.ÿ v d c):VR h g.X v d:=by
 show{c,aS (.Ĩ λb o e=>I.ĩ b o e) r (λa _=>{id,id}),λa f x=>ao (iQ r a f) λo e=>?_};rw[I.KO a x] at e;show nS e
def Č.ns(T:Cm g.cx Cj)(I:Č g ρ V h):h.Ns g.Ü.ÀG g.cx.mg/\h.Ns g.Ü.Ày g.cx.mb:=by
 rw[I.glob,I.blt];show{T.g.ľ λa o e=>I.ĩ a o e,T.b.ľ λa o e=>I.ĩ a o e}
def qr(T:Cm g.cx Cj)(hk:g.Ü.ð x=À .ē)(h:(x==("__debug__"))=Å):
  Ak g (.ċ x ă) (λ_=>Jt Cj x):=λρ V s Q E I H=>by
 show ag (Af.opt H) λd a H=>aD (T.glob x d a) λv b e r=>ŀ I.ĕ hk (Ŭ (I.ns T).1 e (H.aC I (VR.ÿ I r))) h
def aO(T:Cm g.cx Cj)(I:Č g ρ V s.Ì)(hk:g.Ü.ð x=À .ē)(m:g.cx.mg x=Ã)(b:Fk x=À v)(a:x≠ "__name__")
  (d:(x==("__debug__"))=Å)(h:Q v s):è g.cx.M g.A (ŗ (.ċ x ă) g.Ü) Q E s:=
 ŀ I.ĕ hk (loadGlobal_builtin (I.ns T).1 m (I.ns T).2 ((T.bi x a).Ð b) h) d
def nc(a:ä):((a.ï))=if a<0 then -a else a:=by
 split
 ·rename_i h;show Uf (YL h)
 ·rename_i h;show UV (Yp.mp h)
def qs{b:Bi}{f:Í}{v:Í}{a:D}(I:Č g ρ V s.Ì)(r:VT g s.Ì v a)
  (hf:(b= .ŏ/\f= .ė "len")\/(b= .abs/\f= .ė "abs")\/(b= .É/\f= .Ċ "list")\/(b= .Ç/\f= .Ċ "tuple"))
  (H:Af g ρ (VX g) s ((Kx b [a]).Ĉ V) Q E):è g.cx.M g.A (ň f [v]) Q E s:=by
 exists g ρ V s Q E b f v a,I r hf H;rcases hf with⟨Î,Î⟩|⟨Î,Î⟩|⟨Î,Î⟩|⟨Î,Î⟩
 ·cases a using ap with
  |É l=>
   obtain⟨x,h,Î,p,d⟩:=r.aU;show aj (Af.ő (c:=l.Á<=100000) (m:=(Ñ (ā.Ê l.Á):M D)) H) λj H=>?_;have w:h.ó.Ú=l.Á:=by simp[d.Á]
   show call_len_list p (by rw[w];show w3 (J4.ĝ j) _0) ?_;rw[w];show H.now I (VR.Ê _ _)
  |Ç l=>
   obtain⟨x,h,Î,p,d⟩:=r.bO;show aj (Af.ő (c:=l.Á<=100000) (m:=(Ñ (ā.Ê l.Á):M D)) H) λj H=>?_;have w:h.ó.Ú=l.Á:=by simp[d.Á]
   show len_tuple p (by rw[w];show w3 (J4.ĝ j) _0) ?_;rw[w];show H.now I (VR.Ê _ _)
  |_=>show H.ç
 ·cases a using ap with
  |Ê i=>
   rcases r with r|⟨a,h,ds,Î,e,_⟩
   ·obtain⟨t,Î⟩:=r.az;show call_abs_int λu tk=>?_;rw[<-nc];show Af.now (a:=ā.Ê i.ï) H I (VR.Ê _ _)
   ·show pC e
  |_=>show H.ç
 ·have d8:∀{x:á} {h:Â Í} {l:Â D} {T:String} {o:Obj} {n:Ï},(T= "list" \/T= "tuple")->s.Ì.Ò x=À o->o.ķ= .Ċ T->o.ë= .Ĕ h.ó n->Am s.Ì g.X h l->l.Á<=100000->Af g ρ (VX g) s ((Ñ (ā.É l):M D).Ĉ V) Q E->
    è g.cx.M g.A (ň (.Ċ "list") [.ò x]) Q E s:=by
   intro x h l T o n hT y z B d j H;show call_list_seq x hT y z B (λC c' k hg=>?_) (aH (by simp[d.Á,j]));have e:Ev g.Z g.Y s.Ì C:=.Ĩ k;have L:Č g ρ V C:=I.ÁX (.Ĩ k) (λb N q=>k _ _ (I.ĩ b N q)) (λm O=>O.ľ k) (I.Az.ev (Y:=λ_=>Ī) (.Ĩ k) I.zx (λ_ q=>q.ç) λ_ _ q=>q);show H.Ũ (tk:=s.Ā) e L (VR.bI {_,hg,Î,_,Î} I.ų (d.on I e))
  cases a using ap with
  |É l=>
   show a_ r.aU λx h U G d=>au G λo y z J=>ao J λn B=>?_;clear G J;subst U;show aj (Af.ő (c:=l.Á<=100000) (m:=(Ñ (ā.É l):M D)) H) λj H=>d8 (.Ę Î) y z B d j H
  |Ç l=>
   show a_ r.bO λx h U G d=>au G λo y z J=>ao J λn B=>?_;clear G J;subst U;show aj (Af.ő (c:=l.Á<=100000) (m:=(Ñ (ā.É l):M D)) H) λj H=>d8 (.Ġ Î) y z B d j H
  |_=>show H.ç
 ·cases a using ap with
  |É l=>
   obtain⟨x,h,Î,p,d⟩:=r.aU;show aj (Af.ő (c:=l.Á<=100000) (m:=(Ñ (ā.Ç l):M D)) H) λj H=>ř.call_tuple_list p (λC k=>?_) (aH (by simp[d.Á,j]));have e:Ev g.Z g.Y s.Ì C:=.Ĩ k;have L:Č g ρ V C:=I.ÁX (.Ĩ k) (λb N q=>k _ _ (I.ĩ b N q)) (λm O=>O.ľ k) (I.Az.ev (Y:=λ_=>Ī) (.Ĩ k) I.zx (λ_ q=>q.ç) λ_ _ q=>q);show aj (L.aW {ķ:=.Ċ "tuple",ë:=.Ĕ h.ó}) λe' e9=>H.Ũ (tk:=s.Ā) (e.Ð e') e9 (VR.dI {_,f1 _ Î,Î,_,Î} (d.on I (e.Ð e')))
  |_=>show H.ç
def Č.ÂE(I:Č g ρ V h)(hk:∀b o,h.Ò b=À o->h'.Ò b=À o):Ev g.Z g.Y h h'/\Č g ρ V h':=
 {.Ĩ hk,I.ÁX (.Ĩ hk) (λb a q=>hk _ _ (I.ĩ b a q)) (λm c=>c.ľ hk) (I.Az.ev (.Ĩ hk) I.zx (λ_ q=>q.ç) λ_ _ q=>q)}
def qt{b:Bi}{f:Í}{v w:Í}{x y:D}(I:Č g ρ V s.Ì)(r:VR s.Ì g.X v x)(c:VR s.Ì g.X w y)
  (d:(b= .max/\f= .ė "max")\/(b= .min/\f= .ė "min"))
  (H:Af g ρ (VX g) s ((Kx b [x,y]).Ĉ V) Q E):è g.cx.M g.A (ň f [v,w]) Q E s:=by
 exists g ρ V s Q E b f v w x y,I r c d H;rcases d with⟨Î,Î⟩|⟨Î,Î⟩
 ·cases x using ap with
  |Ê i=>
   cases y using ap with
   |Ê j=>
    obtain⟨t,Î⟩:=r.az;obtain⟨u,Î⟩:=c.az;show max_two_ints I.Âf λk l h=>aj (I.ÂE h) λe a=>?_;have H:Af g ρ (VX g) s ((Ñ (ā.Ê (if j>i then j else i)):M D).Ĉ V) Q E:=H;split
    ·rename_i q;rw[à q] at H;show H.Ũ e a (VR.Ê _ _)
    ·rename_i q;rw[ß q] at H;show H.Ũ e a (VR.Ê _ _)
   |_=>show H.ç
  |_=>show H.ç
 ·cases x using ap with
  |Ê i=>
   cases y using ap with
   |Ê j=>
    obtain⟨t,Î⟩:=r.az;obtain⟨u,Î⟩:=c.az;show min_two_ints I.Âf λk l h=>aj (I.ÂE h) λe a=>?_;have H:Af g ρ (VX g) s ((Ñ (ā.Ê (if j<i then j else i)):M D).Ĉ V) Q E:=H;split
    ·rename_i q;rw[à q] at H;show H.Ũ e a (VR.Ê _ _)
    ·rename_i q;rw[ß q] at H;show H.Ũ e a (VR.Ê _ _)
   |_=>show H.ç
  |_=>show H.ç
def bD(a:(∃id,f= .ė id)\/∃T,f= .Ċ T)(h:è g.cx.M g.A t (λv b=>è g.cx.M g.A (ň f [v]) Q E b) E s):è g.cx.M g.A (callWith ă f [] [(Å,t)] []) Q E s:=by
 rcases a with⟨id,Î⟩|⟨T,Î⟩
 ·show callWith_builtin1 h
 ·show ÁZ h
def sE(T:Cm g.cx Cj)(d:Hl g e i)(n:∀y q,e≠ .ņ y q)
  (h:(b= .ŏ/\f= .ė "len")\/(b= .abs/\f= .ė "abs")\/(b= .É/\f= .Ċ "list")\/(b= .Ç/\f= .Ċ "tuple"))
  (hk:g.Ü.ð x=À .ē)(m:g.cx.mg x=Ã)(c:Fk x=À f)(j:x≠ "__name__")(l:(x==("__debug__"))=Å):
  Ak g (.Ás (.ċ x np) [e] [] ă) (λρ=>i ρ>>= λa=>Kx b [a]):=λρ V s Q E I H=>by
 show W6 (ak n) (aO T I hk m c j l (bD ?_ (d ρ V s _ E I (H.Ĕ λa p v k t _ _ o r u=>qs o r h u))));clear c;rcases h with⟨_,Î⟩|⟨_,Î⟩|⟨_,Î⟩|⟨_,Î⟩
 ·show .Ę {_,Î}
 ·show .Ę {_,Î}
 ·show .Ġ {_,Î}
 ·show .Ġ {_,Î}
def sF(T:Cm g.cx Cj)(m:Ak g e n)(o:∀y q,e≠ .ņ y q)(r:Ak g d u)(z:∀y q,d≠ .ņ y q)
  (i:(b= .max/\f= .ė "max")\/(b= .min/\f= .ė "min"))
  (hk:g.Ü.ð x=À .ē)(B:g.cx.mg x=Ã)(h:Fk x=À f)(C:x≠ "__name__")(G:(x==("__debug__"))=Å):
  Ak g (.Ás (.ċ x np) [e,d] [] ă) (λρ=>n ρ>>= λa=>u ρ>>= λc=>Kx b [a,c]):=λρ V s Q E I H=>by
 show Call_Name (trees:=[(Å,ŗ e g.Ü),(Å,ŗ d g.Ü)]) ?_ (aO T I hk B h C G ?_)
 ·rw[ak o,ak z];rfl
 have j:∀id,f= .ė id->è g.cx.M g.A (callWith ă f [] [(Å,ŗ e g.Ü),(Å,ŗ d g.Ü)] []) Q E s:=by
  clear h;rintro id Î;show N8 Î (L3 (A3 (m ρ V s _ E I (H.Ĕ λa p v k t _ _ l J L=>A3 (r ρ p _ _ E l (L.Ĕ λc d7 w d8 d9 _ N O U Y=>T9 (qt O (J.on l N) U i Y)))))))
 clear h;rcases i with⟨_,Î⟩|⟨_,Î⟩
 ·show j _ Î
 ·show j _ Î
def sG(I:Č g ρ V s.Ì)(r:VR s.Ì g.X v a)(d:VR s.Ì g.X w b)(H:Af g ρ (VX g) s ((Gw a b).Ĉ V) Q E):è g.cx.M g.A (compareOp .In v w) Q E s:=by
 cases b using ap with
 |Ç x=>
  show aj (Af.ő (c:=(YS x&&a.Àx&&decide (a.ű<=64))=Ä) (m:=(Ñ (ā.Ù (PB x a)):M D)) (by induction a using ap<;>show H)) λq H=>?_;simp only[KF,Àr] at q;show ag r λh e _=>ag d λi f _=>?_;have o:=I.room;show SeqAt.in_tuple_reads f e q.1.1 q.1.2 (i9 (ac (g5 (ac (Ï.min_le_right ..) q.2) _) (by simp+arith only[])) o) (H.aC I (VR.Ù _))
 |_=>induction a using ap<;>show H.ç
def wo(h:Ak g l f)(d:Ak g r e)(m:Yj .In r=Å):
  Ak g (.Áq l [.In] [r] ă) (λρ=>f ρ>>= λa=>e ρ>>= λb=>Gw a b):=λρ V s Q E I H=>
 ZJ (h ρ V s _ E I (H.Ĕ λa p v t u _ _ c i j=>d ρ p _ _ E c (j.Ĕ λb x w y z _ k n o q=>sG n (i.on c k) o q))) m
def sH(h:Ak g l f)(e:Ak g r i)(m:Yj .In r=Å):
  DV g (.Áq l [.In] [r] ă) (λρ=>f ρ>>= λa=>i ρ>>= λb=>Gw a b):=λρ V s B Q E I H C=>by
 simp only[M.Áz] at H;show S9 (h ρ V s _ E I (H.Ĕ λa p v G J _ _ d j k=>e ρ p _ _ E d (k.Ĕ λb L w N O _ n o q t=>
  sG o (j.on d n) q (t.Ĕ λc T x U Y _ _ u y z=>by
   obtain⟨b,Î,A⟩:=z.Aw;rw[y.Aw];show GM (A.aC u Î))))) m
end
end
section
def LF(h h':ì):Prop:=∀b o,h.Ò b=À o->(∀f,o.ë≠ .ü f)->h'.Ò b=À o
def LF.ev{h h':ì}(m:LF h h'):Ev (λ_=>Ī) (λb=>∃o f,h.Ò b=À o/\o.ë= .ü f) h h':=by
 intro b o e q;show .Ę (m b o e λf d=>?_);rcases q with q|⟨_,v,n,q⟩
 ·show q {o,f,e,d}
 ·rw[d] at q;show dC q
def Np.ÂE{h h':ì}{a:á}(k:Np h a):¬∃o f,h.Ò a=À o/\o.ë= .ü f:=by
 rintro ⟨o,f,e,d⟩;show ag k ?_;clear k;intro c b q;rw[e] at b;(have z:=al b;clear b;subst z);show q f d
def VR.ÂL{h h':ì}{X:á->Prop}{v:Í}{d:D}(r:VR h X v d)(m:LF h h'):VR h' X v d:=
 r.ç λs r=>{s,aS m.ev r.1 (λa b=>{(cR r.1 a b).ÂE (h':=h),id}),r.2}
def Am.ÂL{h h':ì}{X:á->Prop}{v:Â Í}{d:Â D}(r:Am h X v d)(m:LF h h'):Am h' X v d:=
 r.ç λs r=>{s,aT m.ev r.1 (λa b=>{(bJ r.1 a b).ÂE (h':=h),id}),r.2}
def LF.Ĭ{h h':ì}(m:LF h h')(c:á)(v:Ë Í):h.Ŝ c v->h'.Ŝ c v:=λ⟨o,a,d⟩=>{o,m _ _ a λ_ q=>bg j2 (d.symm.Ð q) rfl,d}
def Č.ÂL{g:Gd}{ρ:Aa}{p:AK}{h h':ì}(I:Č g ρ p h)(m:LF h h')(S:g.cx.ÿ.ĭ h')(i:∀b,g.X b->∃o,h'.Ò b=À o)(t:Dh g.cx.tab g.X h'):Č g ρ p h':=by
 show I.pre (X':=g.X) {S,λL o s n _ e d=>{o,s,n,m _ _ e λ_ q=>bg j2 (d.symm.Ð q) rfl,d},I.zx,I.lx,I.KO,i,λ_ c v _ _ j q=>{j,v,m.Ĭ c v q},t} ?_ (DB.Ö I.Ż (λw q=>?_) m.Ĭ λ_ _ _ _ r=>?_) I.uniq
 ·show I.Az.Ö (λP q=>{(I.Az.x q).1,λy ⟨o,f,l,n,a⟩=>{o,m _ _ f λ_ q=>bg j2 (a.symm.Ð q) rfl,l,n,a}}) λr=>r.ÂL m
 ·show ba q λo s u f a r=>{o,s,u,m _ _ f λ_ q=>bg j2 (a.symm.Ð q) rfl,a,r}
 ·show r.Ö (λr=>r.ÂL m) (λr=>r.ÂL m) (λr=>aS m.ev r nl) λ_ O=>{O.x,λo e k _=>m _ _ e k}
def Am.less{X X':á->Prop}{h:ì}{v:Â Í}{d:Â D}(r:Am h X v d)(x:∀b o,h.Ò b=À o->X' b->X b):Am h X' v d:=
 let⟨s,a,b⟩:=r;{s,a,λy c z=>b y c (let⟨o,e⟩:=eN a y c;x y o e z)}
def AS.on{g:Gd}{h:ì}{X':á->Prop}(x:∀b o,h.Ò b=À o->X' b->g.X b){i:á}{v:Í}{sl:Ą}(y:sl.Bm=Ä->X' i)(r:AS g h i v sl):AS (g.on X') h i v sl:=
 r.Ö (λr=>r.less x) (λr=>r.less x) id λq _=>{y q,λ_ e _ _=>e}
def Bb.on{g:Gd}{h:ì}{e:AK}{X':á->Prop}(p:Bb g h e)(a:∀b o,h.Ò b=À o->X' b->g.X b)(c:∀b,g.cx.P=À b->X' b):Bb (g.on X') h e:=p.Ö (λP q=>{c P q,λ_=>id}) λr=>r.less a
def Č.on{g:Gd}{ρ:Aa}{p:AK}{h:ì}{X':á->Prop}(I:Č g ρ p h)(a:∀b o,h.Ò b=À o->X' b->g.X b)(s:∀b,X' b->∃o,h.Ò b=À o)
  (hz:∀b,g.Z b->X' b)(y:∀b,g.Y b->X' b)(j:∀x,g.Ü.ð x=À .Ĭ->∀c,g.Ü.ō.ö x=À c->X' c)
  (m:∀i sl,ρ.ĵ i=À sl->sl.Bm=Ä->X' (g.ĉ i)):Č (g.on X') ρ p h:=
 I.pre {I.ĩ,λL o t n _ e d=>{o,t,n,e,d},hz,y _ (.Ę (.Ġ Î)),λb f=>(s b f).ç λo e=>I.KO b (a b o e f),s,λx c v k l _ q=>{j x k c l,v,q},I.ũ.ÁX (Ev.ť (λ_=>Ī) (λ_=>Ī) _) (λ_ _ _=>id) (λ_ _ _ _ _ _ q=>q.ç) a λb q e=>y b (.Ġ {q,e})} (I.Az.on a λb q=>y b (.Ę (.Ę q))) (DB.Ö I.Ż (λ_=>id) (λ_ _=>id) λi sl _ e r=>r.on a (m i sl e)) I.uniq
def hg{g:Gd}{h:ì}{a:á}(c:h.Ò a=Ã)(b:á)(o:Obj)(e:h.Ò b=À o)(x:(g.ŧ a).X b):g.X b:=x.ç id λq=>nS (c.symm.Ð (q▸e))
def Č.iT{g:Gd}{ρ:Aa}{p Ē:AK}{h h':ì}{a:á}(I:Č g ρ p h)(j:h.Ò a=Ã)(t:∃o,h'.Ò a=À o)(E:Ev g.Z g.V h h')(S:g.cx.ÿ.ĭ h')(N:∀m,h.Ns g.Ü.æ m->h'.Ns g.Ü.æ m)(P:Bb (g.ŧ a) h' Ē):
  Č (g.ŧ a) ρ Ē h':=by
 have K:=Bv.zI I (U:=g.V) (λ_ _ _ f=>.Ę (.Ę f)) E S (I.locs λm q=>{m,N m q}) (λ_ q=>(Bb.Ĕ P q).imp λ_ ⟨_,_,a,_⟩=>a) (I.jH E);show I.pre {S,K.D,λb q=>.Ę (I.zx b q),.Ę I.lx,λb q=>q.ç (I.KO b) λq=>?_,λb q=>q.ç (K.s b) λq=>q▸t,λw A v k l q z=>{.Ę q,(K.c w A v k l q z).2},I.ũ.ÁX E (λ_ _=>I.gW) (λb o B e d _ u=>((I.oE e (λ_ _ z=>bg j2 (d.symm.Ð z) rfl) (λ_ _ z=>bg j2 (d.symm.Ð z) rfl)) u).ç) (hg j) λb q e=>.Ę (I.ũ b q e).1} P (DB.Ö I.Ż N (Bv.Ĭ I (λ_ _ _ f=>.Ę (.Ę f)) E) λi C v e r=>?_) I.uniq
 ·cases e:g.cx.ÿ.Ò b with
  |Ã=>rfl
  |À o=>show nS (j.symm.Ð (q▸I.ĩ b o e))
 ·show AS.ev (g:=g.ŧ a) E (λb q=>.Ę (I.zx b q)) (λb q=>.Ę (I.yx b (.Ę q))) (λn f=>(BB.de r n).y (.Ę f)) (r.on (hg j) λn=>.Ę (BB.de r n).x)
def Bb.ŧ{g:Gd}{ρ:Aa}{p:AK}{h:ì}{a:á}(I:Č g ρ p h)(c:h.Ò a=Ã):Bb (g.ŧ a) h p:=I.Az.on (hg c) λb q=>.Ę (I.Az.x q).1
def Č.eh{g:Gd}{ρ:Aa}{p:AK}{h h':ì}{a:á}(I:Č g ρ p h)(c:h.Ò a=Ã)(d:∃o,h'.Ò a=À o)(hk:∀b o,h.Ò b=À o->h'.Ò b=À o):
  Ev g.Z g.Y h h'/\Č (g.ŧ a) ρ p h':=
 {.Ĩ hk,I.iT c d (.Ĩ hk) (λb e q=>hk _ _ (I.ĩ b e q)) (λm f=>f.ľ hk) ((Bb.ŧ I c).ev (Y:=λ_=>Ī) (.Ĩ hk) (λb q=>.Ę (I.zx b q)) (λ_ q=>q.ç) λ_ _ q=>q)}
def Č.sI{g:Gd}{ρ:Aa}{p:AK}{h h':ì}{a:á}{new:Â (á×Obj)}{m:Þ->Ë Í}(I:Č g ρ p h)(c:h.Ò a=Ã)(d:∃o,h'.Ò a=À o)(e:Fr g.cx.ÿ g.Ü.æ h m)(F:Fr g.cx.ÿ g.Ü.æ h' m)
  (N:News g.cx.ÿ g.Ü.æ h' (new++Ff g h)):Ev g.Z g.Y h h'/\Č (g.ŧ a) ρ p h':=
 {(I.landed F.č N).y,I.iT c d (I.landed F.č N) F.č (λi f=>cS e.ns f▸F.ns) ((Bb.ŧ I c).ev (I.gY F.č N) (λb q=>.Ę (I.zx b q)) (λb q=>.Ę (q▸I.lx)) I.Jr)}
def Aa.ÀI{ρ:Aa}{i j:Ï}{sl:Ë Ą}{sl':Ą}(e:Aa.ĵ (ρ.set i sl) j=À sl'):(j=i/\sl=À sl')\/(j≠i/\ρ.ĵ j=À sl'):=by
 unfold Aa.ĵ at e⊢;rw[Â.getElem?_set] at e;split at e
 ·rename_i q;subst q;split at e
  ·show .Ę {Î,by simpa using e}
  ·simp at e
 ·rename_i q;show .Ġ {λz=>q z.symm,e}
def Č.weaken{g:Gd}{ρ ρ':Aa}{p:AK}{h:ì}(I:Č g ρ' p h)(k:∀j sl,ρ.ĵ j=À sl->ρ'.ĵ j=À sl):Č g ρ p h:=
 {I with Ż:=I.Ż.imp λm a=>{a.1,λi sl e=>a.2 i sl (k i sl e)},uniq:=λi j s b c d=>I.uniq i j s b (k i s c) (k j b d)}
def Č.Ń{g:Gd}{ρ:Aa}{p:AK}{h:ì}(I:Č g ρ p h)(i:Ï):Č g (ρ.set i Ã) p h:=I.weaken λj s e=>(Aa.ÀI e).ç (λq=>nS q.2) λq=>q.2
def qu{l:Â Þ}(n:l.Ŀ){i j:Ï}{x y:Þ}(d:l[i]? =À x)(f:l[j]? =À y)(h:j≠i):y≠x:=by
 rintro rfl;show ao (s5.mp d) λa e=>?_;show ao (s5.mp f) λb c=>?_;have H:=Â.pairwise_iff_getElem.mp n;rcases Ï.lt_trichotomy j i with q|q|q
 ·show H j i b a q (c.Ð e.symm)
 ·show h q
 ·show H i j a b q (e.Ð c.symm)
section
variable{g:Gd}{ρ:Aa}{h h':Heap}{i:Nat}{sl:Slot}
def Ga.set(U:Ga g ρ)(u:sl.Bm=Ä->∀j s,j≠i->ρ.ĵ j=À s->s.Bm=Ä->g.ĉ j≠g.ĉ i):Ga g (ρ.set i (À sl)):=λj k s BQ b d o c e=>by
 rcases Aa.ÀI b with⟨Î,q⟩|⟨l,q⟩
 ·clear b;rcases Aa.ÀI d with⟨Î,a⟩|⟨f,a⟩
  ·rfl
  ·show absurd e.symm (u (al q▸o) k BQ f a c)
 ·clear b;rcases Aa.ÀI d with⟨Î,a⟩|⟨f,a⟩
  ·show absurd e (u (al a▸c) j s l q o)
  ·show U j k s BQ q a o c e
def DB.set{X':á->Prop}{x:Þ}{v:Í}{m a:Þ->Ë Í}(l:∀i sl,ρ.ĵ i=À sl->∃x v,g.nm[i]? =À x/\F_ h g.Ü m x v/\AS g h (g.ĉ i) v sl)(o:g.nm.Ŀ)(d:g.nm[i]? =À x)(p:∀y,y≠x->a y=m y)(N:h'.Ns g.Ü.æ a)(V:F_ h' g.Ü a x v)
  (C:∀y c v,y≠x->g.Ü.ō.ö y=À c->h.Ŝ c v->h'.Ŝ c v)(T:∀j s w,j≠i->ρ.ĵ j=À s->AS g h (g.ĉ j) w s->AS (g.on X') h' (g.ĉ j) w s)(r:AS (g.on X') h' (g.ĉ i) v sl):DB (g.on X') (ρ.set i (À sl)) h':=by
 show{a,N,λj s e=>?_};rcases Aa.ÀI e with⟨Î,q⟩|⟨f,q⟩
 ·show{x,v,d,V,al q▸r}
 ·show a_ (l j s q) λy w k t u=>?_;have n:=qu o d k f;show{y,w,k,t.imp (λq=>{q.1,(p y n).Ð q.2}) λq=>{q.1,q.2.1,q.2.2.imp λc b=>{b.1,C y c _ n b.1 b.2}},T j s w f q u}
end
def Č.iU{g:Gd}{ρ:Aa}{p Ē:AK}{h h':ì}{U:á->Prop}{i:Ï}{x:Þ}{v:Í}{sl:Ą}(I:Č g ρ p h)(b:g.nm[i]? =À x)(hk:g.Ü.ð x=À .local)(T:AS g h' (g.ĉ i) v sl)
  (w:sl.Bm=Ä->∀j s,j≠i->ρ.ĵ j=À s->s.Bm=Ä->g.ĉ j≠g.ĉ i)(u:Bv g h U)(E:Ev g.Z U h h')(S:g.cx.ÿ.ĭ h')(N:∀m,h.Ns g.Ü.æ m->h'.Ns g.Ü.æ (λy=>if y=x then À v else m y))(P:Bb g h' Ē)(t:Dh g.cx.tab g.X h'):Č g (ρ.set i (À sl)) Ē h':=by
 show ag I.Ż λm d e=>I.pre (X':=g.X) (u.zI I E S (I.locs λm q=>{_,N m q}) (λ_ q=>(P.Ĕ q).imp λ_ ⟨_,_,a,_⟩=>a) t) P (DB.set (X':=g.X) e I.Àq b (λy n=>ß n) (N m d) (.Ę {hk,à Î}) (λ_ c v _ _=>u.Ĭ I E c v) (λ_ _ _ _ _ r=>r.jG u E I.zx I.yx) T) (Ga.set I.uniq w)
def Č.eA{g:Gd}{ρ:Aa}{p:AK}{h h':ì}{i:Ï}{x:Þ}{v:Í}{sl:Ą}(I:Č g ρ p h)(d:g.nm[i]? =À x)(hk:g.Ü.ð x=À .local)
  (R:AS g h (g.ĉ i) v sl)(u:sl.Bm=Ä->∀j c,j≠i->ρ.ĵ j=À c->c.Bm=Ä->g.ĉ j≠g.ĉ i)
  (f:∀m,h.Ns g.Ü.æ m->h'.Ns g.Ü.æ (λy=>if y=x then À v else m y))(s:ut g.Ü.æ h h'):
  Ev g.Z g.Y h h'/\Č g (ρ.set i (À sl)) p h':=by
 show bG λG=>ag I.Ż λr z A=>ba z λB C H a k _=>G ?_;have nt:∀o,h.Ò g.Ü.æ=À o->¬FX o:=λo e t=>by
  show aj t λ_ w=>bB w λJ n q=>?_;rw[e] at a;(have l:=al a;clear a;subst l);show bg j2 (k.symm.Ð q) rfl
 have E:Ev g.Z g.V h h':=Ev.Âl s (.Ġ Î) nt;show⟨E.y,I.iU d hk (R.jG (λ_ _ _ y=>.Ę (.Ę y)) E I.zx I.yx) u (λ_ _ _ y=>.Ę (.Ę y)) E (λb o e=>(s.2 b (λq=>nS ((I.KO _ I.lx).symm.Ð (q▸e)))).Ð (I.ĩ b o e)) f
  (I.Az.ev (Ev.Âl (Y:=λb=>b=g.Ü.æ) s Î nt) I.zx (λb q=>q▸I.lx) I.Jr) (I.jH E)⟩
end
section
def Gd.W(g:Gd)(b:á):Prop:=g.X b/\(g.Y b\/g.lo<=b)
def Č.yw{p:AK}(I:Č g ρ p h)(b:á)(y:g.Y b):g.W b:={I.yx b y,.Ę y}
def Ev.yw(I:Č g ρ p h)(e:Ev g.Z g.Y h h'):Ev g.Z g.W h h':=e.mono (λ_ _ _ z=>z) λb _ _ a=>I.yw b a
def eB{l:Â (Þ×á)}(g:l.ĳ λx y=>x.2≠y.2){x y:Þ}{c:á}(h:l.ö x=À c)(f:l.ö y=À c):x=y:=by
 exists l x y c,g h f;induction l with
 |å=>show nS h
 |Æ a r j=>
  obtain⟨n,b⟩:=a;exists r n b,j g h f;rw[Gc] at h f;have s:∀{z:Þ} {d:á},r.ö z=À d->∃p∈r,p.2=d:=λe=>{_,Àb e,Î};cases k:x==n with
  |Ä=>
   rw[k] at h;clear j
   (have m:=al h;clear h;subst m)
   cases i:y==n with
   |Ä=>show(ÁP.mp k).Ð (ÁP.mp i).symm
   |Å=>
    rw[i] at f;show ag (s f) λp o q=>absurd q.symm (YO g o)
  |Å=>
   rw[k] at h;cases i:y==n with
   |Ä=>
    rw[i] at f;clear j
    (have m:=al f;clear f;subst m)
    show ag (s h) λp o q=>absurd q.symm (YO g o)
   |Å=>
    rw[i] at f;show j (Â.ĳ.of_cons g) h f
def Č.eQ{g:Gd}{ρ:Aa}{J:AK}{h h':ì}{i:Ï}{x:Þ}{v:Í}{sl:Ą}{c:á}(I:Č g ρ J h)(U:g.nm[i]? =À x)(a:(x==("__classdict__" :Þ))=Å)(hk:g.Ü.ð x=À .Ĭ)
  (p:g.Ü.ō.ö x=À c)(R:AS g h (g.ĉ i) v sl)(V:sl.Bm=Ä->∀j sj,j≠i->ρ.ĵ j=À sj->sj.Bm=Ä->g.ĉ j≠g.ĉ i)
  (u:h'.Ŝ c (À v))(s:ut c h h'):
  Ev g.Z g.W h h'/\Č g (ρ.set i (À sl)) J h':=by
 exists g ρ J h h' i x v sl c,I U a hk p R V u s;show bG λnG=>?_;show a_ (I.Ĭ x hk) λc' l8 e d9 e7=>?_;show ag d9 ?_;clear d9;intro FU N A;show aj e7 ?_;clear e7;intro C e8;show nG ?_;clear nG;rw[p] at e;(have B:=al e;clear e;subst B);show ag I.Ż λj4 e9 j5=>?_;have Q:∀o,h.Ò c=À o->¬FX o:=λo e t=>by
  show aj t ?_;clear t;intro _ f6;show bB f6 ?_;clear f6;intro vs n q;rw[N] at e;(have B:=al e;clear e;subst B);rw[A] at q;show dC q
 have E:Ev g.Z g.W h h':=Ev.Âl s {C,.Ġ e8} Q;have m:Ev g.Z (λb=>b=c) h h':=Ev.Âl s Î Q;have G:∀{b:á} {o:Obj},h.Ò b=À o->(∀v,o.ë≠ .Ĭ v)->b≠c:=λe q z=>by
  clear p u s C e8 Q m;subst z;rw[N] at e;(have B:=al e;clear e;subst B);show q _ A
 have T:∀b,b=c->g.X b:=λb q=>q▸C;have P:=I.Az.ev m I.zx T λb hb q=>by
  show ba (I.Az.Ĕ hb) λo vs n e _ d=>?_;show G e (λ_ z=>bg j2 (d.symm.Ð z) rfl) q
 have cz:=λz=>by
  show iD I.ŕ λl9 m0 _ _ _ q w=>?_;show ag ((w c).mp z) λe he f=>?_;show aj (q e he) λ_ f7=>?_;show iE f7 ?_;clear f7;intro L o es n f' _ H a;show G H (λ_ z=>bg j2 (a.symm.Ð z) rfl) (al (f'.symm.Ð f))
 have ev:∀{oi:á} {v:Í} {sl:Ą},AS g h oi v sl->AS g h' oi v sl:=λr=>r.Ö (λr=>r.ev m I.zx T) (λr=>r.ev m I.zx T) (λr=>aS m r nl) λ_ O=>{O.x,λo e _ k=>(s.2 _ (G e k)).Ð e};have k7:h'.Ns g.Ü.æ j4:=by
  show ba e9 ?_;clear e9;intro o es ep H a r;show{o,es,ep,(s.2 _ (G H λ_ z=>bg j2 (a.symm.Ð z) rfl)).Ð H,a,r}
 have k9:∃o,h'.Ò c=À o:=u.imp λ_ q=>q.1;have nY:¬g.Y c:=I.y_ N (λ_ _ z=>bg j2 (A.symm.Ð z) rfl) (λ_ _ z=>bg j2 (A.symm.Ð z) rfl) λ_ z=>bg j2 (A.symm.Ð z) rfl;show{E,I.pre (Nq.Âl I s m C cz k9 nY λd v q=>?_) P (DB.set j5 I.Àq U (λ_ _=>rfl) k7 (.Ġ {.Ę hk,a,c,p,u}) (λy d v n l ⟨o,e,k⟩=>{o,(s.2 d λz=>n (eB I.ō (z▸l) p)).Ð e,k}) (λ_ _ _ _ _=>ev) (ev R)) (Ga.set I.uniq V)};by_cases q':d=c
 ·show{_,q'▸u}
 ·show ag q ?_;clear q;intro o e k;show{v,o,(s.2 d q').Ð e,k}
mutual
noncomputable def Tg.put:Tg->D->Aa->M Aa
 | .name i=>λd ρ=>pure (ρ.set i (some (.val d)))
 | .tup l=>λd ρ=>match d with
  | .tuple ds=>EX.put l ds ρ
  | .list ds=>EX.put l ds ρ
  |_=>M.stuck
noncomputable def EX.put:EX->List D->Aa->M Aa
 | .nil=>λds ρ=>ds.casesOn (pure ρ) λ_ _=>M.stuck
 | .cons t l=>λds ρ=>ds.casesOn M.stuck λd ds=>Tg.put t d ρ>>= λρ'=>EX.put l ds ρ'
end
mutual
inductive CY(g:Gd)(U:Addr->Prop):Expr->Tg->Prop
 |loc {i x pos}:g.nm[i]? =some x->g.env.kindOf x=some .local->CY g U (.Name x pos) (.name i)
 |Ve {i x pos}:g.nm[i]? =some x->g.env.kindOf x=some .cell->(x==("__classdict__" :Str))=false->(∀b,g.W b->U b)->CY g U (.Name x pos) (.name i)
 |tup {e k pos l}:DQ g U e l->CY g U (.Tuple e k pos) (.tup l)
inductive DQ(g:Gd)(U:Addr->Prop):List Expr->EX->Prop
 |nil:DQ g U [] .nil
 |cons {e t s l}:CY g U e t->DQ g U s l->DQ g U (e::s) (.cons t l)
end
section
variable{prog:Ok}{w:World}{A:KB}{E:Value->Shared->Prop}{s:Shared}
def nd(f:t≠it)(n:Ï):∀(i:Ï) (s:Ô) (Q:Â Í->Ô->Prop),s.Ì.IsListIter it t i->s.Ì.Ĳ t e->i+n<=e.Ú->
  (∀h',h'.IsListIter it t (i+n)->ut it s.Ì h'->Q ((e.Ħ.Ń i).Ś n) {s with Ì:=h'})->è (ć ú w) A (draw (.ò it) n) Q E s:=by
 induction n with
 |ž=>
  intro i s Q h _ _ a;show Õ (by simpa using a s.Ì h (ì.SameBut.ť ..))
 |ś n g=>
  intro i s Q h b l a;have c:i<e.Ú:=by show ln1 l
  show È (wpAny_pyNext_list_item h b (x:=e[i]) (by simp[c]) λq j d=>È (Ģ (g (i+1) _ _ j (b.ŉ d.ŉ f) (ln1 l) λk m o=>Õ ?_)));have p:e.Ħ.Ń i=e[i]::e.Ħ.Ń (i+1):=by simp[IR,c]
  have:=a k (by rw[show i+(n+1)=i+1+n by ac_rfl];show m) (d.Ð o);rw[p,Â.take_succ_cons] at this;show this
def eR(a:A.Àe=Ã)(h:s.Ì.Ĳ t i)
  (c:∀h',YA s.Ì.ã.Ú s.Ì h'->Q i.Ħ {s with Ì:=h'}):è (ć ú w) A (unpackItems (.ò t) i.Ú Ã) Q E s:=by
 exists ú w A E s t i Q,a h c;have l:t≠s.Ì.ã.Ú:=by show ag h λo g _=>?_;show I9 (g3 g)
 show È ?_
 ·unfold notIterableAtAll;show È (ÁJ h.ÀY slot_list_iter.ö (Õ (È (Ģ (wpAny_pyIter_list h (È (Ģ (nd l i.Ú 0 _ _ {_,f1 _ Î,Î,Î} (bp h _) (by simp+arith only[]) λp j d=>?_))))))));have k:Â.Ś i.Ú (Â.Ń 0 i.Ħ)=i.Ħ:=by
   rw[Â.drop_zero];show Zg (by simp)
  rw[k];rw[ß (by simp)];show È (Ģ (wpAny_pyNext_list_end a j ((bp h _).ŉ d.ŉ l) (by simp) λm n=>Õ (c m λb o f e=>n b o f (d.ŉ b o f (a0 _ e)))))
def eF{Ü:Env}{elts:Â ý}{x1}{ă:Pos}{t:á}{i:Ŕ Í}{Q:ÂF->Ô->Prop}(a:A.Àe=Ã)(b:s.Ì.Ĳ t i)
  (n:(ÀE elts Ü).Á=i.Ú)(r:(ÀE elts Ü).findIdx? (·.1)=Ã)
  (h:∀h',YA s.Ì.ã.Ú s.Ì h'->è (ć ú w) A (ÁA ((ÀE elts Ü).Ö (·.2)) i.Ħ) Q E {s with Ì:=h'}):
  è (ć ú w) A (Àf (.Ů elts x1 ă) Ü (.ò t)) Q E s:=by
 show È (ġ ?_);unfold unpack;rw[n,r];show È (Ģ (eR a b h))
end
section
variable{g:Gd}{E:Value->Shared->Prop}{U:Addr->Prop}
def Č.eG{p:AK}(I:Č g ρ p h):(g.Ü.İ.ĕ== .class||(g.Ü.İ.ĕ== .module&&g.Ü.æ !=g.Ü.ÀG))=Å:=by rw[I.ĕ];rfl
def Č.cS{p:AK}(_:Č g ρ p h)(a:h.Ns g.Ü.æ m)(b:h.Ns g.Ü.æ c):m=c:=PQ.Internal.cS a b
def br{s:Ô}{sl:Ą}(I:Č g ρ p s.Ì)(b:g.nm[i]? =À x)
  (hk:g.Ü.ð x=À .local)(R:AS g s.Ì (g.ĉ i) v sl)
  (u:sl.Bm=Ä->∀j a,j≠i->ρ.ĵ j=À a->a.Bm=Ä->g.ĉ j≠g.ĉ i)
  (h:∀h' tk,Ev g.Z g.Y s.Ì h'->Č g (ρ.set i (À sl)) p h'->Q () {s with Ì:=h',Ā:=tk}):è g.cx.M g.A (ÁM g.Ü x v) Q E s:=ag I.Ż λm n _=>ţ hk n (λh' c d=>(aj (I.eA b hk R u (λl f=>by rw[cS f n];show c) d) λe k=>(h h' _ e k))) I.eG
def fS{sl:Ą}(I:Č g ρ p s.Ì)(b:g.nm[i]? =À x)
  (hk:g.Ü.ð x=À .Ĭ)(d:(x==("__classdict__"))=Å)(R:AS g s.Ì (g.ĉ i) v sl)
  (u:sl.Bm=Ä->∀j a,j≠i->ρ.ĵ j=À a->a.Bm=Ä->g.ĉ j≠g.ĉ i)
  (h:∀h' tk,Ev g.Z g.W s.Ì h'->Č g (ρ.set i (À sl)) p h'->Q () {s with Ì:=h',Ā:=tk}):è g.cx.M g.A (ÁM g.Ü x v) Q E s:=a_ (I.Ĭ x hk) λc l e q _=>wpAny_storeName_cell I.ĕ hk e q λh' n f=>aj (I.eQ b d hk e R u n f) λe k=>h h' s.Ā e k
def Č.ŉ{p:AK}(I:Č g ρ p h)(a:YA h.ã.Ú h h'):Ev g.Z g.Y h h'/\Č g ρ p h':=
 I.ÂE λb o e=>a b o (I9 (g3 e)) e
def aA{f:α->M i}(h:(m>>=f).Ĉ e= .ok b Ē):∃a p,m.Ĉ e= .ok a p/\(f a).Ĉ p= .ok b Ē:=by
 have h:(match m.Ĉ e with| .ok a c=>(f a).Ĉ c| .exc k c=>.exc k c| .Û=>.Û)= .ok b Ē:=h;cases d:m.Ĉ e with
 |ok a p=>rw[d] at h;show{a,p,Î,h}
 |exc k p=>rw[d] at h;show oC h
 |Û=>rw[d] at h;show oC h
def CY.each(T:CY g U e t)(s:Â ý):ÀE (e::s) g.Ü=(Å,Àf e g.Ü)::ÀE s g.Ü:=by
 induction T using CY.ď<;>rfl
def Vf(g:Gd)(U:á->Prop):Â ý->EX->Prop
 |[],.å=>True
 |e::s,.Æ t l=>CY g U e t/\DQ g U s l
 |_,_=>Ī
def DQ.inv(T:DQ g U e l):Vf g U e l:=by
 cases T with
 |å=>trivial
 |Æ a b=>show{a,b}
def DQ.each(T:DQ g U s l):ÀE s g.Ü=s.Ö λt=>(Å,Àf t g.Ü):=by
 induction s generalizing l with
 |å=>rfl
 |Æ e s i=>
  cases l with
  |å=>show T.inv.ç
  |Æ=>rw[v7,<-i T.inv.2,T.inv.1.each]
def DQ.star(T:DQ g U e l):(ÀE e g.Ü).findIdx? (·.1)=Ã:=by
 rw[T.each];simp
def EX.sJ(T:DQ g U s l):(EX.put l ds ρ).Ĉ p= .ok ρ' p'->s.Á=ds.Á:=by
 induction s generalizing l ds ρ p with
 |å=>
  cases l with
  |å=>
   cases ds using i2 with
   |å=>show λ_=>rfl
   |Æ=>show λh=>bf h
  |Æ=>show T.inv.ç
 |Æ e s i=>
  cases l with
  |å=>show T.inv.ç
  |Æ t l=>
   cases ds using i2 with
   |å=>show λh=>bf h
   |Æ d ds=>
    intro h;show aD (aA h) λb c _ a=>â Ï.ś (i T.inv.2 a)
def HX(g:Gd)(U:á->Prop)(E:Í->Ô->Prop)(e:ý)(t:Tg):Prop:=∀{ρ ρ':Aa} {p Ē:AK} {s:Ô} {v:Í} {d:D} {Q:ÂF->Ô->Prop},Č g ρ p s.Ì->VR s.Ì g.X v d->(t.put d ρ).Ĉ p= .ok ρ' Ē->
  (∀h' tk,Ev g.Z U s.Ì h'->Č g ρ' Ē h'->Q () {s with Ì:=h',Ā:=tk})->è g.cx.M g.A (Àf e g.Ü v) Q E s
def Jf(g:Gd)(U:á->Prop)(E:Í->Ô->Prop)(e:Â ý)(l:EX):Prop:=∀{ρ ρ':Aa} {p Ē:AK} {s:Ô} {vs:Â Í} {ds:Â D} {Q:ÂF->Ô->Prop},Č g ρ p s.Ì->Am s.Ì g.X vs ds->(l.put ds ρ).Ĉ p= .ok ρ' Ē->
  (∀h' tk,Ev g.Z U s.Ì h'->Č g ρ' Ē h'->Q () {s with Ì:=h',Ā:=tk})->è g.cx.M g.A (ÁA (e.Ö ((λx=>x.2)∘ λt=>(Å,Àf t g.Ü))) vs) Q E s
section
variable(hY:∀b,g.Y b->U b)
include hY
def sL(a:g.nm[i]? =À x)(hk:g.Ü.ð x=À .local):HX g U E (.ċ x ă) (.Ě i):=λI r p h=>by
 obtain⟨Î,Î⟩:=bH p;show W1 (br (sl:=.ê _) I a hk r fT λc t e d=>h c t (e.mono (λ_ _ _ z=>z) λb _ _ y=>hY b y) d)
def sM(T:DQ g U i l)(n:Jf g U E i l):HX g U E (.Ů i k ă) (.tup l):=by
 intro q u w x s v d Q I r p h;have o:∀{f:Â Í} {j:Â D},Am s.Ì g.X f j->(EX.put l j q).Ĉ w= .ok u x->(ÀE i g.Ü).Á=f.ó.Ú/\∀m,YA s.Ì.ã.Ú s.Ì m->è g.cx.M g.A (ÁA ((ÀE i g.Ü).Ö (·.2)) f) Q E {s with Ì:=m}:=λc p=>by
  show{by rw[T.each,a2,kt,c.Á,EX.sJ T p],λm B=>aj (I.ŉ B) λe C=>?_};rw[T.each,lf];show n C (c.on I e) p λG H J L=>h G H ((e.mono (λ_ _ _ z=>z) λb _ _ y=>hY b y).Ð J) L
 cases d using ap with
 |Ç j=>
  obtain⟨a,f,Î,t,c⟩:=r.bO;show assign_Tuple_tuple I.Âf t (o c p).1 T.star (o c p).2
 |É j=>
  show cb r.aU λa f N _ t c=>?_;subst N;show eF I.Âf t (o c p).1 T.star (o c p).2
 |_=>show bf p
end
def sN(a:g.nm[i]? =À x)(hk:g.Ü.ð x=À .Ĭ)(d:(x==("__classdict__"))=Å)(c:∀b,g.W b->U b):HX g U E (.ċ x ă) (.Ě i):=λI r p h=>by
 obtain⟨Î,Î⟩:=bH p;show W1 (fS (sl:=.ê _) I a hk d r fT λf t e j=>h f t (e.mono (λ_ _ _ z=>z) λb _ _ y=>c b y) j)
def sO:Jf g U E [] .å:=by
 intro a b e n s v d Q I r p h;clear r;cases d using i2 with
 |å=>
  obtain⟨Î,Î⟩:=bH p;show assignInOrder_nil (h s.Ì s.Ā (Ev.ť _ _ _) I)
 |Æ=>show bf p
def qv(i:∀b,U b->g.X b)(a:HX g U E e t)(b:Jf g U E j l):Jf g U E (e::j) (.Æ t l):=by
 intro x y z A s c f Q I r p h;cases f using i2 with
 |å=>show bf p
 |Æ d f=>
  cases c using i2 with
  |å=>show r.gV.ç
  |Æ v c=>
   show aD (aA p) λB C k m=>assignInOrder_cons (a I r.inv.1 k λG H e n=>b n (r.inv.2.ev e I.zx i) m λo q u w=>h o q (e.Ð u) w)
def cL(h:∀b,g.Y b->U b)(c:∀b,U b->g.X b)(T:CY g U e t):HX g U E e t:=
 CY.rec (ÁO:=λe t _=>HX g U E e t) (sL h) sN (sM h) sO (λ_ _ a b=>qv c a b) T
end
end
section
def Cp(Ü:Env):Â (Þ×R6)->Â (Þ×á)->Â (Þ×á)
 |[],ę=>ę
 |(n,k)::r,ę=>Cp Ü r (if k== .ÁT then(n,(Ü.ō.ö n).ø 0)::ę else ę)
def hh(h:∀x,(x,Ŵ.ÁT)∈s.î->∃c,Ü.ō.ö x=À c):closureFor s Ü=Ñ (Cp Ü s.î []):=by
 exists s Ü,h;exists s Ü,h;exists s Ü,h;have y:∀(e:Â (Þ×R6)) (b:Â (Þ×á)),(∀x,(x,Ŵ.ÁT)∈e->∃c,Ü.ō.ö x=À c)->
   (forIn e b λ(x:Þ×R6) (r:Â (Þ×á))=>(if(x.2==Ŵ.ÁT)=Ä then do let a<-ÂM Ü x.1;Ñ (ÀU.yield ((x.1,a)::r)) else Ñ (ÀU.yield r)))=Ñ (Cp Ü e b):=by
  intro e;exists e,no;induction e with
  |å=>intro b _;rfl
  |Æ a r i=>
   intro b h;obtain⟨n,k⟩:=a;exists r b n k,i h;rw[Â.forIn_cons];by_cases f:k= .ÁT
   ·subst f;show ao (h n (.Ď _)) λc g=>?_;have l:ÂM Ü n=Ñ c:=by unfold ÂM;rw[g]
    simp only[beq_self_eq_true,Âs,l,pure_bind];rw[i _ λx d=>h x (.ě _ d)];rw[show Cp Ü ((n,.ÁT)::r) b=Cp Ü r ((n,(Ü.ō.ö n).ø 0)::b) from rfl,g];rfl
   ·have j:(k==Ŵ.ÁT)=Å:=by simpa using f
    simp only[j,S6,ÁR,pure_bind];rw[i _ λx d=>h x (.ě _ d)];rw[show Cp Ü ((n,k)::r) b=Cp Ü r (if k== .ÁT then(n,(Ü.ō.ö n).ø 0)::b else b) from rfl,j];rfl
 show Eq.Ð ?_ (â (λm=>m>>= λr=>(Ñ r:Sem _)) (y s.î [] h)|>.Ð (by rfl));rfl
def qw{î:Â (Þ×R6)}{ę:Â (Þ×á)}{x:Þ}{c:á}(h:(x,c)∈Cp Ü î ę):(x,c)∈ę\/((x,Ŵ.ÁT)∈î/\(Ü.ō.ö x).ø 0=c):=by
 induction î generalizing ę with
 |å=>show .Ę h
 |Æ p r i=>
  obtain⟨n,k⟩:=p;rcases i h with q|⟨q,e⟩
  ·by_cases a:k= .ÁT
   ·subst a;rcases a5.mp q with e|q
    ·clear h;cases e;show .Ġ {.Ď _,Î}
    ·show .Ę q
   ·rw[ß (by simpa using a)] at q;show .Ę q
  ·show .Ġ {.ě _ q,e}
def qx{î:Â (Þ×R6)}{ę:Â (Þ×á)}{p:Þ×á}(h:p∈ę):p∈Cp Ü î ę:=by
 induction î generalizing ę with
 |å=>show h
 |Æ a r i=>
  obtain⟨n,k⟩:=a;show i (ę:=if k== .ÁT then(n,(Ü.ō.ö n).ø 0)::ę else ę) ?_;split
  ·show .ě _ h
  ·show h
def qy{Ü:Env}{î:Â (Þ×R6)}{ę:Â (Þ×á)}{x:Þ}(h:(x,Ŵ.ÁT)∈î):(x,(Ü.ō.ö x).ø 0)∈Cp Ü î ę:=by
 induction î generalizing ę with
 |å=>show nM h
 |Æ p r i=>
  obtain⟨n,k⟩:=p;rcases a5.mp h with e|h
  ·clear h;cases e;show qx (ę:=(x,_)::ę) (.Ď _)
  ·show i h
def eH{î:Â (Þ×R6)}:∀{ę:Â (Þ×á)},(î.Ö (·.1)).Ŀ->(ę.Ö (·.1)).Ŀ->(∀p∈ę,p.1∉î.Ö (·.1))->((Cp Ü î ę).Ö (·.1)).Ŀ:=by
 exists Ü î,no;induction î with
 |å=>show λ_ h _=>h
 |Æ p r i=>
  intro ę b c d;obtain⟨n,k⟩:=p;exists r ę n k,i c b d;rw[v7,A4] at b;show i (ę:=if k== .ÁT then(n,(Ü.ō.ö n).ø 0)::ę else ę) b.2 ?_ ?_
  ·split
   ·rw[v7,A4];show{λq=>(ag (i1.mp q) λp a e=>(d p a (by rw[e];show .Ď _))),c}
   ·show c
  ·intro p a;split at a
   ·rcases a5.mp a with rfl|a
    ·show b.1
    ·show λq=>d p a (.ě _ q)
   ·show λq=>d p a (.ě _ q)
def dJ{l:Â (Þ×á)}(d:(l.Ö (·.1)).Ŀ){x:Þ}{c:á}(h:(x,c)∈l):l.ö x=À c:=by
 exists l x c,d h;induction l with
 |å=>cases h
 |Æ a r i=>
  obtain⟨n,b⟩:=a;exists r n b,i d h;rw[v7,A4] at d;rw[Gc];rcases a5.mp h with e|q
  ·clear h;cases e;simp
  ·have f:(x==n)=Å:=by
    rw[Ű];intro e;show d.1 (i1.ĝ {(x,c),q,e})
   rw[f];show i d.2 q
def cp(x:Þ):(relabel s Ü).î.ö x=(s.î.ö x).Ö λk=>if(k== .ÁT&&Ü.İ.ĕ== .Ĥ&&Ü.ð x==À .Ĭ) then .Ĭ else k:=by
 exists s Ü x,no;exists s Ü x,no;exists s Ü x,no;unfold relabel;induction s.î with
 |å=>rfl
 |Æ a r i=>
  obtain⟨n,k⟩:=a;exists r n k,i;rw[v7,Gc];by_cases h:(k==Ŵ.ÁT&&Ü.İ.ĕ== .Ĥ&&Ü.ð n==À .Ĭ)=Ä
  ·rw[à h,Gc];dsimp only;cases b:x==n with
   |Ä=>
    have:=by simpa using b
    clear b;subst this;simp only[V6,h,Âs]
   |Å=>show i
  ·rw[ß h,Gc];dsimp only;cases b:x==n with
   |Ä=>
    have:=by simpa using b
    clear b;subst this;rw[V6,ß h]
   |Å=>show i
structure ÂA(g:Gd)(t:ý)(I:á)(f wr:Â á)(ds:Â D)(vs:Â Í)(e:Â D)(P c:Ï->Í->ì->Prop)(St:Ï->ì->Prop):Prop where
 W:∃j,KTurns g.cx.ú g.cx.w g.A t I j wr ds.Á P c St
 Ž:∀b∈wr,b∈f
 GN:∀(Z U:á->Prop) i a b,Ev Z U a b->(∀x∈f,¬U x/\¬Z x)->St i a->St i b
 Dt:∀i h,St i h->∀b∈wr,RecAt h b
 Og:∀i v h,c i v h->∀b∈wr,RecAt h b
 wb:∀b∈wr,g.cx.ÿ.Ò b=Ã
 wx:∀b∈wr,¬g.X b
 self:∀(s:Ô) (Q:Í->Ô->Prop) (E:Í->Ô->Prop),St 0 s.Ì->Q (.ò I) s->è g.cx.M g.A (Âh (.ò I)) Q E s
 read:∀X i v h,i<ds.Á->P i v h->Am h X vs e->∃d,ds[i]? =À d/\VR h X v d
def Kw(wr:Â á)(h h':ì):Prop:=∀b o,b∉wr->h.Ò b=À o->h'.Ò b=À o
def Kw.Ð(a:Kw wr h d)(b:Kw wr d f):Kw wr h f:=λx o c e=>b x o c (a x o c e)
def Kw.qA(k:Kw wr h h')(f:∀b∈wr,RecAt h b):LF h h':=λb o e c=>k b o (λg=>by
 show aD (f b g) λi s a d=>?_;rw[e] at a;(have z:=al a;clear a;subst z);show c s d.1) e
def Kw.ev{Z U:á->Prop}(k:Kw wr a b)(f:∀b∈wr,RecAt a b)(g:∀b∈wr,U b):Ev Z U a b:=λx o e q=>by
 show .Ę (k x o (λh=>?_) e);rcases q with q|⟨_,v,n,q⟩
 ·show q (g x h)
 ·show aD (f x h) λi s c d=>?_;rw[e] at c;(have z:=al c;clear c;subst z);show dC (q.symm.Ð d.1)
def Č.kw{p:AK}(I:Č g ρ p h)(k:Kw wr h h')(f:∀b∈wr,RecAt h b)(c:∀b∈wr,g.cx.ÿ.Ò b=Ã)(w:∀b∈wr,¬g.X b):Č g ρ p h':=
 I.ÂL (k.qA f) (λb o e=>k b o (λa=>by rw[c b a] at e;show nS e) (I.ĩ b o e)) (λb a=>let⟨o,e⟩:=I.xs b a;{o,k b o (λi=>w b i a) e})
  (I.ũ.ÁX (k.ev (Z:=λ_=>Ī) f λ_=>id) (λb q e u=>w b u (I.ũ b q e).1) (λb o s e d _ u=>aD (f b u) λ_ _ j q=>by cases e.symm.Ð j;cases d.symm.Ð q.1;show q.2) (λ_ _ _ x=>x) λb q e=>(I.ũ b q e).1)
section
variable{g:Gd}{target:Expr}{I:Addr}{fp wr:List Addr}{ds:List D}{vs:List Value}{es:List D}{P Md:Nat->Value->Heap->Prop}{St:Nat->Heap->Prop}{E:Value->Shared->Prop}
def ÂA.to(S:ÂA g target I fp wr ds vs es P Md St)(h:g'.cx=g.cx)(a:g'.A=g.A)(wx:∀b∈wr,¬g'.X b):ÂA g' target I fp wr ds vs es P Md St where
 W:=by rw[h,a];show S.W
 Ž:=S.Ž
 GN:=S.GN
 Dt:=S.Dt
 Og:=S.Og
 wb:=by rw[h];show S.wb
 wx:=wx
 self:=by rw[h,a];show S.self
 read:=S.read
def ÂA.next(S:ÂA g target I fp wr ds vs es P Md St)(J:Č g ρ p s.Ì)(c:i<ds.Á)(st:St i s.Ì)(r:Am s.Ì g.X vs es)
  (h:∀v d a tk,ds[i]? =À d->Kw wr s.Ì a->(∀(b:ÂF->Ô->Prop) (e:Í->Ô->Prop),(∀h',Kw wr s.Ì h'->Č g ρ p h'->VR h' g.X v d->St (i+1) h'->Am h' g.X vs es->b () {s with Ì:=h',Ā:=tk})->
   è g.cx.M g.A (ū target (.ò I) v) b e {s with Ì:=a,Ā:=tk})->Q (À v) {s with Ì:=a,Ā:=tk}):
  è g.cx.M g.A (Áw (.ò I)) Q E s:=by
 show ao S.W λw W=>W.item i s Q E c st λv a tk m k=>?_;obtain⟨d,l⟩:∃d,ds[i]? =À d:={ds[i],by simp[c]};show h v d a tk l k λb e o=>W.go i v {s with Ì:=a,Ā:=tk} b e m λh' q t f=>?_;have n:=(r.ÂL (Kw.qA k (S.Dt i _ st))).ÂL (Kw.qA f (S.Og i v _ m));show ag (S.read _ i v h' c q n) λx j u=>?_;rw[l] at j;(have z:=al j;clear j;subst z);show o h' (Kw.Ð k f) ((J.kw k (S.Dt i _ st) S.wb S.wx).kw f (S.Og i v _ m) S.wb S.wx) u t n
def ÂA.end(S:ÂA g target I fp wr ds vs es P Md St)(J:Č g ρ p s.Ì)(st:St ds.Á s.Ì)
  (h:∀h' tk,Kw wr s.Ì h'->Č g ρ p h'->LF s.Ì h'->Q Ã {s with Ì:=h',Ā:=tk}):è g.cx.M g.A (Áw (.ò I)) Q E s:=
 let⟨f,W⟩:=S.W;W.done s Q E st λh' tk k=>h h' tk k (J.kw k (S.Dt _ _ st) S.wb S.wx) (Kw.qA k (S.Dt _ _ st))
end
end
section
def Č.turned{g:Gd}{ρ:Aa}{p:AK}{h h':ì}{a:á}{o:Obj}(I:Č g ρ p h)(s:ut a h h')(k:h.Ò a=À o)(u:∀v,o.ë≠ .Ĭ v)(l:g.X a)(w:¬g.Z a)(f:¬g.Y a)
  (y:∀i sl,ρ.ĵ i=À sl->sl.Bm=Ä->g.ĉ i≠a)(T:¬FX o)(A:∃o,h'.Ò a=À o):Ev g.Z (λb=>b=a) h h'/\Č g ρ p h':=by
 have E:Ev g.Z (λb=>b=a) h h':=Ev.Âl s Î λn e=>by rw[k] at e;(have j:=al e;clear e;subst j);show T
 have x:∀b,b=a->g.X b:=λb q=>q▸l;have t:∀(c:á) (v:Ë Í),h.Ŝ c v->h'.Ŝ c v:=λc v ⟨n,e,d⟩=>{n,(s.2 c (λq=>by subst q;rw[k] at e;(have j:=al e;clear e;subst j);show u _ d)).Ð e,d};show{E,I.pre (X':=g.X) (Nq.Âl I s E l w A f λc v q=>{v,t c v q}) (I.Az.ev E I.zx x (λb q e=>f (.Ę (.Ę (e▸q))))) (DB.Ö I.Ż (λm q=>q.Áe s (λq=>f (.Ę (.Ġ q.symm)))) t λi sl v e r=>AS.ev E I.zx x (λq z=>y i sl e q z) r) I.uniq}
end
section
section
variable{prog:Ok}{w:World}{A:KB}{E:Value->Shared->Prop}{R:Z2->Shared->Prop}{s:Shared}
def dK(I:Ï->Ô->Prop)
  (turn:∀n s,I n s->è (ć ú w) A (Áw it) (λr d=>match r with
   |Ã=>R (.ok .next) d
   |À v=>è (ć ú w) A (ū t it v) (λ_ g=>è (ć ú w) A (Àf t Ü v) (λ_ i=>
     è (ć ú w) A (forIn j Ä λc r=>if r=Ä then do let o<-ÂK c Ü (ŗ c Ü);Ñ (ÀU.yield o) else Ñ (ÀU.yield r)) (λo f=>
      if o=Ä then è (ć ú w) A (ŗ l Ü) (λx k=>
       è (ć ú w) A (ň (.ė "list.append") [ę,x]) (λ_ p=>∃m,m<n/\I m p) (ĸ (ć ú w) A Ü λe a=>R (.ŵ e) a) k) (ĸ (ć ú w) A Ü λe a=>R (.ŵ e) a) f
      else ∃m,m<n/\I m f) (ĸ (ć ú w) A Ü λe a=>R (.ŵ e) a) i) (ĸ (ć ú w) A Ü λe a=>R (.ŵ e) a) g)
     (ĸ (ć ú w) A Ü λe a=>R (.ŵ e) a) d) (ĸ (ć ú w) A Ü λe a=>R (.ŵ e) a) s)
  (n:Ï)(h:I n s):
  ſ (ć ú w) A (.Ŷ (.Į l [{t,Ļ,j,0}] z ă) 0 it ę Ü) R s:=by
 exists ú w A R s l t Ļ j z ă it ę Ü I n,turn h;show Zo Î I (λn s q=>?_) n h;exists n s,q;show ZN ?_;rw[compTurn_list];show È (ġ (È (ą (turn n s q) (λr d u=>?_) λ_ _ b=>b)));cases r using i7 with
 |Ã=>show Õ u
 |À v=>
  show È (ą u (λ_ g B=>(È (ą B (λ_ i C=>È (ą C (λo f y=>?_) λ_ _ b=>b)) λ_ _ b=>b))) λ_ _ b=>b);cases o using ci with
  |Å=>show Õ {Î,y}
  |Ä=>
   show È (È (ą y (λx k G=>È (ą G (λ_ p H=>Õ (Õ {Î,H})) λ_ _ b=>b)) λ_ _ b=>b))
end
def PC(M:Model)(e:ý)(p:Ï)(t:ý)(i:Â ý)(l:ý):Prop:=∀(A:KB) (R:Z2->Ô->Prop) (s:Ô) (it ę:Í) (Ü:Env) (I:Ï->Ô->Prop)
  (u:∀n s,I n s->è M A (Áw it) (λr b=>match r with
   |Ã=>R (.ok .next) b
   |À v=>è M A (ū t it v) (λ_ f=>è M A (Àf t Ü v) (λ_ g=>
     è M A (forIn i Ä λc r=>if r=Ä then do let o<-ÂK c Ü (ŗ c Ü);Ñ (ÀU.yield o) else Ñ (ÀU.yield r)) (λo d=>
      if o=Ä then è M A (ŗ l Ü) (λx h=>
       è M A (ň (.ė "list.append") [ę,x]) (λ_ j=>∃m,m<n/\I m j) (ĸ M A Ü λe a=>R (.ŵ e) a) h) (ĸ M A Ü λe a=>R (.ŵ e) a) d
      else ∃m,m<n/\I m d) (ĸ M A Ü λe a=>R (.ŵ e) a) g) (ĸ M A Ü λe a=>R (.ŵ e) a) f)
     (ĸ M A Ü λe a=>R (.ŵ e) a) b) (ĸ M A Ü λe a=>R (.ŵ e) a) s)
  (n:Ï) (k:I n s),ſ M A (.Ŷ e p it ę Ü) R s
def qB(ú:Ok)(w:World)(e t Ļ:ý)(i:Â ý)(c:Ŗ)(ă:Pos):PC (ć ú w) (.Į e [{t,Ļ,i,0}] c ă) 0 t i e:=
 λA R s a b v I turn n h=>dK I turn n h
def Bh{α:Type}(m:M α):M α:={λp=>match m.Ĉ p with| .ok a p'=>.ok a p'|_=>.Û}
def GS:Ë (Aa->M D)->Aa->M é
 |Ã,_=>Ñ Ä
 |À f,ρ=>f ρ>>=Aw
def Dx(f:Aa->M D)(c:Ë (Aa->M D))(t:Tg):Â D->Aa->M (Â D)
 |[],_=>Ñ []
 |d::ds,ρ=>t.put d ρ>>= λρ'=>GS c ρ'>>= λb=>if b then f ρ'>>= λx=>Dx f c t ds ρ'>>= λxs=>Ñ (x::xs) else Dx f c t ds ρ'
inductive Ge(g:Gd):Â ý->Ë (Aa->M D)->Prop
 |Ã:Ge g [] Ã
 |one {e f}:DV g e f->Ge g [e] (À f)
section
variable{g:Gd}{E:Value->Shared->Prop}
def Ak.ok{e:ý}{f:Aa->M D}(h:Ak g e f){ρ:Aa}{p Ē:AK}{s:Ô}{d:D}{Q:Í->Ô->Prop}(I:Č g ρ p s.Ì)(r:(f ρ).Ĉ p= .ok d Ē)
  (a:∀v h' tk,Ev g.Z g.Y s.Ì h'->Č g ρ Ē h'->VR h' g.X v d->Q v {s with Ì:=h',Ā:=tk}):è g.cx.M g.A (ŗ e g.Ü) Q E s:=
 h ρ p s Q E I (by rw[r];show a)
def Ge.ok{i:Â ý}{c:Ë (Aa->M D)}(h:Ge g i c){ρ:Aa}{p Ē:AK}{s:Ô}{b:é}{Q:é->Ô->Prop}(I:Č g ρ p s.Ì)(a:(GS c ρ).Ĉ p= .ok b Ē)
  (d:∀h' tk,Ev g.Z g.Y s.Ì h'->Č g ρ Ē h'->Q b {s with Ì:=h',Ā:=tk}):
  è g.cx.M g.A (forIn i Ä λc r=>if r=Ä then do let o<-ÂK c g.Ü (ŗ c g.Ü);Ñ (ÀU.yield o) else Ñ (ÀU.yield r)) Q E s:=by
 exists g E i c ρ p Ē s b Q,h I a d;cases h with
 |Ã=>
  cases a;show wpAny_tests_nil (d s.Ì s.Ā (Ev.ť _ _ _) I)
 |one h=>
  show wpAny_tests_one (h ρ p s _ Q E I ?_ rfl);simp only[GS] at a;rw[a];clear a;rintro v h' tk e f Î;show d h' tk e f
def eI(e:Ev Z U a b)(h:¬U l)(hz:¬Z l)(x:a.Ĳ l i):b.Ĳ l i:=let⟨o,c,r⟩:=x;{o,e.cH c h hz,r}
inductive Vg(g:Gd)(ę:á)(wr:Â á)(ds:Â D)(vs:Â Í)(e:Â D)(St:Ï->ì->Prop)(t:Tg)(f:Aa->M D)(c:Ë (Aa->M D))(s:Ô)(Ē:AK)(xs:Â D)(n:Ï)(K:Aa->Prop):Ï->Ô->Prop
 |mk (h' tk a p i y done r):K a->Č g a p h'->St i h'->Am h' g.X vs e->h'.Ĳ ę (FM y)->Am h' g.X y done->(Dx f c t (ds.Ń i) a).Ĉ p= .ok r Ē->xs=done++r->i<=ds.Á->y.Á<=n+i->
   Ev g.Z (λb=>g.Y b\/b∈wr\/b=ę) s.Ì h'->Vg g ę wr ds vs e St t f c s Ē xs n K (ds.Á+1 -i) {s with Ì:=h',Ā:=tk}
def fU{e:ý}{e8:Ï}{e9 L:ý}{f6:Â ý}{I ę:á}{N wr:Â á}{ds:Â D}{vs:Â Í}{O:Â D}{P Md:Ï->Í->ì->Prop}{St:Ï->ì->Prop}
  {u:Tg}{f:Aa->M D}{c:Ë (Aa->M D)}{R:Z2->Ô->Prop}{s:Ô}{ρ:Aa}{Q Ē:AK}{xs V done₀:Â D}{ys₀:Â Í}(K:Aa->Prop)(hK:∀ρ d ρ' p p',K ρ->(u.put d ρ).Ĉ p= .ok ρ' p'->K ρ')(l8:K ρ)(l9:PC g.cx.M e e8 L f6 e9)
  (S:ÂA g L I N wr ds vs O P Md St)(T:CY g g.Y L u)(hE:Ak g e9 f)(hC:Ge g f6 c)
  (f7:∀b∈N,¬g.Y b/\¬g.Z b)(ha:ę∉N)(aX:g.X ę)(aZ:¬g.Z ę)(aY:¬g.Y ę)(m6:∀ρ' Ē h',Č g ρ' Ē h'->∀i sl,ρ'.ĵ i=À sl->sl.Bm=Ä->g.ĉ i≠ę)
  (J:Č g ρ Q s.Ì)(st:St 0 s.Ì)(r:Am s.Ì g.X vs O)(hl:s.Ì.Ĳ ę (FM ys₀))(m8:Am s.Ì g.X ys₀ done₀)(hr:(Dx f c u ds ρ).Ĉ Q= .ok V Ē)(o0:xs=done₀++V)(hn:ys₀.Á+ds.Á<=100000)
  (hR:∀h' tk ρ' j,K ρ'->Č g ρ' Ē h'->h'.Ĳ ę (FM j)->Am h' g.X j xs->Ev g.Z (λb=>g.Y b\/b∈wr\/b=ę) s.Ì h'->R (.ok .next) {s with Ì:=h',Ā:=tk}):
  ſ g.cx.M g.A (.Ŷ e e8 (.ò I) (.ò ę) g.Ü) R s:=by
 exists g e e8 e9 L f6 I ę N wr ds vs O P Md St u f c R s ρ Q Ē xs V done₀ ys₀ K,hK l8 l9 S T hE hC f7 ha aX aZ aY m6 J st r hl m8 hr o0 hn hR;have o6:ę∉wr:=λq=>ha (S.Ž _ q);show l9 _ _ _ _ _ _ (Vg g ę wr ds vs O St u f c s Ē xs ys₀.Á K) ?_ (ds.Á+1) (.mk s.Ì s.Ā ρ Q 0 ys₀ done₀ V l8 J st r hl m8 (by simpa using hr) o0 (j0 _) (a3 _) (Ev.ť _ _ _));rintro k s' ⟨H,tk,o7,w2,i,j,done,o8,j5,j6,t,o9,j7,j8,h,m,hi,w,k6⟩;exists H tk o7 w2 i j done o8,j5 j6 t o9 j7 j8 h m hi w k6;have q8:∀{a b:ì},Kw wr a b->(∀b∈wr,RecAt a b)->Ev g.Z (λb=>g.Y b\/b∈wr\/b=ę) a b:=λk f=>k.ev f λb hb=>.Ġ (.Ę hb);have q9:∀{a b:ì},Ev g.Z g.Y a b->Ev g.Z (λb=>g.Y b\/b∈wr\/b=ę) a b:=λe=>e.mono (λ_ _ _ z=>z) λ_ _ _ y=>.Ę y;by_cases l:i<ds.Á
 ·have hd:ds.Ń i=ds[i]::ds.Ń (i+1):=IR l;rw[hd] at h;show aD (aA h) λs0 B6 s8 h=>aD (aA h) λb w6 t4 h=>?_;have t7:=hK _ _ _ _ _ j5 s8;show S.next j6 l t o9 λv d B7 B8 k7 B9 go=>?_
  have:d=ds[i]:=by rw[ch l] at k7;show(al k7).symm
  clear k7;subst this;show go _ _ λk8 k9 d7 rv w9 x7=>cL (U:=g.Y) (λ_ y=>y) d7.yx T d7 rv s8 λC0 C1 x8 x9=>hC.ok x9 t4 λt8 y0 z0 d8=>?_;have B:Ev g.Z g.Y k8 t8:=x8.Ð z0;have t9:∀{a b:ì},Ev g.Z g.Y a b->St (i+1) a->St (i+1) b:=λe x=>S.GN _ _ _ _ _ e f7 x;have u1:=t9 B w9;have u2:=x7.on d7 B;have u3:∀{a b:ì} {u4:Ŕ Í},Ev g.Z g.Y a b->a.Ĳ ę u4->b.Ĳ ę u4:=λe x=>eI e aY aZ x;have z3:k8.Ĳ ę (FM j):=let⟨o,C,q⟩:=j7;{o,k9 ę o o6 C,q};have u5:=u3 B z3;have z4:Am k8 g.X j done:=j8.ÂL (k9.qA (S.Dt i _ t));have u7:=z4.on d7 B;have u8:=(k6.Ð (q8 k9 (S.Dt i _ t))).Ð (q9 B);clear t4;cases b using ci with
  |Å=>
   rw[ß (by simp)] at h⊢;show{ds.Á+1 -(i+1),NE (AC l) (p1 i),.mk t8 y0 s0 w6 (i+1) j done o8 t7 d8 u1 u2 u5 u7 h m l (ln1 w) u8}
  |Ä=>
   rw[à Î] at h⊢;show aD (aA h) λx z5 z6 h=>aD (aA h) λz7 C2 z8 h=>?_;cases h;show hE.ok d8 z6 λy z9 u9 G d9 rx=>?_;have v0:=u3 G u5;show wpAny_list_append (s:={s with Ì:=z9,Ā:=u9}) v0 (λA5 v4 A6=>?_) (aH (by simp;show ln3 l w hn));show au v0 λo C hc A8=>ao A8 λn A9=>aj (d9.turned A6 C (λv q=>by rw[A9] at q;show dC q) aX aZ aY (m6 _ _ _ d9) (λ⟨q,_⟩=>by rw[hc] at q;show absurd (Í.Ċ.inj q) _0) (let⟨o,e,_⟩:=v4;{o,e})) λe7 B1=>?_;have ax:∀b,b=ę->g.X b:=λb q=>q▸aX;show{ds.Á+1 -(i+1),NE (AC l) (p1 i),.mk A5 u9 s0 z5 (i+1) (j++[y]) (done++[x]) z7 t7 B1 ?_ ((u2.on d8 G).ev e7 d9.zx ax) (by simpa using v4) ?_ z8 (by rw[m];simp) l (by simp;show ln1 w) ?_}
   ·show S.GN _ _ _ _ _ e7 (λx m=>{λq=>ha (q▸m),(f7 x m).2}) (t9 G u1)
   ·show(Am.ÁE (u7.on d8 G) (.Æ rx .å)).ev e7 d9.zx ax
   ·show(u8.Ð (q9 G)).Ð (e7.mono (λ_ _ _ z=>z) λ_ _ _ q=>.Ġ (.Ġ q))
 ·have B2:i=ds.Á:=Q2 hi (i8.mp l);clear hi w l;subst B2;rw[X8] at h;obtain⟨Î,Î⟩:=bH h;show S.end j6 t λh' B3 kw I' Rw=>hR h' B3 o7 j j5 I' (let⟨o,C,q⟩:=j7;{o,kw ę o o6 C,q}) ?_ (k6.Ð (q8 kw (S.Dt _ _ t)));rw[m,wf];show j8.ÂL Rw
def nh{e t Ļ:ý}{a:Â ý}{o:Ŗ}{ă:Pos}{I ę:á}{p wr:Â á}{ds:Â D}{vs:Â Í}{d:Â D}{P j:Ï->Í->ì->Prop}{St:Ï->ì->Prop}
  {h:Tg}{f:Aa->M D}{c:Ë (Aa->M D)}{R:Z2->Ô->Prop}{s:Ô}{ρ:Aa}{n Ē:AK}{xs:Â D}
  (S:ÂA g t I p wr ds vs d P j St)(T:CY g g.Y t h)(k:Ak g e f)(C:Ge g a c)
  (l:∀b∈p,¬g.Y b/\¬g.Z b)(m:ę∉p)(q:g.X ę)(u:¬g.Z ę)(v:¬g.Y ę)(w:∀ρ' Ē h',Č g ρ' Ē h'->∀i sl,ρ'.ĵ i=À sl->sl.Bm=Ä->g.ĉ i≠ę)
  (J:Č g ρ n s.Ì)(st:St 0 s.Ì)(r:Am s.Ì g.X vs d)(x:s.Ì.Ĳ ę #[])(z:(Dx f c h ds ρ).Ĉ n= .ok xs Ē)(B:ds.Á<=100000)
  (G:∀h' tk ρ' y,Č g ρ' Ē h'->h'.Ĳ ę (FM y)->Am h' g.X y xs->Ev g.Z (λb=>g.Y b\/b∈wr\/b=ę) s.Ì h'->R (.ok .next) {s with Ì:=h',Ā:=tk}):
  ſ g.cx.M g.A (.Ŷ (.Į e [{t,Ļ,a,0}] o ă) 0 (.ò I) (.ò ę) g.Ü) R s:=
 fU (ys₀:=[]) (done₀:=[]) (λ_=>True) (λ_ _ _ _ _ _ _=>trivial) trivial (qB _ _ _ _ _ _ _ _) S T k C l m q u v w J st r x Am.å z Î (by simpa using B) λh' tk ρ' y _=>G h' tk ρ' y
end
end
section
def Oh(ρ:Aa)(i:Ï):Ë Ą:=match ρ.ĵ i with
 |À (.ê d)=>À (.ê d)
 |À .Az=>À .Az
 |_=>Ã
def AA(nt:Ï)(č:Â Ï)(ρ:Aa):Aa:=ln nt Ã++č.Ö (Oh ρ)
noncomputable def Gd.Ĺ(g:Gd)(s:Ŗ)(c:Â (Þ×á))(ę C:á)(nm:Â Þ):Gd:=
 {cx:=g.cx,A:=g.A,d:=g.d,X:=λb=>g.X b\/b=ę\/b=C,Z:=g.Z,Ü:=compEnvC s c C g.Ü,nm:=nm,lo:=g.lo,ĉ:=λ_=>C}
structure BR(g:Gd)(s:Ŗ)(t:Â Þ)(č:Â Ï)(k:Â Þ):Prop where
 ĕ:s.ĕ= .Ĥ
 Àq:(s.î.Ö (·.1)).Ŀ
 Ĭ:∀y∈s.î,y.2≠ .Ĭ
 ÁT:∀x,(x,Ŵ.ÁT)∈s.î->g.Ü.ð x=À .Ĭ/\(x==("__classdict__" :Þ))=Å
 î:(t++k).Ŀ
 ÂE:∀(j i:Ï),č[j]? =À i->∃x:Þ,g.nm[i]? =À x/\k[j]? =À x/\(x,Ŵ.ÁT)∈s.î
set_option tactic.hygienic true in
def bW{nt:Ï}{č:Â Ï}{ρ:Aa}{j:Ï}{sl:Ą}(h:Aa.ĵ (AA nt č ρ) j=À sl):∃b i,j=nt+b/\č[b]? =À i/\ρ.ĵ i=À sl/\((∃d,sl= .ê d)\/sl= .Az):=by
 exists nt č ρ j sl,h;unfold Aa.ĵ AA at h;by_cases a:j<nt
 ·rw[P1 (by simpa using a)] at h;rw[Y6,à a] at h;show nS h
 ·rw[GE (by simpa using a),X1,j1] at h;cases k:č[j -nt]? with
  |Ã=>rw[k] at h;show nS h
  |À i=>
   exists i,k;rw[k] at h;show{j -nt,i,(YT (i8.mp a)).symm,k,?_};simp only[V6,Ë.getD_some] at h;unfold Oh at h;cases e:ρ.ĵ i with
   |Ã=>rw[e] at h;show nS h
   |À q=>
    rw[e] at h;cases q using Ą.ď with
    |ê d=>show al h▸{Î,.Ę {d,Î}}
    |Az=>show al h▸{Î,.Ġ Î}
    |_=>show nS h
def Âi{l:Â (Þ×R6)}(d:(l.Ö (·.1)).Ŀ){x:Þ}{c:R6}(h:(x,c)∈l):l.ö x=À c:=by
 exists l x c,d h;induction l with
 |å=>cases h
 |Æ a r i=>
  obtain⟨n,b⟩:=a;exists r n b,i d h;rw[v7,A4] at d;rw[Gc];rcases a5.mp h with e|q
  ·clear h;cases e;simp
  ·have f:(x==n)=Å:=by
    rw[Ű];intro e;show d.1 (i1.ĝ {(x,c),q,e})
   rw[f];show i d.2 q
section
variable{g:Gd}{ρ:Aa}{V:AK}
def BR.za(B:BR g s t č k)(I:Č g ρ V h):closureFor s g.Ü=Ñ (Cp g.Ü s.î []):=
 hh λx a=>let⟨c,_,e,_⟩:=I.Ĭ x (B.ÁT x a).1;{c,e}
def BR.Áj(B:BR g s t č k)(I:Č g ρ V h)(a:(x,Ŵ.ÁT)∈s.î):(Cp g.Ü s.î []).ö x=g.Ü.ō.ö x:=by
 show aD (I.Ĭ x (B.ÁT x a).1) λc _ e _=>?_;rw[e];show dJ (eH B.Àq _0 (by simp)) ?_;have:=qy (Ü:=g.Ü) (ę:=[]) a;rwa [e] at this
def BR.mem(B:BR g s t č k)(I:Č g ρ V h){x:Þ}(b:(x,c)∈Cp g.Ü s.î []):(x,Ŵ.ÁT)∈s.î/\g.Ü.ō.ö x=À c:=by
 rcases qw b with q|⟨q,e⟩
 ·cases q
 ·show aD (I.Ĭ x (B.ÁT x q).1) λd _ a _=>?_;rw[a] at e;show{q,by rw[a];show â À e}
def dE{l m:Â (Þ×á)}(hk:(l.Ö (·.1)).Ŀ)(d:∀x c,(x,c)∈l->m.ö x=À c)(p:m.ĳ λx y=>x.2≠y.2):l.ĳ λx y=>x.2≠y.2:=by
 induction l with
 |å=>show .å
 |Æ a r j=>
  rw[v7,A4] at hk;show S5.ĝ {λb f e=>?_,j hk.2 λx c h=>d x c (.ě _ h)};have i:=d b.1 b.2 (.ě _ f);rw[<-e] at i;show hk.1 (i1.ĝ {b,f,eB p i (d a.1 a.2 (.Ď _))})
def VR.grow{X X':á->Prop}(r:VR h X v d)(hk:∀b o,h.Ò b=À o->h'.Ò b=À o)(x:∀b o,h.Ò b=À o->X' b->X b):VR h' X' v d:=(r.less x).ev (Z:=λ_=>Ī) (Y:=λ_=>Ī) (.Ĩ hk) (λ_ q=>q.ç) λ_ q=>q.ç
def Č.fC{g g':Gd}{ρ ρ':Aa}{V:AK}{h h':ì}(u:Â Env)(I:Č g ρ V h)(j:g'.cx=g.cx)(hk:∀b o,h.Ò b=À o->h'.Ò b=À o)
  (e1:g'.Ü.İ.ĕ= .Ĥ)(e2:g'.Ü.ÀG=jp)(e3:g'.Ü.Ày=J5)(e4:g'.A.Àe=Ã)(e5:g'.A.ű+g'.d<=950)(e6:g'.A.Àp+3*g'.d<=9000)
  (B:h.ã.Ú<=g'.Ü.æ)(lo:g'.lo<=h.ã.Ú)(xL:g'.X g'.Ü.æ)(C:∀b,g'.X b->g.X b\/h.ã.Ú<=b/\∃o,h'.Ò b=À o)(E:∀b,g.X b->g'.X b)
  (hF:∀f o,g.A.ŕ=À (f::o)->f.Š=g.Ü.Š->f.İ.ĕ= .Ĥ->∃m G,g'.A.ŕ=À (m::G)/\m::G=u++f::o/\m.Š=g'.Ü.Š/\m.İ.ĕ= .Ĥ)
  (H:∀e∈u,e.İ.ĕ= .Ĥ/\∃L,e.Š=À L/\h.ã.Ú<=L/\g'.X L/\∃o s n,h'.Ò L=À o/\o.ë= .ĺ s n)(J:∀b,g'.Z b↔g.Z b\/∃e∈u,e.Š=À b)
  (cs:g'.Ü.ō.ĳ λx y=>x.2≠y.2)(cl:∀x,g'.Ü.ð x=À .Ĭ->∃c v,g'.Ü.ō.ö x=À c/\h'.Ŝ c v/\g'.X c/\g'.lo<=c)(nd:g'.nm.Ŀ)
  (j3:(∀{v d},VR h g.X v d->VR h' g'.X v d)->DB g' ρ' h')(U:Ga g' ρ'):Č g' ρ' V h':=by
 exists g g' ρ ρ' V h h' u,I j hk e1 e2 e3 e4 e5 e6 B lo xL C E hF H J cs cl nd j3 U;have N:∀{b o},h.Ò b=À o->¬h.ã.Ú<=b:=λe=>Ï.not_le.ĝ (g3 e);have O:∀b o,h.Ò b=À o->g'.X b->g.X b:=λb o e x=>(C b x).Ŏ λq=>N e q.1;have bn:∀{b},h.ã.Ú<=b->g'.cx.ÿ.Ò b=Ã:=λ{b} q=>by
  rw[j];cases z:g.cx.ÿ.Ò b with
  |Ã=>rfl
  |À o=>show absurd q (N (I.ĩ _ o z))
 have j6:g.cx.ÿ.ã.Ú<=h.ã.Ú:=ao (I.xs _ I.lx) λo e=>ac I.HV (i5 (g3 e));show⟨λb o e=>hk b o (I.ĩ b o (j▸e)),by rw[j];show ac j6 B,ac lo B,e1,e2,e3,e4,e5,e6,?_,λb q=>((J b).mp q).ç (λz=>E b (I.zx b z)) λq=>ag q λe i f=>?_,xL,λb x=>(C b x).ç (λx=>j▸I.KO b x) λq=>bn q.1,λb x=>(C b x).ç (λx=>(I.xs b x).imp λo e=>hk b o e) λq=>q.2,
  I.Az.to (â Cx.P j) (λP o q a b c l _=>{hk _ _ l,E _ a,λz=>((J P).mp z).ç b λq=>ag q λe i f=>?_,λz=>N l (z▸B)}) λr=>(r.less O).ev (Z:=λ_=>Ī) (Y:=λ_=>Ī) (.Ĩ hk) (λ_ q=>q.ç) λ_ q=>q.ç,λb q e=>(I.ũ.ÁX (Z:=λ_=>Ī) (U:=λ_=>Ī) (.Ĩ hk) (λ_ _ _=>id) (λ_ _ _ _ _ _ q=>q.ç) O λb q e=>E b (I.ũ b q e).1) b q (j▸e),cs,cl,nd,j3 λr=>r.grow hk O,U⟩
 ·show iD I.ŕ λf o p b k c z=>cb (hF f o p b k) λm G q1 q2 q3 q4=>{m,G,q1,q3,q4,λe i=>?_,λb=>?_}
  ·rw[q2] at i;rcases dL.mp i with i|i
   ·show aj (H e i) λQ w=>jA w λL t T _ w=>cG w λo s n l hd=>{by rw[Q];decide,L,o,s,n,t,bn T,l,hd}
   ·show aj (c e i) λQ w=>iE w λL o s n f nb l hd=>{Q,L,o,s,n,f,j▸nb,hk _ _ l,hd}
  ·rw[J,z,q2];show{λq=>q.ç (λq=>q.imp λe a=>{sK _ a.1,a.2}) λq=>q.imp λe a=>{P7 _ a.1,a.2},λq=>ag q λe i f=>(dL.mp i).ç (λi=>.Ġ {e,i,f}) λi=>.Ę {e,i,f}}
 ·show jA (H e i).2 λL t _ x _=>al (t.symm.Ð f)▸x
 ·show jA (H e i).2 λL t T _ _=>N l (al (t.symm.Ð f)▸T)
def Č.Ĺ{h h':ì}{s:Ŗ}{t:Â Þ}{č:Â Ï}{l:Â Þ}{ę C:á}(I:Č g ρ V h)(B:BR g s t č l)
  (G:h.ã.Ú<=ę)(r:h.ã.Ú<=C)(hk:∀b o,h.Ò b=À o->h'.Ò b=À o)(H:∃o,h'.Ò ę=À o)(n:∃m,h'.Ns C m):
  Č (g.Ĺ s (Cp g.Ü s.î []) ę C (t++l)) (AA t.Á č ρ) V h':=by
 exists g ρ V h h' s t č l ę C,I B G r hk H n;have Q:∀{x:Þ},(compEnvC s (Cp g.Ü s.î []) C g.Ü).ð x=À .Ĭ->(x,Ŵ.ÁT)∈s.î/\g.Ü.ð x=À .Ĭ:=λ{x} q=>by
  exists x,q;have q:(relabel s g.Ü).î.ö x=À .Ĭ:=q;rw[cp] at q;show ag (h9.mp q) λk e q=>?_;have a:=Àb e;by_cases hk:k= .ÁT
  ·subst hk;show{a,(B.ÁT x a).1}
  ·have:(k==Ŵ.ÁT)=Å:=by simpa using hk
   simp only[this,é.false_and,S6,ÁR] at q;show absurd q (B.Ĭ _ a)
 have T:g.lo<=h.ã.Ú:=ao (I.xs _ I.lx) λo e=>ac I.low (i5 (g3 e));show I.fC [] rfl hk B.ĕ I.glob I.blt I.Âf I.ű I.Àp r T (.Ġ (.Ġ Î)) (λb x=>?_) (λb x=>.Ę x) (λf o p b k=>{f,o,p,Î,b,k}) nl (λb=>{.Ę,λq=>q.ç id λq=>ag q λe U _=>nM U})
  (dE (eH B.Àq .å nl) (λx c a=>(B.mem I a).2) I.ō) (λx Y=>?_) B.î (λup=>?_) λj k sj BQ ej ek oj ok _=>?_
 ·rcases x with x|rfl|rfl
  ·show .Ę x
  ·show .Ġ {G,H}
  ·show .Ġ {r,ao n λ_ w=>ba w λo _ _ e _ _=>{o,e}}
 ·show aj (Q Y) λa hc=>cb (I.Ĭ x hc) λc v e q u q2=>{c,v,(B.Áj I a).Ð e,ag q λo z A=>{o,hk _ _ z,A},.Ę u,q2}
 ·show ao n λm n=>{m,n,λj sl e=>?_};show cb (bW e) λJ i f6 hj hi f9=>ag I.Ż λm n hv=>au (B.ÂE J i hj) λx h1 h2 E=>a_ (hv i sl hi) λy v L e2 N=>?_;subst f6;rw[h1] at L;obtain rfl:=al L;show{x,v,?_,?_,?_}
  ·change(t++l)[t.Á+J]? =À x;rw[GE (bv _ _),pt];show h2
  ·have O:g.Ü.ð x=À .Ĭ:=(B.ÁT x E).1;rcases e2 with⟨q,_⟩|⟨_,q0,c,u,⟨o,z,A⟩⟩
   ·rw[O] at q;cases q
   ·show .Ġ {.Ę ?_,q0,c,(B.Áj I E).Ð u,{o,hk _ _ z,A}};change(relabel s g.Ü).î.ö x=À .Ĭ;rw[cp,Âi B.Àq E,V6,I.ĕ,O];rfl
  ·rcases f9 with⟨d,Î⟩|rfl
   ·show up N
   ·show N
 ·show cb (bW ej) λ_ _ _ _ _ q=>?_;rcases q with⟨d,Î⟩|rfl<;>show fT oj
end
end
section
inductive Ready(g:Gd)(t:ý)(d:Ë Ï)(a h:ì)(it:Í)(ds:Â D):Prop
 |mk (I f wr vs s P c St) (e:it= .ò I) (S:ÂA g t I f wr ds vs s P c St) (st:St 0 h) (r:Am h g.X vs s) (w:∀b∈wr,a.Ò b=Ã)
  (p:∀b∈f,(∃o,h.Ò b=À o)/\(¬g.X b\/(∃i,d=À i/\b=g.ĉ i/\BB g b)))
def Fg(g:Gd)(t Ļ:ý)(o:Ë Ï)(F:Aa->M (Â D)):Prop:=∀ρ p s (Q:Í->Ô->Prop) (E:Í->Ô->Prop),Č g ρ p s.Ì->Af g ρ (Ready g t o s.Ì) s ((F ρ).Ĉ p) Q E->
 è g.cx.M g.A (ŗ Ļ g.Ü) (λx a=>è g.cx.M g.A (Âh x) Q E a) E s
def Ev.cu{Z Y U:á->Prop}{h c d:ì}(a:Ev Z Y h c)(b:Ev Z U c d)(j:∀b o,h.Ò b=À o->U b->Y b):Ev Z Y h d:=by
 exists Z Y U h c d,a b j;intro x o e q;exists x o,e q;have k:∀{l:Obj},(FX o->FX l)->(¬U x\/FX l):=λf=>q.imp (λn u=>n (j x o e u)) f;rcases a x o e q with g|⟨z,m,s,g⟩
 ·show b x o g (k id)
 ·rcases b x _ g (k id) with i|⟨_,_,p,i⟩
  ·show .Ġ {z,m,s,i}
  ·show .Ġ {z,m,p,i}
def bK{h h':ì}(x:h.Ns a m)(k:∀o,h.Ò a=À o->∃b,h'.Ò a=À b/\b.ë=o.ë):h'.Ns a m:=by
 show ba x λo s p e d r=>ag (k o e) λb c f=>{b,s,p,c,f.Ð d,r}
def ar(m:M α)(f:α->M c)(p:AK):(m>>=f).Ĉ p=match m.Ĉ p with| .ok a b=>(f a).Ĉ b| .exc k b=>.exc k b| .Û=>.Û:=rfl
def Ey(L:Â D->Aa->M (Â D))(ds:Â D)(ρ:Aa):M D:=if ds.Á<=100000 then Bh (L ds ρ)>>= λxs=>Ñ (.É xs) else M.Û
abbrev IsL(h:ì)(a:á)(y:Â Í):Prop:=h.Ĳ a (FM y)
abbrev oL:Obj:={ķ:=.Ċ "list",ĺ:=Ã,ë:=.Ĕ ([]:Â Í).ó}
def Hm(g:Gd)(Lst:ì->á->Â Í->Prop)(oA:Obj)(e t:ý)(L:Â D->Aa->M (Â D)):Prop:=∀{I ę:á} {f wr:Â á} {ds:Â D} {vs:Â Í} {a:Â D} {P d:Ï->Í->ì->Prop} {St:Ï->ì->Prop}
  {R:Z2->Ô->Prop} {s:Ô} {ρ:Aa} {p Ē:AK} {xs:Â D}
  (c:ÂA g t I f wr ds vs a P d St)
  (h:∀b∈f,¬g.Y b/\¬g.Z b) (j:∀b∈f,∃o,s.Ì.Ò b=À o) (k:ę∉f) (l:g.X ę) (m:¬g.Z ę) (n:¬g.Y ę) (w:∀ρ' Ē h',Č g ρ' Ē h'->∀i sl,ρ'.ĵ i=À sl->sl.Bm=Ä->g.ĉ i≠ę)
  (J:Č g ρ p s.Ì) (q:St 0 s.Ì) (r:Am s.Ì g.X vs a) (u:s.Ì.Ò ę=À oA) (v:(L ds ρ).Ĉ p= .ok xs Ē) (x:ds.Á<=100000)
  (z:∀h' tk ρ' y,Č g ρ' Ē h'->Lst h' ę y->Am h' g.X y xs->Ev g.Z (λb=>g.Y b\/b∈wr\/b=ę) s.Ì h'->R (.ok .next) {s with Ì:=h',Ā:=tk}),
  ſ g.cx.M g.A (.Ŷ e 0 (.ò I) (.ò ę) g.Ü) R s
def fV(T:CY g g.Y t a)(h:Ak g e f)(C:Ge g i c):
  Hm g IsL oL (.Į e [{t,Ļ,i,0}] s ă) t (Dx f c a):=λS p _ b d j k o J st r l m n q=>nh S T h C p b d j k o J st r {_,l,Î,0,Î} m n q
def CJ(f:Aa->M D)(c:Ë (Aa->M D))(t:Tg)(ds:Â D)(ρ:Aa):M D:=if ds.Á<=100000 then Bh (Dx f c t ds ρ)>>= λxs=>Ñ (.É xs) else M.Û
theorem Af.Bh(H:Af g ρ R s ((Bh m>>=k).Ĉ n) Q E):
  ∃a p,m.Ĉ n= .ok a p/\Af g ρ R s ((k a).Ĉ p) Q E:=by
 have H:Af g ρ R s (match(PQ.Internal.Bh m).Ĉ n with| .ok a b=>(k a).Ĉ b| .exc k b=>.exc k b| .Û=>.Û) Q E:=H;cases h:m.Ĉ n with
 |ok a p=>
  have:(PQ.Internal.Bh m).Ĉ n= .ok a p:=by unfold PQ.Internal.Bh;dsimp only;rw[h]
  rw[this] at H;show{a,p,Î,H}
 |exc e p=>
  have:(PQ.Internal.Bh m).Ĉ n= .Û:=by unfold PQ.Internal.Bh;dsimp only;rw[h]
  rw[this] at H;show H.ç
 |Û=>
  have:(PQ.Internal.Bh m).Ĉ n= .Û:=by unfold PQ.Internal.Bh;dsimp only;rw[h]
  rw[this] at H;show H.ç
section
variable{g:Gd}
structure ÀM(g:Gd)(Lst:ì->á->Â Í->Prop)(ρ:Aa)(c a h:ì)(p Ē:AK)(ę C:á)(xs:Â D)(y:Â Í)(U:á->Prop):Prop where
 PD:Ev g.Z g.Y c a
 Du:Č g ρ p a
 ev:Ev g.Z U a h
 PF:Bv g a U
 u0:∀b o,c.Ò b=À o->U b->g.Y b
 ul:¬U g.Ü.æ
 ha:a.Ò ę=Ã
 hC:a.Ò C=Ã
 ne:ę≠C
 ns:∃m,h.Ns C m
 É:Lst h ę y
 rd:Am h (λb=>g.X b\/b=ę\/b=C) y xs
 ĩ:g.cx.ÿ.ĭ h
 Az:Bb (g.on λb=>g.X b\/b=ę\/b=C) h Ē
 ũ:Dh g.cx.tab (λb=>g.X b\/b=ę\/b=C) h
def dM{Lst:ì->á->Â Í->Prop}{oA:Obj}{e:ý}{j9:Sem Í}{m7:Â Comprehension}{L:Â D->Aa->M (Â D)}{d9 Ļ:ý}{m8:Â ý}{j:Ŗ}{ip:Pos}{t v:Â Þ}{č:Â Ï}{F:Aa->M (Â D)}{od:Ë Ï}{use:Ë (Í->Sem ÂF)}
  {ρ:Aa}{N:AK}{s:Ô}{Q Qc:Í->Ô->Prop}{E:Í->Ô->Prop}{R:ì->Í->D->Prop}
  (o4:clausesOf e={d9,Ļ,m8,0}::m7)(o5:oA.isFreed=Å)(o6:∀(s:Ô) (Q:Í->Ô->Prop) (E:Í->Ô->Prop),Q (.ò s.Ì.ã.Ú) {s with Ì:=s.Ì.Ŧ oA}->è g.cx.M g.A j9 Q E s)
  (o7:∀(R:Z2->Ô->Prop) (s:Ô) (it ę:Í) (Ü:Env),ſ g.cx.M g.A (.Ŷ e 0 it ę Ü) R s->è g.cx.M g.A (Âh it) (λv8 s'=>ſ g.cx.M g.A (.Ŷ e 0 v8 ę Ü) R s') (ĸ g.cx.M g.A Ü λx s'=>R (.ŵ x) s') s->ſ g.cx.M g.A (.compStart e 0 it ę Ü) R s)
  (hI:Fg g d9 Ļ od F)(B:BR g j t č v)
  (o9:∀cl ę C,Hm (g.Ĺ j cl ę C (t++v)) Lst oA e d9 L)
  (hs:∀x,ı Ļ g.Ü x=Ñ x)(I:Č g ρ N s.Ì)(H:Af g ρ R s ((F ρ>>= λds=>Ey L ds (AA t.Á č ρ)).Ĉ N) Q E)
  (q9:∀c h T Ē ę C xs ys U tk,ÀM g Lst ρ s.Ì c h T Ē ę C xs ys U->(F ρ>>= λds=>Ey L ds (AA t.Á č ρ)).Ĉ N= .ok (.É xs) Ē->
   compPost g.cx.M g.A E use Qc (.ò ę) C (.ok .next) {s with Ì:=h,Ā:=tk}):
  è g.cx.M g.A (Ât e j g.Ü ip j9 Å (ŗ Ļ g.Ü) use) Qc E s:=by
 exists g Lst oA e j9 m7 L d9 Ļ m8 j ip t v č F od use ρ N s Q Qc E R,o4 o5 o6 o7 hI B o9 hs I H q9;show wpAny_comprehension_free (use:=use) o4 hs (B.za I) B.ĕ (λx hx hl=>Âi B.Àq (by rw[<-hl];show hx)) ?_;show hI ρ N s _ E I (H.Ĕ λds T it c f9 hF V f rd j3=>?_);obtain⟨Ia,fp,wr,vs,es,P,Md,St,Î,S,st,r,t7,j4⟩:=rd;exists ds T c f9 Ia fp wr vs es P Md St,hF V f j3 S st r t7 j4;show aj (Af.ő j3) λt8 j3=>aD (Af.Bh j3) λxs Ē hr zq=>?_;exists xs Ē,hr zq;have w6:(F ρ>>= λds=>Ey L ds (AA t.Á č ρ)).Ĉ N= .ok (.É xs) Ē:=by
  rw[ar,hF];change(Ey L ds (AA t.Á č ρ)).Ĉ T=_;unfold Ey;rw[à t8,ar,show(Bh (L ds (AA t.Á č ρ))).Ĉ T= .ok xs Ē by unfold Bh;dsimp only;rw[hr]];rfl
 show o6 _ _ _ (wpAny_newFunctionEnv B.Ĭ (by intro y hy;simp at hy) (λl e7 d7=>?_) B.ĕ);exists l,e7 d7;dsimp only at e7 d7⊢;generalize e8:c.ã.Ú=ę at*;generalize hH:c.Ŧ oA=j5 at e7 d7⊢;have j6:j5.ã.Ú=ę+1:=by rw[<-hH,U1,e8]
 generalize hC:j5.ã.Ú=C at*;exists C,hC e7 d7 j6;have j7:ę≠C:=by show I9 (ln1 (kV j6))
 have t9:∀{a:á},ę<=a->c.Ò a=Ã:=λ{a} w=>by
  cases e:c.Ò a with
  |Ã=>rfl
  |À o=>show absurd (ce (e8▸g3 e) w) (EQ _)
 have w:c.Ò ę=Ã:=t9 (a3 _);have l9:c.Ò C=Ã:=t9 (ln1 (kV j6));have h3:∀b o,c.Ò b=À o->j5.Ò b=À o:=λb o e=>by rw[<-hH];show a0 _ e
 have hk:∀b o,c.Ò b=À o->l.Ò b=À o:=λb o e=>d7.ŉ b o (λq=>by(rw[q,l9] at e;show nS e)) (a0 _ (h3 b o e));have x7:j5.Ò ę=À oA:=by rw[<-hH,<-e8];show f1 _ o5
 have u1:l.Ò ę=À oA:=d7.ŉ _ _ j7 (a0 _ x7);have J:=f.Ĺ B (ę:=ę) (C:=C) (fA e8) (ln2 (kV j6) (fA e8)) hk {_,u1} {_,e7};have G:∀b,(∃o,c.Ò b=À o)->b≠ę/\b≠C:=λb ⟨o,e⟩=>{λq=>by(rw[q,w] at e;show nS e),λq=>by(rw[q,l9] at e;show nS e)};have u2:∀b∈wr,∃o,c.Ò b=À o:=λb k=>let⟨o,_,e,_⟩:=S.Dt 0 c st b k;{o,e};have S':ÂA (g.Ĺ j (Cp g.Ü j.î []) ę C (t++v)) d9 Ia fp wr ds vs es P Md St:=S.to Î Î λb k q=>by
  rcases q with q|q|q
  ·show S.wx b k q
  ·show(G b (u2 b k)).1 q
  ·show(G b (u2 b k)).2 q
 have u4:St 0 l:=S.GN (λ_=>Ī) (λ_=>Ī) 0 c l (.Ĩ hk) (λ_ _=>{id,id}) st;have x8:∀b o,c.Ò b=À o->(g.Ĺ j (Cp g.Ü j.î []) ę C (t++v)).X b->g.X b:=by
  rintro b o e (q|q|q)
  ·show q
  ·show absurd q (G b {o,e}).1
  ·show absurd q (G b {o,e}).2
 have x9:Am l (g.Ĺ j (Cp g.Ü j.î []) ę C (t++v)).X vs es:=(r.less x8).ev (Z:=g.Z) (Y:=λ_=>Ī) (.Ĩ hk) (λb d8=>.Ę (f.zx b d8)) λ_ q=>q.ç;have u5:ſ g.cx.M g.A (.Ŷ e 0 (.ò Ia) (.ò ę) (compEnvC j (Cp g.Ü j.î []) C g.Ü))
   (compPost g.cx.M g.A E use Qc (.ò ę) C) {s with Ì:=l,Ā:=f9+([]:Â (Þ×Í)).Á}:=by
  show o9 (Cp g.Ü j.î []) ę C (s:={s with Ì:=l,Ā:=f9+([]:Â (Þ×Í)).Á}) S' ?_ (λb k=>let⟨o,e⟩:=(j4 b k).1;{o,hk b o e}) ?_ (.Ġ (.Ę Î)) ?_ ?_ ?_ J u4 x9 u1 hr t8 ?_
  ·intro b k;exists b,k;show aj (j4 b k) λex q=>{λy=>?_,λd8=>?_}
   ·rcases y with(y|y)|y
    ·show q.ç (λq=>q (f.yx b (.Ę (.Ę y)))) λ⟨i,_,_,O⟩=>O.p y
    ·show(G b ex).2 y
    ·show q.ç (λq=>q (f.yx b (.Ġ y))) λ⟨i,_,_,O⟩=>O.y (.Ġ y)
   ·rcases q with q|⟨i,_,_,O⟩
    ·show q (f.zx b d8)
    ·show O.z d8
  ·show λk=>(G ę (j4 ę k).1).1 Î
  ·show λd8=>by show ao (f.xs _ (f.zx _ d8)) λo e=>?_;rw[w] at e;show nS e
  ·show λq=>q.ç (λq=>q.ç (λq=>?_) j7) λq=>?_
   ·show ao (f.xs _ (f.yx _ (.Ę (.Ę q)))) λo e=>?_;rw[w] at e;show nS e
   ·show ao (f.xs _ (f.yx _ (.Ġ q))) λo e=>?_;rw[w] at e;show nS e
  ·show λ_ _ _ _ _ _ _ _ q=>j7 q.symm
  ·intro h' tk z0 ys I' l' y' E';show ag I'.Ż λmC j8 zq=>?_;exists h' tk z0 ys mC,I' l' y' E' j8 zq
   replace j8:h'.Ns C mC:=j8
   have z3:Ev g.Z (λb=>g.cx.K b\/b∈wr) c h':=by
    intro b o e q;exists b o,e q;show aj (G b {o,e}) λn1 n2=>?_;have q':¬((g.Ĺ j (Cp g.Ü j.î []) ę C (t++v)).Y b\/b∈wr\/b=ę)\/FX o:=q.imp (λn u=>by
     rcases u with((u|u)|u)|u|u
     ·show n (.Ę (.Ę u))
     ·show n2 u
     ·show n (.Ę (.Ġ u))
     ·show n (.Ġ u)
     ·show n1 u) id
    show E' b o (hk b o e) q'
   have z5:Bv g c (λb=>g.cx.K b\/b∈wr):=by
    rintro b o e (q|q)
    ·show .Ę (q.imp .Ę id)
    ·show aD (S.Dt 0 c st b q) λo' fs e' d=>?_;rw[e] at e';(have zz:=al e';clear e';subst zz);show .Ġ {{fs,d.1},S.wx b q}
   have ul:¬(g.cx.K g.Ü.æ\/g.Ü.æ∈wr):=by
    rintro ((u|⟨q,u⟩)|u)
    ·show(f.Az.x u).2.2 Î
    ·show f.gW u (.Ġ Î)
    ·show aD (S.Dt 0 c st _ u) λA8 fs V v4=>bG λnG=>ag f.Ż λm z8 A9=>ba z8 λB1 B2 B3 z9 A0 _=>nG ?_;rw[z9] at V;(have zz:=al V;clear V;subst zz);rw[A0] at v4;show dC v4.1
   have Pg:Bb (g.on λb=>g.X b\/b=ę\/b=C) h' Ē:=I'.Az.to Î (λP o q a b _ ho _=>{ho,a,b,(f.Az.x q).2.2}) id;show q9 c h' T Ē ę C xs ys _ tk {V,f,z3,z5,λb o e u=>u.ç (λu=>u.imp .Ę id) (λu=>by(rw[t7 b u] at e;show nS e)),ul,w,l9,j7,{mC,j8},l',y',I'.ĩ,Pg,I'.ũ} w6
 show o7 _ _ _ _ _ u5 (S'.self {s with Ì:=l,Ā:=f9+([]:Â (Þ×Í)).Á} _ _ u4 u5)
def ni{use:Ë (Í->Sem ÂF)}
  {ρ:Aa}{p:AK}{s:Ô}{Q Qc:Í->Ô->Prop}{E:Í->Ô->Prop}{R:ì->Í->D->Prop}
  (i:Fg g r Ļ G F)(B:BR g o t č k)
  (n:∀l ę C,CY (g.Ĺ o l ę C (t++k)) (g.Ĺ o l ę C (t++k)).Y r e/\Ak (g.Ĺ o l ę C (t++k)) j f/\Ge (g.Ĺ o l ę C (t++k)) m c)
  (q:∀x,ı Ļ g.Ü x=Ñ x)(I:Č g ρ p s.Ì)(H:Af g ρ R s ((F ρ>>= λds=>CJ f c e ds (AA t.Á č ρ)).Ĉ p) Q E)
  (u:∀v h w Ē ę C xs y U tk,ÀM g IsL ρ s.Ì v h w Ē ę C xs y U->(F ρ>>= λds=>CJ f c e ds (AA t.Á č ρ)).Ĉ p= .ok (.É xs) Ē->
   compPost g.cx.M g.A E use Qc (.ò ę) C (.ok .next) {s with Ì:=h,Ā:=tk}):
  è g.cx.M g.A (Ât (.Į j [{r,Ļ,m,0}] o ă) o g.Ü Ļ.ă (newList []) Å (ŗ Ļ g.Ü) use) Qc E s:=
 dM Î Î (λs Q E h=>đ h (by size_fits)) (λR s J ę L z h=>Zf z h) i B (λl ę C=>let⟨a,b,d⟩:=n l ę C;fV a b d) q I H u
def ÀM.bL{Lst:ì->á->Â Í->Prop}{ρ:Aa}{v w h h':ì}{A Ē:AK}{ę C:á}{xs:Â D}{y:Â Í}{U:á->Prop}(c:ÀM g Lst ρ v w h A Ē ę C xs y U)
  (k:∀b o,b≠C->b≠g.Ü.æ->h.Ò b=À o->h'.Ò b=À o):Bb g h' Ē/\Am h' g.X y xs/\Dh g.cx.tab g.X h':=by
 exists g Lst ρ v w h h' A Ē ę C xs y U,c k;have B:∀b o,h.Ò b=À o->¬(b≠C/\b≠g.Ü.æ)->g.X b\/b=ę\/b=C:=λb o e q=>by
  by_cases i:b=C
  ·show .Ġ (.Ġ i)
  ·by_cases j:b=g.Ü.æ
   ·show .Ę (j▸c.Du.lx)
   ·show absurd {i,j} q
 have E:Ev (λ_=>Ī) (λb=>b=C\/b=g.Ü.æ) h h':=by
  intro b o e q;exists b o,e q;show .Ę ?_;by_cases i:b=C
  ·clear k B;subst i;rcases q with q|⟨_,G,n,q⟩
   ·show absurd (.Ę Î) q
   ·show kT c.ns λm H Q T f p _=>?_;rw[e] at f;(have s:=al f;clear f;subst s);rw[p] at q;show dC q
  ·by_cases j:b=g.Ü.æ
   ·clear i;subst j;rcases q with q|⟨_,G,n,q⟩
    ·show absurd (.Ġ Î) q
    ·show bG λI=>ag c.Du.Ż λm J V=>ba J λY d7 d8 L N _=>I ?_;show au (c.ev.ë L c.ul) λH f p _=>?_;rw[e] at f;(have s:=al f;clear f;subst s);rw[p,N] at q;show dC q
   ·show k b o i j e
 have t:∀b,(b=C\/b=g.Ü.æ)->(g.X b\/b=ę\/b=C):=by
  rintro b (q|q)
  ·show .Ġ (.Ġ q)
  ·show .Ę (q▸c.Du.lx)
 show{c.Du.Az.back (c.Az.to (g':=g.on λb=>g.X b\/b=ę\/b=C) rfl (λP o q a b d O _=>{k P o (λz=>?_) d O,a,b,d}) λr=>r.ev E (λ_ q=>q.ç) t) rfl λr=>Am.less r λb o _ l=>.Ę l,Am.less (c.rd.ev E (λ_ q=>q.ç) t) λb o _ l=>.Ę l,c.ũ.ÁX E (λb q e u=>u.ç (λu=>?_) λu=>c.Du.gW e (.Ġ u)) (λb o fs _ _ n u=>(n (t b u)).ç) (λb o _ l=>.Ę l) λb q e=>(c.Du.ũ b q e).1}
 ·show ao (c.Du.xs P (c.Du.Az.x q).1) λo e=>?_;rw[z,c.hC] at e;show nS e
 ·show ag (c.Du.ũ b q e).2 λps e _=>nS (c.hC.symm.Ð (u▸e))
def ÀM.zK{ρ:Aa}{f a h h':ì}{p Ē:AK}{ę C:á}{xs:Â D}{y:Â Í}{U:á->Prop}(c:ÀM g Lst ρ f a h p Ē ę C xs y U)
  (k:∀b o,b≠C->b≠g.Ü.æ->h.Ò b=À o->h'.Ò b=À o):Ev g.Z (λb=>U b\/b=g.Ü.æ) a h':=by
 exists g Lst ρ f a h h' p Ē ę C xs y U,c k;intro b o e q;exists b o,e q;have n2:b≠C:=λq=>by(rw[q,c.hC] at e;show nS e)
 by_cases l:b=g.Ü.æ
 ·rcases q with q|⟨_,v,n,q⟩
  ·show absurd (.Ġ l) q
  ·clear left;obtain⟨m,⟨t,w,x,i,j,_⟩,_⟩:=c.Du.Ż;rw[l,i] at e;cases e;rw[j] at q;show dC q
 ·rcases c.ev b o e (q.imp (λn u=>n (.Ę u)) id) with d|⟨z,r,s,d⟩
  ·show .Ę (k b o n2 l d)
  ·show .Ġ {z,r,s,k b _ n2 l d}
def ÀM.eJ(c:ÀM g Lst ρ a d h p Ē ę C xs y U)
  (k:∀b o,b≠C->b≠g.Ü.æ->h.Ò b=À o->h'.Ò b=À o):g.cx.ÿ.ĭ h':=λb o e=>
 k b o (λq=>by have:=c.Du.ĩ b o e;rw[q,c.hC] at this;show nS this) (λq=>by have:=c.Du.KO _ c.Du.lx;rw[<-q,e] at this;show we this) (c.ĩ b o e)
def ÀM.sP(c:ÀM g Lst ρ a b h p Ē ę C xs y U):¬g.X ę:=λq=>by
 show ao (c.Du.xs _ q) λo e=>?_;rw[c.ha] at e;show nS e
def ÀM.lC(c:ÀM g Lst ρ a b h p Ē ę C xs y U):g.Ü.æ≠C/\g.Ü.æ≠ę:=by
 show ao (c.Du.xs _ c.Du.lx) λo e=>{λq=>by(rw[q,c.hC] at e;show nS e),λq=>by(rw[q,c.ha] at e;show nS e)}
def ÀM.sQ(c:ÀM g Lst ρ j a h p Ē ę C xs y U)(b:a.Ns g.Ü.æ m):h.Ns g.Ü.æ m:=
 bK b λo e=>let⟨d,f,i,_⟩:=c.ev.ë e c.ul;{d,f,i}
def Bv.loc(t:Bv g h U):Bv g h (λb=>U b\/b=g.Ü.æ):=λb o e u=>u.ç (t b o e) λq=>.Ę (.Ę (.Ġ q))
def hi{L:Â D->Aa->M (Â D)}{i:Â ý}{p:Ŗ}{ă:Pos}{t n:Â Þ}{č:Â Ï}{F:Aa->M (Â D)}{l:Ë Ï}
  (r:Fg g a Ļ l F)(B:BR g p t č n)
  (v:∀w ę C,Hm (g.Ĺ p w ę C (t++n)) IsL oL (.Į y ({a,Ļ,i,0}::z) p ă) a L)
  (A:∀x,ı Ļ g.Ü x=Ñ x):
  Ak g (.Į y ({a,Ļ,i,0}::z) p ă) (λρ=>F ρ>>= λds=>Ey L ds (AA t.Á č ρ)):=λρ G s Q E I H=>by
 show dM Î Î (λs Q E h=>đ h (by size_fits)) (λR s it ę e8 J h=>Zf J h) r B v A I H λe9 h f6 N ę C O ys U T c V=>?_;rw[show((λρ=>F ρ>>= λds=>Ey L ds (AA t.Á č ρ)) ρ).Ĉ G= .ok (.É O) N from V] at H;show ao c.ns λY d7=>{Y,d7,λf d=>?_};have k:∀b o,b≠C->b≠g.Ü.æ->h.Ò b=À o->f.Ò b=À o:=λb o q _ e=>d.ŉ b o q e;have j:=c.zK k;show H _ f T (Ev.cu c.PD j λb o e u=>u.ç (c.u0 b o e) λu=>.Ę (.Ġ u)) (c.Du.gX c.PF.loc j (c.eJ k) (λm hm=>(c.sQ hm).Áe d c.lC.1) (c.bL k).1 (c.bL k).2.2) (VR.bI ?_ c.sP (c.bL k).2.1);show ag c.É λo ho q=>{o,d.ŉ ę o c.ne ho,q}
def iV
  (h:Fg g r Ļ o F)(B:BR g s t č k)
  (i:∀l ę C,CY (g.Ĺ s l ę C (t++k)) (g.Ĺ s l ę C (t++k)).Y r e/\Ak (g.Ĺ s l ę C (t++k)) j f/\Ge (g.Ĺ s l ę C (t++k)) m c)
  (n:∀x,ı Ļ g.Ü x=Ñ x):
  Ak g (.Į j [{r,Ļ,m,0}] s ă) (λρ=>F ρ>>= λds=>CJ f c e ds (AA t.Á č ρ)):=
 hi h B (λl ę C=>let⟨a,b,d⟩:=i l ę C;fV a b d) n
end
end
section
def PG(f:Aa->M D)(ρ:Aa):M (Â D):=f ρ>>=Jd
def Hn:D->M (Â D)
 | .Ê n=>if n<=100000/\ -100000<=n then Ñ ((ty n.ł).Ö λ(i:Ï)=>.Ê i) else M.Û
 |_=>M.Û
def LG(f:Aa->M D)(ρ:Aa):M (Â D):=f ρ>>=Hn
def Et(i:Ï):Â D->Â D
 |[]=>[]
 |d::ds=>.Ç [.Ê i,d]::Et (i+1) ds
def Nr:D->M (Â D)
 | .É l=>Ñ (Et 0 l)
 |_=>M.Û
def Nt(f:Aa->M D)(ρ:Aa):M (Â D):=f ρ>>=Nr
def bP:∀(l:Â D) (k:Ï),(Et k l).Á=l.Á
 |[],_=>rfl
 |_::l,k=>â Ï.ś (bP l _)
def iG(l:Â D)(k i:Ï)(d:D)(h:l[i]? =À d):(Et k l)[i]? =À (.Ç [.Ê (k+i:Ï),d]):=by
 induction l generalizing k i with
 |å=>show nS h
 |Æ a l b=>
  cases i using R1 with
  |ž=>obtain rfl:=al h;rfl
  |ś i=>
   have:=b (k+1) i (by simpa using h);rw[E2] at this;show this
section
variable{g:Gd}
def hj(it v:Í):ū (.ċ x p) it v=Ñ ():=rfl
def Ev.ų(e:Ev g.Z g.Y h c)(I:Č g ρ p c)(d:c.Ò a=Ã):h.Ò a=Ã:=by
 cases q:h.Ò a with
 |Ã=>rfl
 |À o=>
  by_cases f:g.Y a
  ·show ao (I.xs a (I.yx a f)) λi b=>?_;rw[d] at b;show nS b
  ·show ag (e.ë q f) λi b _=>?_;rw[d] at b;show nS b
def ì.aJ(h:ì):h.Ò h.ã.Ú=Ã:=by
 cases q:h.Ò h.ã.Ú with
 |Ã=>rfl
 |À o=>show(EQ _ (g3 q)).ç
def Č.cM{p:AK}(I:Č g ρ p h)(b:h.Ò a=Ã):g.cx.ÿ.Ò a=Ã:=by
 cases q:g.cx.ÿ.Ò a with
 |Ã=>rfl
 |À o=>rw[I.ĩ _ o q] at b;show we b
def sR{Ļ:ý}{x:Þ}{p:Pos}{f:Aa->M D}(h:Ak g Ļ f):Fg g (.ċ x p) Ļ Ã (PG f):=λρ f6 s Q E I H=>by
 exists g Ļ x p f ρ f6 s Q E,h I H;show h ρ f6 s _ E I (Af.Ĕ (f:=Jd) H λa j4 v j O zq f7 m T L=>?_);exists a j4 v j O,zq f7 m T L;have h0:s.Ì.Ò j.ã.Ú=Ã:=f7.ų m (ì.aJ j);have k:g.cx.ÿ.Ò j.ã.Ú=Ã:=m.cM (ì.aJ j);cases a using ap with
 |É l=>
  show cb T.aU λt y zv N B C=>?_;subst zv;show wpAny_pyIter_list B ?_;show aj (m.aW {ķ:=.Ċ "list_iterator",ë:=.ü #[.ò t,.Ê 0 0]}) λe V=>?_;have Y:t≠j.ã.Ú:=λq=>by show ag B λo c _=>?_;rw[q,ì.aJ] at c;show nS c
  have W:=Walks.É (ú:=g.cx.ú) (w:=g.cx.w) (A:=g.A) m.Âf j.ã.Ú t Y y.ó;have d7:y.ó.Ú=l.Á:=by simp[C.Á]
  rw[d7] at W;show Af.Ũ (R:=Ready g (.ċ x p) Ã s.Ì) (a:=l) (tk:=O) L e V {j.ã.Ú,[j.ã.Ú,t],[j.ã.Ú],y,l,_,_,_,Î,{{_,KTurns.ofWalks W λi v s Q E _ h=>ÁB (hj _ _) h},λb k=>by(rw[am.mp k];show .Ď _),λZ U i a b e G st=>W.Š i a b st λx N o c=>e.cH c (G x N).1 (G x N).2,?_,?_,?_,?_,?_,?_},{{_,f1 _ Î,Î,Î},bp B _},C.on m e,?_,?_}
  ·rintro i h ⟨⟨o,c,_,u⟩,_⟩ b k;rw[am.mp k];show{o,_,c,u,bz Î nofun}
  ·rintro i v h ⟨_,⟨o,c,_,u⟩,_⟩ b k;rw[am.mp k];show{o,_,c,u,bz Î nofun}
  ·intro b d;rw[am.mp d];show k
  ·intro b d;rw[am.mp d];show m.ų
  ·show λs Q E st h=>W.self 0 s Q E st h
  ·intro X i v h J z r;show ag (Am.at r (ch J)) λv' d9 rv=>?_;have:v'=v:=by
    rw[X2,d9] at z;show al z
   clear z;subst this;show{_,ch J,rv}
  ·intro b d;rw[am.mp d];show h0
  ·intro b d;rcases a5.mp d with rfl|d
   ·show{{_,f1 _ Î},.Ę m.ų}
   ·rw[am.mp d];show ag (bp B {ķ:=.Ċ "list_iterator",ë:=.ü #[.ò t,.Ê 0 0]}) λo c _=>{{o,c},.Ę N}
 |Ç l=>
  obtain⟨t,y,Î,B,C⟩:=T.bO;show au (id B) λo c hc j7=>ao j7 λn u=>?_;have j8:j.IsTuple t y.ó:={o,c,hc,n,u};show wpAny_pyIter_tuple j8 ?_;show aj (m.aW {ķ:=.Ċ "tuple_iterator",ë:=.ü #[.ò t,.Ê 0 0]}) λe V=>?_;have Y:t≠j.ã.Ú:=λq=>by rw[q,ì.aJ] at c;show nS c
  have W:=Walks.Ç (ú:=g.cx.ú) (w:=g.cx.w) (A:=g.A) m.Âf j.ã.Ú t Y y.ó;have d7:y.ó.Ú=l.Á:=by simp[C.Á]
  rw[d7] at W;show Af.Ũ (R:=Ready g (.ċ x p) Ã s.Ì) (a:=l) (tk:=O) L e V {j.ã.Ú,[j.ã.Ú],[j.ã.Ú],y,l,_,_,_,Î,{{_,KTurns.ofWalks W λi v s Q E _ h=>ÁB (hj _ _) h},λb k=>k,λZ U i a b e G st=>?_,?_,?_,?_,?_,?_,?_},{{_,f1 _ Î,Î,Î},{o,a0 _ c,hc,n,u}},C.on m e,?_,?_}
  ·obtain⟨⟨o1,k6,q1⟩,⟨o2,k9,j3,n2,e8⟩⟩:=st;show{{o1,e.cH k6 (G _ (.Ď _)).1 (G _ (.Ď _)).2,q1},{o2,e.Ĕ k9 (.Ġ {j3,_,_,e8}) (λes n q=>by(rw[e8] at q;show dC q)),j3,n2,e8}}
  ·rintro i h ⟨⟨o,c,_,u⟩,_⟩ b k;rw[am.mp k];show{o,_,c,u,bz Î nofun}
  ·rintro i v h ⟨_,⟨o,c,_,u⟩,_⟩ b k;rw[am.mp k];show{o,_,c,u,bz Î nofun}
  ·intro b d;rw[am.mp d];show k
  ·intro b d;rw[am.mp d];show m.ų
  ·show λs Q E st h=>W.self 0 s Q E st h
  ·intro X i v h J z r;show ag (Am.at r (ch J)) λv' d9 rv=>?_;have:v'=v:=by
    rw[X2,d9] at z;show al z
   clear z;subst this;show{_,ch J,rv}
  ·intro b d;rw[am.mp d];show h0
  ·intro b d;rw[am.mp d];show{{_,f1 _ Î},.Ę m.ų}
 |_=>show L.ç
def nj{Cj:Þ->Ë D}(T:Cm g.cx Cj){x y:Þ}{p np ă:Pos}{e:ý}{f:Aa->M D}(h:Ak g e f)(G:∀y q,e≠ .ņ y q)(J:y= "range")
  (hk:g.Ü.ð y=À .ē)(L:g.cx.mg y=Ã)(j:Fk y=À (.Ċ "range")):Fg g (.ċ x p) (.Ás (.ċ y np) [e] [] ă) Ã (LG f):=λz N s Q E I H=>by
 exists g Cj x y p np ă e f z N s Q E,T h G J hk L j I H;subst J;show W6 (ak G) (aO T I hk L j _0 _0 (ÁZ (h z N s _ E I (Af.Ĕ (m:=f z) (f:=Hn) H λa e7 v B d zq O V Y u=>?_))));exists a e7 v B d,zq O V Y u;cases a using ap with
 |Ê n=>
  obtain⟨t,Î⟩:=Y.az;obtain⟨⟨q1,q2⟩,u⟩:=Af.ő (c:=n<=100000/\ -100000<=n) (m:=(Ñ ((ty n.ł).Ö λ(i:Ï)=>ā.Ê i):M (Â D))) u;show call_range_1 ?_;show aj (V.aW {ķ:=.Ċ "range",ë:=.ü #[.Ê 0 d,.Ê n t,.Ê 1 (d+1)]}) λd7 o=>wpAny_pyIter_range (s:={s with Ì:=B.Ŧ {ķ:=.Ċ "range",ë:=.ü #[.Ê 0 d,.Ê n t,.Ê 1 (d+1)]},Ā:=d+1+1}) (IsRange.new _ _ _ _ _ _ _) (small_one _0 _0 (R0 _0 q2) (w3 q1 _0)) ?_;generalize hh:B.Ŧ {ķ:=.Ċ "range",ë:=.ü #[.Ê 0 d,.Ê n t,.Ê 1 (d+1)]}=k at*;dsimp only;have h0:s.Ì.Ò k.ã.Ú=Ã:=(O.Ð d7).ų o (ì.aJ k);have f8:g.cx.ÿ.Ò k.ã.Ú=Ã:=o.cM (ì.aJ k);show aj (o.aW {ķ:=.Ċ "range_iterator",ë:=.ü #[ŷ 0,ŷ (Ő.Range.rangeSize 0 n 1),ŷ 1]}) λf9 j3=>?_;have j4:(Ő.Range.rangeSize 0 n 1:ä)=(n.ł:ä):=by
   rw[rangeSize_one];split<;>lia
  have C:((ty n.ł).Ö λ(i:Ï)=>ā.Ê i).Á=n.ł:=by simp
  have W:=Walks.range (ú:=g.cx.ú) (w:=g.cx.w) (A:=g.A) o.Âf k.ã.Ú 0 1 n.ł;rw[<-C] at W;show Af.Ũ (R:=Ready g (.ċ x p) Ã s.Ì) (a:=(ty n.ł).Ö λ(i:Ï)=>ā.Ê i) (tk:=d+1+1) u (d7.Ð f9) j3 {k.ã.Ú,[k.ã.Ú],[k.ã.Ú],[],[],_,_,_,Î,{{_,KTurns.ofWalks W λi v s Q E _ h=>ÁB (hj _ _) h},λb j=>j,λZ U i a b e hf st=>?_,?_,?_,?_,?_,?_,?_},?_,Am.å,?_,?_}
  ·show e.cH st (hf _ (.Ď _)).1 (hf _ (.Ď _)).2
  ·rintro i h st b j;rw[am.mp j];show{_,_,st,Î,bz Î nofun}
  ·rintro i v h ⟨_,st⟩ b j;rw[am.mp j];show{_,_,st,Î,bz Î nofun}
  ·intro b l;rw[am.mp l];show f8
  ·intro b l;rw[am.mp l];show o.ų
  ·show λs Q E st h=>W.self 0 s Q E st h
  ·rintro X i v h hi ⟨t',Î⟩ r;show{.Ê i,?_,?_}
   ·rw[C] at hi;rw[j1,Â.getElem?_range hi];rfl
   ·rw[show(0:ä)+(i:ä)*1=i by ac_rfl];show VR.Ê _ _
  ·change ì.Ò _ _=_;rw[C,<-j4];simp only[ä.natCast_zero,act,Zw,ä.sub_zero];show f1 _ Î
  ·intro b l;rw[am.mp l];show h0
  ·intro b l;rw[am.mp l];show{{_,f1 _ Î},.Ę o.ų}
 |_=>show u.ç
def qC{Cj:Þ->Ë D}(T:Cm g.cx Cj){y:Þ}{tk:Ï}{C:Â ý}{G np ă:Pos}{e:ý}{f:Aa->M D}(h:Ak g e f)(hn:∀y q,e≠ .ņ y q)(hy:y= "enumerate")
  (hk:g.Ü.ð y=À .ē)(hm:g.cx.mg y=Ã)(hb:Fk y=À (.Ċ "enumerate")):Fg g (.Ů C tk G) (.Ás (.ċ y np) [e] [] ă) Ã (Nt f):=λJ f9 s Q E I H=>by
 exists g Cj y tk C G np ă e f J f9 s Q E,T h hn hy hk hm hb I H;subst hy;show W6 (ak hn) (aO T I hk hm hb _0 _0 (ÁZ (h J f9 s _ E I (Af.Ĕ (m:=f J) (f:=Nr) H λa k8 v c L zq j3 k j4 N=>?_))));exists a k8 v c L,zq j3 k j4 N;cases a using ap with
 |É l=>
  show cb j4.aU λp vs zv u z rs=>?_;subst zv;show ř.call_enumerate_list z λj6 O j7 o4 hk=>wpAny_pyIter_enum (s:={s with Ì:=j6,Ā:=L}) O ?_;show aj (k.ÂE hk) λj8 l7=>?_;have l8:p≠c.ã.Ú:=λq=>by show ag z λo d _=>?_;rw[q,ì.aJ] at d;show nS d
  have B:∀b,c.ã.Ú<=b->c.Ò b=Ã:=λb hb=>by
   cases q:c.Ò b with
   |Ã=>rfl
   |À o=>show absurd (ce (g3 q) hb) (EQ _)
  have l9:p≠c.ã.Ú+1:=λq=>by show ag z λo d _=>?_;rw[q,B _ (v3 _)] at d;show nS d
  have V:∀b,c.ã.Ú<=b->¬g.X b:=λb hb q=>by show ao (k.xs b q) λo e=>?_;rw[B b hb] at e;show nS e
  have W:=(WalksT.enumerate (ú:=g.cx.ú) (w:=g.cx.w) (A:=g.A) k.Âf (c.ã.Ú+1) c.ã.Ú p (Ï.succ_ne_self _) l9 l8 vs.ó).toU;have m0:vs.ó.Ú=(Et 0 l).Á:=by simp[rs.Á,bP]
  rw[m0] at W;have j9:j6.Ĳ p vs.ó:=let⟨o,d,q⟩:=z;{o,hk _ _ d,q};have Y:∀{b:á},b∈[c.ã.Ú+1,c.ã.Ú]->c.ã.Ú<=b:=λ{b} hb=>by
   rcases a5.mp hb with rfl|hb
   ·show v3 _
   ·rw[am.mp hb];show a3 _
  show Af.Ũ (R:=Ready g (.Ů C tk G) Ã s.Ì) (a:=Et 0 l) (tk:=L) N j8 l7 {c.ã.Ú+1,[c.ã.Ú+1,c.ã.Ú,p],[c.ã.Ú+1,c.ã.Ú],vs,l,_,_,_,Î,{{_,KTurns.ofWalksU W},λb hb=>?_,λZ U i a b e hf st=>W.Š i a b st λx u o d=>e.cH d (hf x u).1 (hf x u).2,?_,?_,?_,?_,?_,?_},{{_,O},j7,j9},rs.on k j8,?_,?_}
  ·rcases a5.mp hb with rfl|hb
   ·show .Ď _
   ·rw[am.mp hb];show .ě _ (.Ď _)
  ·rintro i h ⟨⟨o5,d7⟩,⟨o2,d9,_,e7⟩,_⟩ b hb;rcases a5.mp hb with rfl|hb
   ·show{_,_,d7,Î,bz Î nofun}
   ·rw[am.mp hb];show{o2,_,d9,e7,bz Î nofun}
  ·rintro i v h ⟨T,ÁF,_,_,_,⟨x,d7⟩,⟨o2,d9,_,e7⟩,_⟩ b hb;rcases a5.mp hb with rfl|hb
   ·show{_,_,d7,Î,bz Î nofun}
   ·rw[am.mp hb];show{o2,_,d9,e7,bz Î nofun}
  ·show λb j=>k.cM (B b (Y j))
  ·show λb j=>V b (Y j)
  ·show λs Q E st h=>W.self 0 s Q E st h
  ·rintro X i v h hi ⟨T,ÁF,Î,⟨t,x,e9,Î⟩,hT⟩ r;rw[bP] at hi;show ag (Am.at r (ch hi)) λv' m6 rv=>?_;have:v'=x:=by
    rw[X2,m6] at e9;show al e9
   clear e9;subst this;show{.Ç [.Ê i,l[i]],?_,?_}
   ·have:=iG l 0 i _ (ch hi);rwa [s6] at this
   ·show au hT λo d hc m9=>ao m9 λn hd=>VR.dI (vs:=[.Ê i t,v']) {o,d,hc,n,hd} (.Æ (VR.Ê _ _) (.Æ rv .å))
  ·show λb j=>j3.ų k (B b (Y j))
  ·intro b j;rcases a5.mp j with rfl|j
   ·show{{_,O},.Ę (V _ (v3 _))}
   ·rcases a5.mp j with rfl|j
    ·show ag j7 λo d _=>?_;show{{o,d},.Ę (V _ (a3 _))}
    ·rw[am.mp j];show ag j9 λo d _=>{{o,d},.Ę u}
 |_=>show N.ç
end
end
section
noncomputable def Gd.re(g:Gd)(X':á->Prop)(ÁG:Ï->á):Gd:={g with X:=X',ĉ:=ÁG}
def Nu(g:Gd)(h:ì)(f:Flow)(l:Ë D):Prop:=match f,l with
 | .next,Ã=>True
 | .Ũ v,À d=>VR h g.X v d
 |_,_=>Ī
structure Bo(g:Gd)(h:ì)(X':á->Prop):Prop where
 old:∀b o,h.Ò b=À o->X' b->g.X b
 č:∀b,g.X b->b<g.lo->X' b
def An(g:Gd)(s:Ô)(o:Out (Aa×Ë D))(Q:Flow->Ô->Prop)(E:Í->Ô->Prop):Prop:=match o with
 | .ok r Ē=>∀f X' ÁG h' tk,Bo g s.Ì X'->Ev g.Z g.W s.Ì h'->Č (g.re X' ÁG) r.1 Ē h'->Nu (g.re X' ÁG) h' f r.2->Q f {s with Ì:=h',Ā:=tk}
 | .exc k Ē=>∀e X' ÁG ρ' h' tk,Bo g s.Ì X'->Ev g.Z g.W s.Ì h'->Č (g.re X' ÁG) ρ' Ē h'->Of (g.re X' ÁG) h' e k->E (.ò e) {s with Ì:=h',Ā:=tk}
 | .Û=>Ī
def CZ(g:Gd)(st:Ĵ)(f:Aa->M (Aa×Ë D)):Prop:=∀ρ p s (Q:Flow->Ô->Prop) (E:Í->Ô->Prop),Č g ρ p s.Ì->An g s ((f ρ).Ĉ p) Q E->è g.cx.M g.A (exec st g.Ü) Q E s
def DW(g:Gd)(t:Â Ĵ)(f:Aa->M (Aa×Ë D)):Prop:=∀ρ p s (Q:Flow->Ô->Prop) (E:Í->Ô->Prop),Č g ρ p s.Ì->An g s ((f ρ).Ĉ p) Q E->è g.cx.M g.A (Ák t g.Ü) Q E s
section
variable{g:Gd}{ρ:Aa}{V:AK}{s:Shared}{Q:Flow->Shared->Prop}{E:Value->Shared->Prop}
def Bo.ť(h:ì):Bo g h g.X:={λ_ _ _ x=>x,λ_ x _=>x}
def An.later{o:Out (Aa×Ë D)}(H:An g s o Q E){i:á->Prop}{n:Ï->á}{j:ì}{v:Ï}(G:Bo g s.Ì i)(e:Ev g.Z g.W s.Ì j):
  An (g.re i n) {s with Ì:=j,Ā:=v} o Q E:=by
 have u:∀{a},Bo (g.re i n) j a->Bo g s.Ì a:=λ{a} d=>⟨λb o m x=>by
  by_cases w:g.W b
  ·show w.1
  ·show ag (e.ë m w) λy c _=>?_;show G.old b o m (d.old b y c x),λb x l=>d.č b (G.č b x l) l⟩
 have ev:∀{h},Ev g.Z (g.re i n).W j h->Ev g.Z g.W s.Ì h:=λc=>e.cu c λb o m w=>{G.old b o m w.1,w.2};cases o using Out.ď with
 |ok r p=>show λf a q h t d c I r=>H f a q h t (u d) (ev c) I r
 |exc k p=>show λx a q z h t d c I r=>H x a q z h t (u d) (ev c) I r
 |Û=>show H
def An.wq(H:An g s o Q E)(e:Ev g.Z g.W s.Ì h):An g {s with Ì:=h,Ā:=t} o Q E:=H.later (Bo.ť _) e
def An.Ĕ{α l:Type}{R₁:ì->l->α->Prop}{m:M α}{f:α->M (Aa×Ë D)}{o:l->Ô->Prop}(I:Č g ρ V s.Ì)(H:An g s ((m>>=f).Ĉ V) Q E)
  (K:∀a n v h q,m.Ĉ V= .ok a n->Ev g.Z g.Y s.Ì h->Č g ρ n h->R₁ h v a->An g {s with Ì:=h,Ā:=q} ((f a).Ĉ n) Q E->o v {s with Ì:=h,Ā:=q}):
  Af g ρ R₁ s (m.Ĉ V) o E:=by
 have b:An g s (match m.Ĉ V with| .ok a d=>(f a).Ĉ d| .exc k d=>.exc k d| .Û=>.Û) Q E:=H;cases c:m.Ĉ V with
 |ok a p=>
  rw[c] at b;show λv i t e j r=>K a p v i t c e j r (b.wq (e.yw I))
 |exc k p=>
  rw[c] at b;show λx i t e j r=>b x g.X g.ĉ ρ i t (Bo.ť _) (e.yw I) j r
 |Û=>rw[c] at b;show b
def An.done{ρ':Aa}{l:Ë D}(H:An g s ((Ñ (ρ',l):M (Aa×Ë D)).Ĉ V) Q E){f:Flow}{X':á->Prop}{ÁG:Ï->á}{h':ì}{tk:Ï}(G:Bo g s.Ì X')(e:Ev g.Z g.W s.Ì h')(I:Č (g.re X' ÁG) ρ' V h')(r:Nu (g.re X' ÁG) h' f l):
  Q f {s with Ì:=h',Ā:=tk}:=H f X' ÁG h' tk G e I r
def Gf(f a:Aa->M (Aa×Ë D))(ρ:Aa):M (Aa×Ë D):=f ρ>>= λr=>match r.2 with
 |Ã=>a r.1
 |À d=>Ñ (r.1,À d)
def sS:DW g [] (λρ=>Ñ (ρ,Ã)):=λρ V s Q E I H=>V4 (H .next g.X g.ĉ s.Ì s.Ā (Bo.ť _) (Ev.ť _ _ _) I trivial)
def qD{st:Ĵ}(i:CZ g st b)(j:∀X ĉ,DW (g.re X ĉ) t l):DW g (st::t) (Gf b l):=λρ V s Q E I H=>by
 show Fa (i ρ V s _ E I ?_);have a:=H;unfold Gf at a;rw[ar] at a;cases h:(b ρ).Ĉ V with
 |ok r p=>
  rw[h] at a;obtain⟨m,n⟩:=r;intro f o w q u G e c r;clear h;cases n using i7 with
  |Ã=>
   cases f using P0 with
   |next=>show j o w m p _ Q E c (An.later a G e)
   |Ũ v=>show r.ç
   |brk|cont=>show r.ç
  |À d=>
   cases f using P0 with
   |Ũ v=>show a.done G e c r
   |next=>show r.ç
   |brk|cont=>show r.ç
 |exc k p=>rw[h] at a;show a
 |Û=>rw[h] at a;show a
def ll(h:Ak g e f):CZ g (.Return (À e) ă) (λρ=>f ρ>>= λd=>Ñ (ρ,À d)):=λρ V s Q E I H=>
 Át (h ρ V s _ E I (An.Ĕ I H λd p v c t _ e a r b=>b.done (Bo.ť _) (Ev.ť _ _ _) a r))
def oH(h:DV g c f)(i:DW g b fb)(j:DW g o k):
  CZ g (.If c b o ă) (λρ=>(f ρ>>=Aw)>>= λt=>if t then fb ρ else k ρ):=λρ V s Q E I H=>by
 show wpAny_If (h ρ V s _ _ E I (An.Ĕ I H λt p v l m _ e a r d=>?_) rfl);subst r;cases v using ci with
 |Ä=>rw[à Î];show i ρ p _ Q E a d
 |Å=>rw[ß _0];show j ρ p _ Q E a d
def Ho(f:Aa->M D)(t:Tg)(ρ:Aa):M (Aa×Ë D):=f ρ>>= λd=>t.put d ρ>>= λρ'=>Ñ (ρ',Ã)
def fD(h:Ak g e f)(T:CY g g.W (.ċ x px) (.Ě i))(m:K0 e (À (.ċ x px)) ă.Ÿ g.Ü=Ñ Å):
  CZ g (.Ř [.ċ x px] e ă) (Ho f (.Ě i)):=λρ V s Q E I H=>by
 show P8 (h ρ V s _ E I (An.Ĕ I H λd p v o w _ ev b r q=>?_)) m;have n:∀a t,Ev g.Z g.W o a->Č g (ρ.set i (À (.ê d))) p a->Q .next {s with Ì:=a,Ā:=t}:=λa t c j=>q.done (Bo.ť _) c j trivial
 cases T with
 |loc k l=>show br (sl:=.ê d) b k l r fT λa t c j=>n a t (c.yw b) j
 |Ve k l u U=>show fS (sl:=.ê d) b k l u r fT n
def nk(c:Tg):∀(d:D) (ρ:Aa) (p p':AK) (k:Þ),(c.put d ρ).Ĉ p≠ .exc k p':=
 c.rec (ÁO:=λt=>∀d ρ p p' k,(t.put d ρ).Ĉ p≠ .exc k p') (ÂD:=λl=>∀b ρ p p' k,(l.put b ρ).Ĉ p≠ .exc k p') (λ_ _ _ _ _ _ h=>by cases h)
  (λl i d ρ p p' k h=>by
   cases d using ap with
   |Ç b|É b=>show i b ρ p p' k h
   |_=>cases h)
  (λb ρ p p' k h=>by induction b using i2<;>cases h)
  λt l f j b ρ p p' k h=>by
   cases b using i2 with
   |å=>cases h
   |Æ d b=>
    have h:(t.put d ρ>>= λm=>l.put b m).Ĉ p=_:=h;rw[ar] at h;cases e:(t.put d ρ).Ĉ p with
    |ok a q=>rw[e] at h;show j _ _ _ _ _ h
    |exc k q=>show f _ _ _ _ _ e
    |Û=>rw[e] at h;cases h
def gm{e:ý}{c:Â ý}{k:Ï}{t ă:Pos}{l:EX}{f:Aa->M D}(h:Ak g e f)(T:CY g g.W (.Ů c k t) (.tup l))(m:swapsWithSole [.Ů c k t] e ă.Ÿ g.Ü=Ñ Å)(n:Yi [.Ů c k t] e g.Ü=Ñ Ã):
  CZ g (.Ř [.Ů c k t] e ă) (Ho f (.tup l)):=λρ V s Q E I H=>by
 show Assign_Tuple (h ρ V s _ E I (An.Ĕ I H λd p v z A _ ev j r a=>?_)) m n;rw[ar] at a;cases i:((Tg.tup l).put d ρ).Ĉ p with
 |ok B o=>
  rw[i] at a;show cL (U:=g.W) j.yw (λb w=>w.1) T j r i λq u x y=>a .next g.X g.ĉ q u (Bo.ť _) x y trivial
 |exc k o=>show absurd i (nk _ _ _ _ _ _)
 |Û=>rw[i] at a;show a.ç
end
end
section
section
variable{g:Gd}{ρ:Aa}{V:AK}{s:Shared}{E:Value->Shared->Prop}
def nq{i:Ï}{x:Þ}{v:Í}{sl:Ą}{Q:ÂF->Ô->Prop}(I:Č g ρ V s.Ì)(B:g.nm[i]? =À x)
  (hk:g.Ü.ð x=À .local\/(g.Ü.ð x=À .Ĭ/\(x==("__classdict__" :Þ))=Å))(R:AS g s.Ì (g.ĉ i) v sl)
  (C:sl.Bm=Ä->∀j G,j≠i->ρ.ĵ j=À G->G.Bm=Ä->g.ĉ j≠g.ĉ i)
  (h:∀h' tk T,Ev g.Z T s.Ì h'->(∀b,T b->g.W b)->(∀a o,s.Ì.Ò a=À o->BB g a->(∀v,o.ë≠ .Ĭ v)->¬T a)->Č g (ρ.set i (À sl)) V h'->Q () {s with Ì:=h',Ā:=tk}):
  è g.cx.M g.A (ÁM g.Ü x v) Q E s:=by
 rcases hk with hk|⟨hk,k⟩
 ·show ag I.Ż λm f _=>ţ hk f (λh' p d=>?_) I.eG;show aj (I.eA B hk R C (λm' H=>by rw[I.cS H f];show p) d) λe r=>h h' _ (λb=>b=g.Ü.æ) (Ev.Âl d Î λo e t=>?_) (λb q=>q▸I.yw _ (.Ę (.Ġ Î))) (λa o _ O _=>O.l) r;show ba f ?_;clear f;intro o' es ep u J _;show aj t λ_ L=>bB L λN n q=>?_;rw[e] at u;(have z:=al u;clear u;subst z);rw[J] at q;show dC q
 ·show bG λU=>a_ (I.Ĭ x hk) λc f8 e Y d7=>ag Y λFU w y=>aj d7 λhX d9=>U ?_;show wpAny_storeName_cell I.ĕ hk e {FU,w,y} λh' p d=>?_;show aj (I.eQ B k hk e R C p d) λ_ r=>h h' s.Ā (λb=>b=c) (Ev.Âl d Î λo e t=>?_) (λb q=>q▸{hX,.Ġ d9}) (λa o e _ k q=>?_) r
  ·show aj t λ_ e7=>bB e7 λN n q=>?_;rw[w] at e;(have z:=al e;clear e;subst z);rw[y] at q;show dC q
  ·rw[q,w] at e;(have z:=al e;clear e;subst z);show k _ y
def BB.re(O:BB g a)(ÁG:Ï->á):BB (g.re g.X ÁG) a:={O.x,O.z,O.y,O.lo}
def AS.re(ÁG:Ï->á)(r:AS g h o v sl):AS (g.re g.X ÁG) h o v sl:=by
 cases sl using Ą.ď with
 |ê d=>show r
 |ĉ b=>show au r λa e O l=>?_;show{a,e,O.re ÁG,l}
 |sd k=>show b_ r λe O l=>?_;show{e,O.re ÁG,l}
 |td k=>show b_ r λe O l=>?_;show{e,O.re ÁG,l}
 |Az=>show r
def Č.zL(I:Č g ρ V h)(f:ρ.ĵ i=Ã)(a:á):Č (g.re g.X λj=>if j=i then a else g.ĉ j) ρ V h:=by
 exists g ρ V h i a,I f;show{I.ĩ,I.HV,I.low,I.ĕ,I.glob,I.blt,I.Âf,I.ű,I.Àp,I.ŕ,I.zx,I.lx,I.KO,I.xs,I.Az.to Î (λ_ _ _ a b c d _=>{d,a,b,c}) λx=>x,I.ũ,I.ō,I.Ĭ,I.Àq,?_,?_}
 ·show ag I.Ż λm o p=>{m,o,λj r e=>a_ (p j r e) λx v t u w=>{x,v,t,u,?_}};have q:(g.re g.X λj=>if j=i then a else g.ĉ j).ĉ j=g.ĉ j:=ß (λq=>by subst q;rw[f] at e;show nS e);rw[q];show w.re _
 ·intro j k y BQ l n z A q;have q:(if j=i then a else g.ĉ j)=(if k=i then a else g.ĉ k):=q;rw[ß (λq=>by subst q;rw[f] at l;show nS l),ß (λq=>by subst q;rw[f] at n;show nS n)] at q;show I.uniq j k y BQ l n z A q
def iH(ρ:Aa)(i:Ï):Aa.ĵ (ρ.set i Ã) i=Ã:=by
 unfold Aa.ĵ;rw[Â.getElem?_set];split
 ·split<;>rfl
 ·rename_i h;show absurd rfl h
def set_set(ρ:Aa)(i:Ï)(a b:Ë Ą):(ρ.set i a).set i b=ρ.set i b:=Â.set_set ..
def Č.ÂB(I:Č g ρ V h)(e:ρ.ĵ j=À a)(o:a.Bm=Ä):BB g (g.ĉ j):=by
 show ag I.Ż λm _ b=>a_ (b j a e) λx v _ _ r=>BB.de r o
structure Cb(g:Gd)(h:ì)(X':á->Prop):Prop where
 up:∀b,g.X b->X' b
 old:∀b o,h.Ò b=À o->X' b->g.X b
def CT(g:Gd)(ρ:Aa)(s:Ô)(o:Out Ą)(Q:Í->Ô->Prop)(E:Í->Ô->Prop):Prop:=match o with
 | .ok sl Ē=>∀v i X' h' tk,Cb g s.Ì X'->Ev g.Z g.Y s.Ì h'->Č (g.on X') ρ Ē h'->AS (g.on X') h' i v sl->(sl.Bm=Ä->¬g.X i)->Q v {s with Ì:=h',Ā:=tk}
 | .exc k Ē=>∀e h' tk,Ev g.Z g.Y s.Ì h'->Č g ρ Ē h'->Of g h' e k->E (.ò e) {s with Ì:=h',Ā:=tk}
 | .Û=>Ī
def Hp(g:Gd)(e:ý)(f:Aa->M Ą):Prop:=∀ρ V s (Q:Í->Ô->Prop) (E:Í->Ô->Prop),Č g ρ V s.Ì->CT g ρ s ((f ρ).Ĉ V) Q E->è g.cx.M g.A (ŗ e g.Ü) Q E s
def Ju(d:D):M Ą:=Ñ (.ê d)
def Mr(d:D):M Ą:=match d with
 | .É l=>Ñ (.ĉ l)
 |_=>M.Û
def CT.Ĕ{R₁:ì->β->α->Prop}{m:M α}{f:α->M Ą}(H:CT g ρ s ((m>>=f).Ĉ V) Q E)
  (K:∀a d v h u,m.Ĉ V= .ok a d->Ev g.Z g.Y s.Ì h->Č g ρ d h->R₁ h v a->CT g ρ {s with Ì:=h,Ā:=u} ((f a).Ĉ d) Q E->A v {s with Ì:=h,Ā:=u}):
  Af g ρ R₁ s (m.Ĉ V) A E:=by
 rw[ar] at H;cases c:m.Ĉ V with
 |ok a p=>
  rw[c] at H;dsimp only at H;intro v B C e z r;show K a p v B C c e z r ?_;cases i:(f a).Ĉ p with
  |ok sl J=>
   rw[i] at H;show λw L N j t G l I q n=>H w L N j t ⟨G.up,λb o O x=>by
    by_cases y:g.Y b
    ·show z.yx b y
    ·show ag (e.ë O y) λT U _=>G.old b T U x⟩ (e.Ð l) I q n
  |exc k J=>rw[i] at H;show λx j t l I q=>H x j t (e.Ð l) I q
  |Û=>rw[i] at H;show H
 |exc k p=>rw[c] at H;show H
 |Û=>rw[c] at H;show H
def Cb.ť(h:ì):Cb g h g.X:={λ_ x=>x,λ_ _ _ x=>x}
def Cb.ŧ(c:h.Ò a=Ã):Cb g h (g.ŧ a).X:={λ_ x=>.Ę x,λb o e x=>x.ç id λq=>by(rw[q,c] at e;show nS e)}
def qE(h:Ak g e f):Hp g e (λρ=>f ρ>>=Ju):=λρ V s Q E I H=>
 h ρ V s Q E I (CT.Ĕ H λd p v a t _ e b r c=>c v 0 g.X a t (Cb.ť _) (Ev.ť _ _ _) b r (λq=>nomatch q))
def Č.dN(I:Č g ρ V h)(c:h.Ò a=Ã)(l:h.ã.Ú<=a):BB (g.ŧ a) a:=by
 have n:∀{b},g.X b->b≠a:=λx q=>by show ao (I.xs _ x) λo e=>?_;rw[q,c] at e;show nS e
 show{.Ġ Î,λz=>n (I.zx _ z) rfl,λy=>n (I.yx _ y) rfl,(ao (I.xs _ I.lx) λo e=>ac I.low (ac (i5 (g3 e)) l))}
def Č.jL(I:Č g ρ V h)(c:h.Ò a=Ã)(r:Am h g.X v d)(e:Ev g.Z g.Y h h'):Am h' (g.ŧ a).X v d:=
 (r.less (Cb.ŧ c).old).ev e (λb z=>.Ę (I.zx b z)) λb y=>.Ę (I.yx b y)
def hl(h:Ex g i j):Hp g (.Â i ă) (λρ=>Di (j.Ö λf=>f ρ)>>= λds=>EZ ds>>=Mr):=λρ V s Q E I H=>by
 show List_ (gZ h V s _ I (CT.Ĕ H λds p v k t _ _ c r a=>?_));by_cases q:ds.Á<=100000
 ·have a:=by
   unfold EZ at a;rw[à q] at a;show a
  show đ ?_ (aH (by change v.ó.Ú<=_;rw[kt,r.Á];show q));have d:=ì.aJ k;show aj (c.eh (h':=k.Ŧ {ķ:=.Ċ "list",ë:=.Ĕ v.ó}) d {_,f1 _ Î} λb o e=>a0 _ e) λe l=>?_;show a _ k.ã.Ú (g.ŧ k.ã.Ú).X _ t (Cb.ŧ d) e l {v,Î,c.dN d (a3 _),{0,f1 _ Î},c.jL d r e} λ_=>c.ų
 ·unfold EZ at a;rw[ß q] at a;show a.ç
def Oi(a b:D):M Ą:=match b with
 | .Ê n=>if n<=100000/\ -100000<=n then Ñ (.ĉ (ln n.ł a)) else M.Û
 |_=>M.Û
def CT.ő{c:Prop}[ÀA c]{m:M Ą}(H:CT g ρ s ((if c then m else M.Û).Ĉ V) Q E):c/\CT g ρ s (m.Ĉ V) Q E:=by
 by_cases q:c
 ·rw[à q] at H;show{q,H}
 ·rw[ß q] at H;show H.ç
def CT.later(H:CT g ρ s o Q E)(I:Č g ρ V s.Ì)(e:Ev g.Z g.Y s.Ì d):CT g ρ {s with Ì:=d,Ā:=q} o Q E:=by
 cases o using Out.ď with
 |ok u p=>
  show λw i f h t G a c r n=>H w i f h t ⟨G.up,λb o j x=>by
    by_cases y:g.Y b
    ·show I.yx b y
    ·show ag (e.ë j y) λl m _=>G.old b l m x⟩ (e.Ð a) c r n
 |exc k p=>show λx h t a c r=>H x h t (e.Ð a) c r
 |Û=>show H
def qF{x n:ý}{p ă:Pos}{j l:Aa->M D}(r:Ak g x j)(t:∀y q,x≠ .ņ y q)(A:Ak g n l):
  Hp g (.ÂY (.Â [x] p) .Mult n ă) (λρ=>j ρ>>= λa=>l ρ>>= λb=>Oi a b):=λρ V s Q E I H=>by
 exists g x n p ă j l ρ V s Q E,r t A I H;show Àz (List_ ?_);rw[ak t];show ŝ (r ρ V s _ E I (CT.Ĕ H λa B v d7 d8 z Py d C G=>Tk ?_));exists a B v d7 d8,z Py d C G;show đ (aj (d.aW {ķ:=.Ċ "list",ë:=.Ĕ #[v]}) λe J=>(A ρ B _ _ E J (CT.Ĕ (G.later d e) λb d9 w f L z o c N h=>?_))) (by size_fits);exists b d9 w f L,z o c N h;cases b using ap with
 |Ê k=>
  obtain⟨u,Î⟩:=N.az;obtain⟨⟨O,q2⟩,h⟩:=CT.ő h;show ao c.fr λm F=>mul_list F (bC g f) (J.oG d.ų (f1 _ Î) o) (R0 _0 q2) (w3 O _0) (by simp;show R0 O _0) λh' F' T=>?_;have U:=(T _ (.Ď _)).1;have i:=ì.aJ f;show aj (c.sI (new:=[_]) i {_,U} F F' T) λY I'=>h _ f.ã.Ú (g.ŧ f.ã.Ú).X h' L (Cb.ŧ i) Y I' {ln k.ł v,Î,c.dN i (a3 _),{0,U.Ð ?_},c.jL i (Am.replicate (C.on d (e.Ð o)) _) Y} λ_=>c.ų;rw[ß (by simp),hc];simp
 |_=>show h.ç
def LH(d:D):M Ą:=match d with
 | .É l=>if l.Á<=100000 then Ñ (.ĉ l) else M.Û
 | .Ç l=>if l.Á<=100000 then Ñ (.ĉ l) else M.Û
 |_=>M.Û
def nu(T:Cm g.cx Cj)(J:Hl g e L)(N:∀y q,e≠ .ņ y q)
  (hk:g.Ü.ð x=À .ē)(O:g.cx.mg x=Ã)(U:Fk x=À (.Ċ "list"))(Y:x≠ "__name__")(h:(x==("__debug__"))=Å):
  Hp g (.Ás (.ċ x np) [e] [] ă) (λρ=>L ρ>>=LH):=λρ V s Q E I H=>by
 show W6 (ak N) (aO T I hk O U Y h (ÁZ (J ρ V s _ E I (CT.Ĕ H λa p v k t _ _ m B b=>?_))));have C:∀{x:á} {c:Â Í} {l:Â D} {T:String} {o:Obj} {n:Ï},(T= "list" \/T= "tuple")->k.Ò x=À o->o.ķ= .Ċ T->o.ë= .Ĕ c.ó n->Am k g.X c l->l.Á<=100000->CT g ρ {s with Ì:=k,Ā:=t} ((Ñ (.ĉ l):M Ą).Ĉ p) Q E->
   è g.cx.M g.A (ň (.Ċ "list") [.ò x]) Q E {s with Ì:=k,Ā:=t}:=by
  intro x c l T o n hT d f h r i H;show call_list_seq x hT d f h (λh' c' hk G=>?_) (aH (by simp[r.Á,i]));have u:=ì.aJ k;show aj (m.eh u {_,G} hk) λe I'=>H _ k.ã.Ú (g.ŧ k.ã.Ú).X h' t (Cb.ŧ u) e I' {c,Î,m.dN u (a3 _),{c',G},m.jL u r e} λ_=>m.ų
 cases a using ap with
 |É l=>
  show a_ B.aU λx c w z r=>au z λo d f j=>ao j λn h=>?_;clear z j;subst w;show aj (CT.ő b) λi b=>C (.Ę Î) d f h r i b
 |Ç l=>
  show a_ B.bO λx c w z r=>au z λo d f j=>ao j λn h=>?_;clear z j;subst w;show aj (CT.ő b) λi b=>C (.Ġ Î) d f h r i b
 |_=>show b.ç
def sT:Hp g (.Dict [] [] ă) (λ_=>(Ñ (.sd []))):=λρ V s Q E I H=>by
 rw[eval_Dict_empty];show È (ġ (đ ?_ (by size_fits)));have h:s.Ì.Ò s.Ì.ã.Ú=Ã:=ì.aJ _;show aj (I.eh (h':=s.Ì.Ŧ {ķ:=.Ċ "dict",ë:=.ĺ #[]}) h {_,f1 _ Î} λb o e=>a0 _ e) λe a=>?_;show H _ s.Ì.ã.Ú (g.ŧ s.Ì.ã.Ú).X _ s.Ā (Cb.ŧ h) e a {Î,I.dN h (a3 _),[],ì.ÁY.new s.Ì,Î,nl} λ_=>I.ų
def sU:Hp g (.Dict [] [] ă) (λ_=>(Ñ (.td []))):=λρ V s Q E I H=>by
 rw[eval_Dict_empty];show È (ġ (đ ?_ (by size_fits)));have h:s.Ì.Ò s.Ì.ã.Ú=Ã:=ì.aJ _;show aj (I.eh (h':=s.Ì.Ŧ {ķ:=.Ċ "dict",ë:=.ĺ #[]}) h {_,f1 _ Î} λb o e=>a0 _ e) λe a=>?_;show H _ s.Ì.ã.Ú (g.ŧ s.Ì.ã.Ú).X _ s.Ā (Cb.ŧ h) e a {Î,I.dN h (a3 _),[],?_,Î,nl} λ_=>I.ų
 classical show ì.ÂJ.new s.Ì
end
end
section
section
variable{g:Gd}{ρ:Aa}{V:AK}{s:Shared}{E:Value->Shared->Prop}
noncomputable def ÂZ(ĉ:Ï->á)(i:Ï)(a:á):Ï->á:=λj=>if j=i then a else ĉ j
def fW{i:Ï}{x:Þ}{v:Í}{sl:Ą}{c:á}{Q:ÂF->Ô->Prop}(I:Č g ρ V s.Ì)(l:g.nm[i]? =À x)
  (hk:g.Ü.ð x=À .local\/(g.Ü.ð x=À .Ĭ/\(x==("__classdict__" :Þ))=Å))(R:AS g s.Ì c v sl)
  (u:sl.Bm=Ä->∀j d,j≠i->ρ.ĵ j=À d->d.Bm=Ä->g.ĉ j≠c)
  (h:∀h' tk T,Ev g.Z T s.Ì h'->(∀b,T b->g.W b)->(∀a o,s.Ì.Ò a=À o->BB g a->(∀v,o.ë≠ .Ĭ v)->¬T a)->Č (g.re g.X (ÂZ g.ĉ i c)) (ρ.set i (À sl)) V h'->Q () {s with Ì:=h',Ā:=tk}):
  è g.cx.M g.A (ÁM g.Ü x v) Q E s:=by
 have m:=(I.Ń i).zL (iH ρ i) c;have w:ÂZ g.ĉ i c i=c:=à Î;show nq (g:=g.re g.X (ÂZ g.ĉ i c)) (i:=i) (sl:=sl) m l hk (by change AS _ _ (ÂZ g.ĉ i c i) v sl;rw[w];show R.re _) (λn j d f e p=>?_) λh' tk T e t r k=>?_
 ·change ÂZ g.ĉ i c j≠ÂZ g.ĉ i c i;rw[w,show ÂZ g.ĉ i c j=g.ĉ j from ß f];rcases Aa.ÀI e with⟨q,_⟩|⟨_,q⟩
  ·show absurd q f
  ·show u n j d f q p
 ·rw[set_set] at k;show h h' tk T e t (λa o y O z=>r a o y (O.re _) z) k
def Jv(f:Aa->M Ą)(i:Ï)(ρ:Aa):M (Aa×Ë D):=f ρ>>= λsl=>Ñ (ρ.set i (À sl),Ã)
def Cb.grow(G:Cb g h X'):Bo g h X':={G.old,λb x _=>G.up b x}
def iW(h:Hp g e f)(w:g.nm[i]? =À x)
  (hk:g.Ü.ð x=À .local\/(g.Ü.ð x=À .Ĭ/\(x==("__classdict__"))=Å))(y:K0 e (À (.ċ x px)) ă.Ÿ g.Ü=Ñ Å):
  CZ g (.Ř [.ċ x px] e ă) (Jv f i):=λρ V s Q E I H=>by
 show P8 (h ρ V s _ E I ?_) y;unfold Jv at H;rw[ar] at H;cases m:(f ρ).Ĉ V with
 |ok Y p=>
  rw[m] at H;intro v z c d l G e a r n;show fW (g:=g.on c) a w hk r (λA j sj hj B C q=>n A (q▸(I.ÂB B C).x)) λJ L T N u t2 O=>H .next c (ÂZ g.ĉ i z) J L G.grow ((e.yw I).cu N λb o U t=>{G.old b o U (u b t).1,(u b t).2}) O trivial
 |exc k p=>
  rw[m] at H;show λx d l e a r=>H x g.X g.ĉ ρ d l (Bo.ť _) (e.yw I) a r
 |Û=>rw[m] at H;show H
inductive GU(g:Gd):Â ý->Â (Aa->M Ą)->Prop
 |å:GU g [] []
 |Æ {e f a b}:(∀X,Hp (g.on X) e f)->(∀x p,e≠ .ņ x p)->GU g a b->GU g (e::a) (f::b)
def CF:Â (M Ą)->M (Â Ą)
 |[]=>Ñ []
 |m::l=>m>>= λa=>CF l>>= λb=>Ñ (a::b)
def iX{l:Â (M Ą)}(e:(CF l).Ĉ p= .ok b p'):b.Á=l.Á:=by
 induction l generalizing b p p' with
 |å=>cases e;rfl
 |Æ a l i=>
  show aD (aA e) λx d _ e=>aD (aA e) λf h c e=>?_;cases e;show â Ï.ś (i c)
structure PH(g:Gd)(X':á->Prop)(h:ì)(l:Â (Í×á×Ą)):Prop where
 r:∀t∈l,AS (g.on X') h t.2.1 t.1 t.2.2
 n:∀t∈l,t.2.2.Bm=Ä->¬g.X t.2.1
 d:l.ĳ λa b=>a.2.2.Bm=Ä->b.2.2.Bm=Ä->a.2.1≠b.2.1
def Rx(g:Gd)(ρ:Aa)(s:Ô)(o:Out (Â Ą))(Q:Â Í->Ô->Prop)(E:Í->Ô->Prop):Prop:=match o with
 | .ok a Ē=>∀l X' h' tk,l.Ö (·.2.2)=a->Cb g s.Ì X'->Ev g.Z g.Y s.Ì h'->Č (g.on X') ρ Ē h'->PH g X' h' l->Q (l.Ö (·.1)) {s with Ì:=h',Ā:=tk}
 | .exc k Ē=>∀e X' h' tk,Cb g s.Ì X'->Ev g.Z g.Y s.Ì h'->Č (g.on X') ρ Ē h'->Of (g.on X') h' e k->E (.ò e) {s with Ì:=h',Ā:=tk}
 | .Û=>Ī
def Cb.Ð(I:Č g ρ V h)(e:Ev g.Z g.Y h d)(a:Cb g h f)(b:Cb (g.on f) d i):Cb g h i:=⟨λx q=>b.up x (a.up x q),λx o c q=>by
 by_cases y:g.Y x
 ·show I.yx x y
 ·show ag (e.ë c y) λj k _=>a.old x o c (b.old x j k q)⟩
def sV{j:Â ý}{c:Â (Aa->M Ą)}{ă:Pos}(h:GU g j c):∀(X:á->Prop) (V:AK) (s:Ô) (Q:Â Í->Ô->Prop),Č (g.on X) ρ V s.Ì->
  Rx (g.on X) ρ s ((CF (c.Ö λf=>f ρ)).Ĉ V) Q E->è g.cx.M g.A (Âq (Âg ă (Àk j g.Ü))) Q E s:=by
 exists g ρ E j c ă,h;induction h with
 |å=>intro X V s Q I H;show Tk (H [] X s.Ì s.Ā Î (Cb.ť _) (Ev.ť _ _ _) I {nl,nl,.å})
 | @Æ e f j c h Y _ ih=>
  intro X V s Q I H;exists e f j c X V s Q,h Y a ih I H;rw[ak Y];show ŝ (h X ρ V s _ E I ?_);simp only[v7,CF] at H;rw[ar] at H;cases q:(f ρ).Ĉ V with
  |ok sl p=>
   exists sl p,q;rw[q] at H;dsimp only at H;rw[ar] at H;intro v oi e9 j7 j8 G u d9 m f6;show ih e9 p _ _ d9 ?_;cases J:(CF (c.Ö λf=>f ρ)).Ĉ p with
   |ok j9 f7=>
    rw[J] at H;rintro l L N O Î i w B C;have e7:=λo=>(BB.de m o).x;show H ((v,oi,sl)::l) L N O Î (G.Ð I u i) (u.Ð w) B ⟨K9.ĝ {AS.ev w B.zx (λb f8=>i.up b (d9.yx b f8)) (λo=>(BB.de m o).y) (AS.on i.old (λo=>i.up _ (e7 o)) m),C.r},
     K9.ĝ {f6,λt T o z=>C.n t T o (G.up _ z)},.Æ (λt T o ot z=>C.n t T ot (z▸e7 o)) C.d⟩
   |exc k f7=>
    rw[J] at H;show λU L N O i w B j3=>H U L N O (G.Ð I u i) (u.Ð w) B j3
   |Û=>rw[J] at H;show H.ç
  |exc k p=>
   rw[q] at H;show λU h' tk e I' m=>H U X h' tk (Cb.ť _) e I' m
  |Û=>rw[q] at H;show H.ç
def Oj(g:Gd)(p:(Í->Sem ÂF)×Ï):Prop:=∃x,(∀(v:Í) (Q:ÂF->Ô->Prop) (E:Í->Ô->Prop) (s:Ô),è g.cx.M g.A (ÁM g.Ü x v) Q E s->è g.cx.M g.A (p.1 v) Q E s)/\g.nm[p.2]? =À x/\(g.Ü.ð x=À .local\/(g.Ü.ð x=À .Ĭ/\(x==("__classdict__" :Þ))=Å))
def Gx:Aa->Â Ï->Â Ą->Aa
 |ρ,i::a,sl::l=>Gx (ρ.set i (À sl)) a l
 |ρ,_,_=>ρ
def AS.obj(r:AS g h i v sl)(b:sl.Bm=Ä):∃o,h.Ò i=À o/\(∀v,o.ë≠ .Ĭ v)/\¬FX o:=by
 exists g h i v sl,r b;cases sl using Ą.ď with
 |ĉ=>show jA r λ_ _ _ p _=>ao p λn p=>{_,p,λ_ z=>dC z,λt=>absurd (Í.Ċ.inj t.1) _0}
 |sd=>show au r.2.2 λ_ a _ _=>gR a λo c f e _ d _=>{o,e,λ_ z=>dC (d.symm.Ð z),λt=>bB t.2 λ_ _ z=>dC (d.symm.Ð z)}
 |td=>show au r.2.2 λ_ a _ _=>gR a λo c f e _ d _=>{o,e,λ_ z=>dC (d.symm.Ð z),λt=>bB t.2 λ_ _ z=>dC (d.symm.Ð z)}
 |ê|Az=>show fT b
def stores{m:Â ((Í->Sem ÂF)×Ï)}(S:∀p∈m,Oj g p):∀(ĉ:Ï->á) (ρ:Aa) (s:Ô) (l:Â (Í×á×Ą)) (Q:ÂF->Ô->Prop),l.Á=m.Á->Č (g.re g.X ĉ) ρ V s.Ì->(∀t∈l,AS g s.Ì t.2.1 t.1 t.2.2)->
  (l.ĳ λa b=>a.2.2.Bm=Ä->b.2.2.Bm=Ä->a.2.1≠b.2.1)->(∀t∈l,t.2.2.Bm=Ä->∀k BQ,ρ.ĵ k=À BQ->BQ.Bm=Ä->ĉ k≠t.2.1)->
  (∀h' tk ÁG,Ev g.Z g.W s.Ì h'->Č (g.re g.X ÁG) (Gx ρ (m.Ö (·.2)) (l.Ö (·.2.2))) V h'->Q () {s with Ì:=h',Ā:=tk})->è g.cx.M g.A (ÁA (m.Ö (·.1)) (l.Ö (·.1))) Q E s:=by
 exists g V E m,S;induction m with
 |å=>
  intro ĉ ρ s l Q h I _ _ _ f;obtain rfl:=l5 h;show assignInOrder_nil (f s.Ì s.Ā ĉ (Ev.ť _ _ _) I)
 |Æ p m C=>
  intro ĉ ρ s l Q h I n i v f;cases l using i2 with
  |å=>cases h
  |Æ t l=>
   show au (S p (.Ď _)) λx G H J=>?_;rw[S5] at i;show assignInOrder_cons (G t.1 _ _ _ (fW (g:=g.re g.X ĉ) I H J ((n t (.Ď _)).re _) (λc j L hj N O=>v t (.Ď _) c j L N O) λh' tk T e w U Y=>C (λp hp=>S p (.ě _ hp)) (ÂZ ĉ p.2 t.2.1) (ρ.set p.2 (À t.2.2)) _ l Q (Ï.ś.inj h) Y (λu d=>?_) i.2 (λu d y k BQ ek B=>?_) λd9 e7 ÁG e' e9=>?_))
   ·have r:=n u (.ě _ d);show AS.ev e I.zx (λb t=>(w b t).1) (λc tt=>au (r.obj c) λo eo hc _=>U _ o eo ((BB.de r c).re _) hc tt) r
   ·rcases Aa.ÀI ek with⟨Î,q⟩|⟨f9,q⟩
    ·rw[show ÂZ ĉ p.2 t.2.1 p.2=t.2.1 from à Î];show i.1 u d (by rw[al q];show B) y
    ·rw[show ÂZ ĉ p.2 t.2.1 k=ĉ k from ß f9];show v u (.ě _ d) y k BQ q B
   ·show f d9 e7 ÁG ((e.mono (λ_ _ _ z=>z) λb _ _ t=>(w) b t).Ð e') e9
inductive Ez(g:Gd):Â ý->Â Þ->Â Ï->Prop
 |å:Ez g [] [] []
 |Æ {x p i e xs a}:g.nm[i]? =À x->(g.Ü.ð x=À .local\/(g.Ü.ð x=À .Ĭ/\(x==("__classdict__" :Þ))=Å))->Ez g e xs a->Ez g (.ċ x p::e) (x::xs) (i::a)
def Ez.ş(N:Ez g c xs d):c.Á=d.Á/\xs.Á=d.Á/\ÀE c g.Ü=c.Ö (λt=>(Å,Àf t g.Ü))/\
  (∃m:Â ((Í->Sem ÂF)×Ï),m.Ö (·.1)=c.Ö (λt=>Àf t g.Ü)/\m.Ö (·.2)=d/\∀p∈m,Oj g p)/\∃m:Â ((Í->Sem ÂF)×Ï),m.Ö (·.1)=xs.Ö (λn=>bindName g.Ü n)/\m.Ö (·.2)=d/\∀p∈m,Oj g p:=by
 exists g c xs d,N;induction N with
 |å=>show{Î,Î,Î,{[],Î,Î,nl},[],Î,Î,nl}
 | @Æ x p i j k GV a b a1 f=>
  exists x p i j k GV,a b a1 f;obtain⟨l,o,e,⟨m,m1,m2,m3⟩,n,n1,n2,n3⟩:=f;show⟨â Ï.ś l,â Ï.ś o,by rw[v7,<-e];rfl,{(_,_)::m,â _ m1,â _ m2,K9.ĝ {{_,λv Q E s h=>W1 h,a,b},m3}},
   (_,_)::n,â _ n1,â _ n2,K9.ĝ {{_,λv Q E s h=>wpAny_bindName h,a,b},n3}⟩
def Ol(r:é)(a:Â (Aa->M Ą))(i:Â Ï)(ρ:Aa):M (Aa×Ë D):=CF (a.Ö λf=>f ρ)>>= λl=>Ñ (if r then Gx ρ i.Ė l.Ė else Gx ρ i l,Ã)
def sW{L:é}{d7 C:Â ý}{î:Â Þ}{k k':Ï}{tp vp ă:Pos}{T:Â (Aa->M Ą)}{U:Â Ï}(h:GU g C T)(N:Ez g d7 î U)(hl:C.Á=U.Á)(k6:C.Á<=1000)
  (hs:swapsWithSole [.Ů d7 k tp] (.Ů C k' vp) ă.Ÿ g.Ü=Ñ Å)(hw:Yi [.Ů d7 k tp] (.Ů C k' vp) g.Ü=Ñ (if L then À î else Ã)):
  CZ g (.Ř [.Ů d7 k tp] (.Ů C k' vp) ă) (Ol L T U):=λρ V s Q E I H=>by
 exists g L d7 C î k k' tp vp ă T U ρ V s Q E,h N hl k6 hs hw I H;unfold Ol at H;rw[ar] at H;have k7:∀(Qf:Í->Ô->Prop),(∀l i c p u t,(CF (T.Ö λf=>f ρ)).Ĉ V= .ok (l.Ö (·.2.2)) p->Cb g s.Ì i->Ev g.Z g.Y s.Ì c->Č (g.on i) ρ p c->PH g i c l->l.Á=U.Á->
   IsTup c t (l.Ö (·.1)).ó->Qf (.ò t) {s with Ì:=c,Ā:=u})->è g.cx.M g.A (ŗ (.Ů C k' vp) g.Ü) Qf E s:=by
  intro Qf hQ;show Tuple_ (sV h g.X V s _ I ?_);cases O:(CF (T.Ö λf=>f ρ)).Ĉ V with
  |ok q8 p=>
   rintro l i c u Î G e v B;have J:l.Á=U.Á:=by
    have h2:∀{C:Â ý} {T:Â (Aa->M Ą)},GU g C T->T.Á=C.Á:=λh=>by
     induction h with
     |å=>rfl
     |Æ _ _ _ ih=>show â Ï.ś ih
    rw[<-a2 (λt:Í×á×Ą=>t.2.2),iX O,a2,h2 h,hl]
   show đ ?_ (aH (by change(l.Ö (·.1)).ó.Ú<=_;rw[kt,a2];show ln3 (fA J) k6 (kV hl)));show aj (v.aW {ķ:=.Ċ "tuple",ë:=.Ĕ (l.Ö (·.1)).ó}) λj7 j8=>hQ l i _ p u c.ã.Ú O G (e.Ð j7) j8 {λt y=>AS.ev (g:=g.on i) (Y:=λ_=>Ī) (.Ĩ λb o eb=>a0 _ eb) v.zx (λ_ q=>q.ç) (λ_ q=>q) (B.r t y),B.n,B.d} J (IsTup.new _ _)
  |exc kx p=>
   rw[O] at H;show λj9 i c u G e v m5=>H j9 i g.ĉ ρ c u G.grow (e.yw I) v m5
  |Û=>rw[O] at H;show H
 have k8:∀{m:Â ((Í->Sem ÂF)×Ï)} {l l':Â (Í×á×Ą)} {i:á->Prop} {c d9:ì} {p:AK} {u:Ï},(∀p∈m,Oj g p)->(CF (T.Ö λf=>f ρ)).Ĉ V= .ok (l.Ö (·.2.2)) p->m.Ö (·.2)=(if L then U.Ė else U)->l'=(if L then l.Ė else l)->Cb g s.Ì i->Ev g.Z g.Y s.Ì c->Č (g.on i) ρ p c->
   PH g i c l->l.Á=U.Á->YA c.ã.Ú c d9->è g.cx.M g.A (ÁA (m.Ö (·.1)) (l'.Ö (·.1))) (λ_=>Q .next) E {s with Ì:=d9,Ā:=u}:=by
  intro m l l' i c d9 p u S O k9 f8 G e v B J he;have l6:∀t∈l',t∈l:=by
   intro t y;rw[f8] at y;cases L using ci with
   |Ä=>show SC.mp y
   |Å=>show y
  show aj (v.ŉ he) λj7 j8=>stores (g:=g.on i) S g.ĉ ρ {s with Ì:=d9,Ā:=u} l' _ ?_ j8 (λt y=>AS.ev (g:=g.on i) (Y:=λ_=>Ī) (.Ĩ λb o eb=>he b o (I9 (g3 eb)) eb) v.zx (λ_ q=>q.ç) (λ_ q=>q) (B.r t (l6 t y))) ?_
   (λt y ot j sj ej oj z=>B.n t (l6 t y) ot (z▸(I.ÂB ej oj).x)) λm9 o0 o4 e' f9=>?_
  ·have:=â Â.Á k9;rw[a2] at this;rw[this,f8];cases L using ci with
   |Ä=>show(U6.Ð J).Ð U6.symm
   |Å=>show J
  ·rw[f8];cases L using ci with
   |Ä=>show Â.pairwise_reverse.ĝ (B.d.imp λh a b q=>h b a q.symm)
   |Å=>show B.d
  ·rw[O] at H;show H .next i o4 m9 o0 G.grow ((e.Ð j7).yw I|>.cu e' λb o eb w=>{G.old b o eb w.1,w.2}) ?_ trivial
   rw[k9,f8] at f9;cases L using ci with
   |Ä=>rw[à Î,à Î,SL] at f9;show f9
   |Å=>show f9
 obtain⟨n1,n2,n3,⟨m,m1,m2,m3⟩,m',q1,q2,q3⟩:=N.ş;cases hr:L with
 |Å=>
  subst hr;show Assign_Tuple (k7 _ λl i c p u t O G e v B J y=>?_) hs hw;show assign_Tuple_tuple (s:={s with Ì:=c,Ā:=u}) v.Âf y (by rw[n3,a2,kt,a2,J,n1]) (by rw[n3];simp) λd9 he=>?_;rw[n3,lf,show Â.Ö ((λj9=>j9.2)∘ λt=>(Å,Àf t g.Ü)) d7=m.Ö (·.1) from m1.symm];show k8 m3 O m2 Î G e v B J he
 |Ä=>
  subst hr;show Assign_Tuple_swapped (î:=î) (k7 _ λl i c p u t O G e v B J y=>?_) hs hw;rw[show î.Á=(l.Ö (·.1)).ó.Ú by rw[kt,a2,J,n2]];show Ân.Rows.unpackItems_tuple (s:={s with Ì:=c,Ā:=u}) v.Âf y λd9 he=>?_;rw[SL,<-q1,<-SL,show(l.Ö (·.1)).ó.Ħ.Ė=l.Ė.Ö (·.1) from SL.symm];show k8 (λp hp=>q3 p (SC.mp hp)) O (by rw[SL,q2];rfl) rfl G e v B J he
end
end
section
def DR(k:Aa->M (Aa×Ë D))(r:Aa×Ë D):M (Aa×Ë D):=match r.2 with
 |Ã=>k r.1
 |À d=>Ñ (r.1,À d)
def Dy(c:Aa->M é)(b:Aa->M (Aa×Ë D)):Ï->Aa->M (Aa×Ë D)
 |0,_=>M.Û
 |n+1,ρ=>c ρ>>= λt=>if t then b ρ>>=DR (Dy c b n) else Ñ (ρ,Ã)
open Classical in
def GF(c:Aa->M é)(b:Aa->M (Aa×Ë D))(ρ:Aa):M (Aa×Ë D):={λp=>if h:∃n,(Dy c b n ρ).Ĉ p≠ .Û then(Dy c b h.choose ρ).Ĉ p else .Û}
def wt(h:(GF c b ρ).Ĉ p= .ok r p'):∃n,(Dy c b n ρ).Ĉ p= .ok r p':=by
 unfold GF at h;dsimp only at h;split at h
 ·show{_,h}
 ·show oC h
def EA(t:Tg)(b:Aa->M (Aa×Ë D)):Â D->Aa->M (Aa×Ë D)
 |[],ρ=>Ñ (ρ,Ã)
 |d::ds,ρ=>t.put d ρ>>= λρ'=>b ρ'>>=DR (EA t b ds)
section
variable{g:Gd}{E:Value->Shared->Prop}
def DV.ok{e:ý}{f:Aa->M D}(h:DV g e f){ρ:Aa}{p Ē:AK}{s:Ô}{b:é}{Q:é->Ô->Prop}(I:Č g ρ p s.Ì)(r:(f ρ>>=Aw).Ĉ p= .ok b Ē)
  (a:∀h' tk,Ev g.Z g.Y s.Ì h'->Č g ρ Ē h'->Q b {s with Ì:=h',Ā:=tk}):è g.cx.M g.A (ÂK e g.Ü (ŗ e g.Ü)) Q E s:=
 h ρ p s _ Q E I (by rw[r];rintro v h' tk e c Î;show a h' tk e c) rfl
def DW.ok{t:Â Ĵ}{f:Aa->M (Aa×Ë D)}(h:DW g t f){ρ:Aa}{p Ē:AK}{s:Ô}{r:Aa×Ë D}{Q:Flow->Ô->Prop}(I:Č g ρ p s.Ì)(a:(f ρ).Ĉ p= .ok r Ē)
  (b:∀l X' ÁG h' tk,Bo g s.Ì X'->Ev g.Z g.W s.Ì h'->Č (g.re X' ÁG) r.1 Ē h'->Nu (g.re X' ÁG) h' l r.2->Q l {s with Ì:=h',Ā:=tk}):è g.cx.M g.A (Ák t g.Ü) Q E s:=
 h ρ p s Q E I (by rw[a];show b)
def Bo.Ð{ĉ:Ï->á}(a:Bo g h d)(e:Ev g.Z g.W h f)(b:Bo (g.re d ĉ) f i):Bo g h i:=⟨λx o c q=>by
 by_cases w:g.W x
 ·show w.1
 ·show ag (e.ë c w) λj k _=>a.old x o c (b.old x j k q),λx q l=>b.č x (a.č x q l) l⟩
def Ev.eS{ĉ:Ï->á}(a:Bo g h c)(e:Ev g.Z g.W h d)(f:Ev g.Z (g.re c ĉ).W d i):Ev g.Z g.W h i:=
 e.cu f λb o j w=>{a.old b o j w.1,w.2}
def Ry(w:(Aa->M é)->(Aa->M (Aa×Ë D))->Aa->M (Aa×Ë D))(c:Aa->M D)(b:Aa->M (Aa×Ë D))(ρ:Aa):M (Aa×Ë D):=Bh (w (λρ=>c ρ>>=Aw) b ρ)
def hn{m:M α}{p:AK}:(∃a p',m.Ĉ p= .ok a p'/\(Bh m).Ĉ p= .ok a p')\/(Bh m).Ĉ p= .Û:=by
 unfold Bh;dsimp only;cases h:m.Ĉ p with
 |ok a p'=>show .Ę {a,p',Î,Î}
 |exc=>show .Ġ Î
 |Û=>show .Ġ Î
inductive Vh(g:Gd)(s:Ô)(c:Aa->M é)(b:Aa->M (Aa×Ë D))(r:Aa×Ë D)(Ē:AK):Ï->Ô->Prop
 |mk (n X ĉ h tk a p):Bo g s.Ì X->Ev g.Z g.W s.Ì h->Č (g.re X ĉ) a p h->(Dy c b n a).Ĉ p= .ok r Ē->Vh g s c b r Ē n {s with Ì:=h,Ā:=tk}
def nv{c:ý}{b:Â Ĵ}{ă:Pos}{j:Aa->M D}{fb:Aa->M (Aa×Ë D)}(O:∀X ĉ,DV (g.re X ĉ) c j)(T:∀X ĉ,DW (g.re X ĉ) b fb):
  CZ g (.While c b [] ă) (Ry GF j fb):=λi o s Q E I H=>by
 exists g c b ă j fb i o s Q E,O T I H;unfold Ry at H;rcases hn (m:=GF (λi=>j i>>=Aw) fb i) (p:=o) with⟨r,U,V,l⟩|l
 ·exists r U,V l;rw[l] at H;show ao (wt V) λn Y=>?_;exists n,Y;show wpAny_While (codeAny_whileLoop (Vh g s (λi=>j i>>=Aw) fb r U) ?_ n (.mk n g.X g.ĉ s.Ì s.Ā i o (Bo.ť _) (Ev.ť _ _ _) I Y));rintro n s' ⟨X,ĉ,h,tk,j3,j4,G,e,q,a⟩;exists n X ĉ h tk j3 j4,G e q a;cases n with
  |ž=>show bf a
  |ś n=>
   exists n,a;show aD (aA a) λt j5 u a=>(O X ĉ).ok (s:={s with Ì:=h,Ā:=tk}) q u λw x d8 y=>?_;exists t j5 w x,u a d8 y;have z:=Ev.eS (ĉ:=ĉ) G e (d8.yw q);clear u;cases t using ci with
   |Å=>
    rw[ß (by simp)] at a⊢;cases a;show V4 (H .next X ĉ w x G z y trivial)
   |Ä=>
    rw[à Î] at a⊢;show aD (aA a) λd9 e7 A a=>(T X ĉ).ok (s:={s with Ì:=w,Ā:=x}) y A λB C J L N e8 e9 k f=>?_;exists d9 e7 B C J L N,A a e8 e9 k f;have G':=Bo.Ð (ĉ:=ĉ) G z e8;have f7:=Ev.eS (ĉ:=ĉ) G z e9;clear A;obtain⟨f8,f9⟩:=d9;exists f8 f9,a k f;cases f9 using i7 with
    |Ã=>
     cases B using P0 with
     |next=>show{n,p1 _,.mk n C J L N f8 e7 G' f7 k a}
     |Ũ v=>show f.ç
     |brk|cont=>show f.ç
    |À d=>
     exists d,a k f;simp only[DR] at a;cases a;cases B using P0 with
     |Ũ v=>show H (.Ũ v) C J L N G' f7 k f
     |next=>show f.ç
     |brk|cont=>show f.ç
 ·rw[l] at H;show H.ç
def Am.grow{Z U:á->Prop}(r:Am h d vs ds)(e:Ev Z U h h')(f:∀b,U b->d b)(hz:∀b,Z b->d b)(l:∀b o,h.Ò b=À o->i b->d b):Am h' i vs ds:=by
 show ag r ?_;clear r;intro s r p;show{s,aT e r λa c=>{λu=>p a c (f a u),λz=>p a c (hz a z)},λa c x=>?_};show ao (eN r a c) λo j=>p a c (l a o j x)
def HY(o:Ë Ï)(ρ:Aa):Aa:=match o with
 |Ã=>ρ
 |À i=>ρ.set i Ã
def Ms(F:Aa->M (Â D))(o:Ë Ï)(t:Tg)(b:Aa->M (Aa×Ë D))(ρ:Aa):M (Aa×Ë D):=F ρ>>= λds=>Bh (EA t b ds (HY o ρ))
def Č.zM{r:AK}(I:Č g ρ r h)(d:Ë Ï)(s:∀i,d=À i->∃t,ρ.ĵ i=À (.td t)):
  ∃X,(∀b,X b↔g.X b/\∀i,d=À i->b≠g.ĉ i)/\(∀b,g.X b->b<g.lo->X b)/\Č (g.on X) (HY d ρ) r h:=by
 exists g ρ r h d,I s;cases d using i7 with
 |Ã=>show{g.X,λb=>{λa=>{a,λi q=>nomatch q},λa=>a.1},λb a _=>a,I}
 |À i=>
  show ao (s i Î) λt p=>?_;exists i t,s p;have O:=I.ÂB p Î;show{λb=>g.X b/\b≠g.ĉ i,λb=>{λa=>{a.1,λj q=>by(have n:=al q;clear q;subst n);show a.2},λa=>{a.1,a.2 i Î}},λb a l=>{a,λq=>by(have:=O.lo;rw[<-q] at this;show absurd l (i8.ĝ this))},?_};show ag I.Ż λm V A=>bG λG=>a_ (A i _ p) λ_ _ _ _ B=>?_;obtain⟨_,_,Y,⟨d,es,ep,C,_,H,_⟩,_⟩:=B;show G ?_;clear G;show(I.Ń i).on (λb o _ a=>a.1) (λb a=>I.xs b a.1) (λb f=>{I.zx b f,λq=>O.z (q▸f)}) (λb u=>{I.yx b u,λq=>O.y (q▸u)}) ?_ ?_
  ·intro a J c L;show bG λG=>a_ (I.Ĭ a J) λc' v e N Q=>ag N λo k w=>aj Q λq q'=>G ?_;rw[L] at e;(have n:=al e;clear e;subst n);show{q,λf=>?_};rw[f,C] at k;(have n:=al k;clear k;subst n);rw[H] at w;show dC w
  ·intro j T e k;rcases Aa.ÀI e with⟨_,q⟩|⟨U,q⟩
   ·show nS q
   ·show{(I.ÂB q k).x,λf=>U (I.uniq j i T _ q p k Î f)}
inductive TX(g:Gd)(s:Ô)(f:Â á)(vs:Â Í)(e ds:Â D)(St:Ï->ì->Prop)(t:Tg)(b:Aa->M (Aa×Ë D))(r:Aa×Ë D)(Ē:AK):Ï->Ô->Prop
 |mk (X ĉ h tk a p i):Bo g s.Ì X->Ev g.Z g.W s.Ì h->Č (g.re X ĉ) a p h->St i h->Am h X vs e->(∀b∈f,(∃o,h.Ò b=À o)/\¬X b)->(EA t b (ds.Ń i) a).Ĉ p= .ok r Ē->i<=ds.Á->
   TX g s f vs e ds St t b r Ē (ds.Á+1 -i) {s with Ì:=h,Ā:=tk}
def sX{L Ļ:ý}{Ć:Â Ĵ}{ă:Pos}{n:Ë Ï}{t:Tg}{F:Aa->M (Â D)}{fb:Aa->M (Aa×Ë D)}(hI:Fg g L Ļ n F)(hF:∀ρ p ds p',(F ρ).Ĉ p= .ok ds p'->∀i,n=À i->∃v0,ρ.ĵ i=À (.td v0))
  (hT:∀X ĉ,CY (g.re X ĉ) (g.re X ĉ).W L t)(c:∀X ĉ,DW (g.re X ĉ) Ć fb)(hs:∀x,ı Ļ g.Ü x=Ñ x):
  CZ g (.For L Ļ Ć [] ă) (Ms F n t fb):=λρ f9 s Q E I H=>by
 exists g L Ļ Ć ă n t F fb ρ f9 s Q E,hI hF hT c hs I H;show wpAny_For (hI ρ f9 s _ E I (An.Ĕ (R₁:=Ready g L n s.Ì) I H λds j3 it e9 m0 j4 m5 m6 rd j5=>?_)) hs;obtain⟨Ia,u,wr,N,O,P,Md,St,Î,S,st,r,m9,j6⟩:=rd;rcases(hn (m:=EA t fb ds (HY n ρ)) (p:=j3)).symm with Y|⟨T,V,hm,Y⟩
 ·rw[Y] at j5;show j5.ç
 exists ds j3 e9 m0 Ia u wr N O P Md St T V,j4 m5 m6 j5 S st r m9 j6 hm Y;have o0:An g s (.ok T V) Q E:=by
  have e:(Ms F n t fb ρ).Ĉ f9= .ok T V:=by
   unfold Ms;rw[ar,j4];show Y
  rw[<-e];show H
 show au (m6.zM n (hF _ _ _ _ j4)) λd7 f6 o4 J=>?_;exists d7,f6 o4 J;have v8:Bo g s.Ì d7:={λb o _ x=>((f6 b).mp x).1,o4};have v9:∀b∈u,(∃o,e9.Ò b=À o)/\¬d7 b:=λb c=>⟨(j6 b c).1,λx=>by
  show aj ((f6 b).mp x) λx1 x2=>?_;rcases(j6 b c).2 with q|⟨i,q1,q2,_⟩
  ·show q x1
  ·show x2 i q1 q2⟩
 have w5:Am e9 d7 N O:=r.less λb o _ x=>((f6 b).mp x).1;show codeAny_forLoop_any (TX g s u N O ds St t fb T V) ?_ (ds.Á+1) (.mk d7 g.ĉ e9 m0 (HY n ρ) j3 0 v8 (m5.yw I) J st w5 v9 (by simpa using hm) (j0 _));rintro k s' ⟨X,ĉ,h,tk,w7,w8,i,G,e,f7,d8,o5,y,l,hi⟩;exists X ĉ h tk w7 w8 i,G e f7 d8 o5 y l hi;have o6:ÂA (g.re X ĉ) L Ia u wr ds N O P Md St:=S.to Î Î λb c=>(y b (S.Ž b c)).2;have o7:∀{a b:ì},Ev g.Z g.W s.Ì a->Kw wr a b->(∀b∈wr,RecAt a b)->Ev g.Z g.W s.Ì b:=λe k f=>e.cu (U:=λb=>b∈wr) (k.ev f λb c=>c) λb o eb c=>by(rw[m9 b c] at eb;show nS eb)
 by_cases A:i<ds.Á
 ·have hd:ds.Ń i=ds[i]::ds.Ń (i+1):=IR A;rw[hd] at l;show aD (aA l) λB4 B5 x7 l=>aD (aA l) λx8 o9 q8 l=>o6.next f7 A d8 o5 λv d B6 B7 j9 B8 go=>?_
  have:d=ds[i]:=by rw[ch A] at j9;show(al j9).symm
  clear j9;subst this;show go _ _ λq9 s0 k6 rv s8 z0=>?_;have t4:=o7 e s0 (S.Dt i _ d8);have z3:∀b∈u,(∃o,q9.Ò b=À o)/\¬X b:=λb c=>⟨by
   by_cases hw:b∈wr
   ·show aD (S.Dt (i+1) _ s8 b hw) λo _ B _=>?_;show{o,B}
   ·show ao ((y b c).1) λo B=>?_;show{o,s0 b o hw B},(y b c).2⟩
  show cL (g:=g.re X ĉ) (U:=(g.re X ĉ).W) k6.yw (λb w=>w.1) (hT X ĉ) k6 rv x7 λt8 z4 d9 t9=>?_;have up:∀{a b:ì} {j:Ï},Ev g.Z (g.re X ĉ).W a b->St j a->St j b:=λe x=>S.GN _ _ _ _ _ e (λx C=>{λw=>(y x C).2 w.1,λz=>(y x C).2 (f7.zx x z)}) x;have u1:∀{a b:ì},Ev g.Z (g.re X ĉ).W a b->(∀x∈u,∃o,a.Ò x=À o)->∀x∈u,∃o,b.Ò x=À o:=λe q x C=>by
   show ao (q x C) λo B=>ag (e.ë B λw=>(y x C).2 w.1) λo' z7 _=>{o',z7}
  show(c X ĉ).ok (s:={s with Ì:=t8,Ā:=z4}) t9 q8 λfl X' u3 e7 k8 k9 f8 u4 fr=>?_;have z8:Ev g.Z (g.re X ĉ).W q9 e7:=d9.Ð f8;have u5:Ev g.Z g.W s.Ì e7:=Ev.eS (ĉ:=ĉ) G (Ev.eS (ĉ:=ĉ) G t4 d9) f8;have G':Bo g s.Ì X':=Bo.Ð (ĉ:=ĉ) G (Ev.eS (ĉ:=ĉ) G t4 d9) k9;clear q8;obtain⟨u8,z9⟩:=x8;cases z9 using i7 with
  |Ã=>
   have l:(EA t fb (ds.Ń (i+1)) u8).Ĉ o9= .ok T V:=l;have nx:∃m,m<ds.Á+1 -i/\TX g s u N O ds St t fb T V m {s with Ì:=e7,Ā:=k8}:=by
    have f5:=u1 d9 λx C=>(z3 x C).1;show{ds.Á+1 -(i+1),NE (AC A) (p1 i),.mk X' u3 e7 k8 u8 o9 (i+1) G' u5 u4 (up z8 s8) ?_ (λb c=>{u1 f8 f5 b c,λx=>?_}) l A}
    ·have r5:Am t8 X N O:=z0.ev (X:=X) d9 k6.zx λb w=>w.1;show r5.grow f8 (λb w=>w.1) t9.zx k9.old
    ·show ao (f5 b c) λo B=>(y b c).2 (k9.old b o B x)
   cases fl using P0 with
   |next=>show nx
   |Ũ v=>show fr.ç
   |brk|cont=>show fr.ç
  |À d=>
   simp only[DR] at l;cases l;cases fl using P0 with
   |Ũ v=>show o0 (.Ũ v) X' u3 e7 k8 G' u5 u4 fr
   |next=>show fr.ç
   |brk|cont=>show fr.ç
 ·have A6:i=ds.Á:=Q2 hi (i8.mp A);clear hi A;subst A6;rw[X8] at l;clear hm Y;obtain⟨Î,Î⟩:=bH l;show o6.end f7 d8 λh' A8 kw I' Rw=>V4 (o0 .next X ĉ h' A8 G (o7 e kw (S.Dt _ _ d8)) I' trivial)
end
end
section
section
variable{g:Gd}{ρ:Aa}{V:AK}{s:Shared}{E:Value->Shared->Prop}
def AS.ò(r:AS g h o v sl)(a:sl.Bm=Ä):v= .ò o:=by
 cases sl using Ą.ď with
 |ĉ=>show r.ż.1
 |sd=>show r.1
 |td=>show r.1
 |ê|Az=>show fT a
def Č.mutated{h h':ì}{i:Ï}{sl sl':Ą}(I:Č g ρ V h)(k:ρ.ĵ i=À sl)(a:sl.Bm=Ä)(d8:sl'.Bm=Ä)(n:ut (g.ĉ i) h h')(J:∃o,h'.Ò (g.ĉ i)=À o)
  (R:BB g (g.ĉ i)->Ev g.Z (λb=>b=g.ĉ i) h h'->(∀b,b=g.ĉ i->g.X b)->AS g h' (g.ĉ i) (.ò (g.ĉ i)) sl'):Ev g.Z g.W h h'/\Č g (ρ.set i (À sl')) V h':=by
 have O:=I.ÂB k a;show ag I.Ż λm L C=>a_ (C i sl k) λxi vi N Q G=>au (G.obj a) λoo H T U=>?_;have E:=Ev.Âl (Z:=g.Z) (Y:=λb=>b=g.ĉ i) n Î λo e=>by rw[H] at e;show al e▸U
 have t:∀b,b=g.ĉ i->g.X b:=λb q=>q▸O.x;have u:∀(c:á) (v:Ë Í),h.Ŝ c v->h'.Ŝ c v:=λc v q=>ag q λo' e d=>{o',(n.2 c (λq=>by rw[q,H] at e;obtain rfl:=al e;show T _ d)).Ð e,d};show⟨E.mono (λ_ _ _ f=>f) λb _ _ q=>q▸{O.x,.Ġ O.lo},I.pre (X':=g.X) (Nq.Âl I n E O.x O.z J O.y λc v q=>{v,u c v q}) (I.Az.ev E I.zx t (λb q e=>O.p (e▸q))) (DB.set (X':=g.X) C I.Àq N (λ_ _=>rfl) (L.Áe n (λq=>O.l q.symm)) (G.ò a▸Q.Ö u) (λ_ c v _ _=>u c v)
  (λj w _ A q r=>AS.ev E I.zx t (λB f=>A (I.uniq j i w sl q k B a f)) r) (R O E t)) (Ga.set I.uniq λ_ j w A q B f=>A (I.uniq j i w sl q k B a f))⟩
def Č.ho(I:Č g ρ V h)(e:ρ.ĵ i=À sl):∃v,AS g h (g.ĉ i) v sl:=ag I.Ż λ_ _ a=>a_ (a i _ e) λ_ v _ _ r=>{v,r}
def Č.dx(I:Č g ρ V h)(e:ρ.ĵ i=À (.ĉ l)):∃vs n,h.Ò (g.ĉ i)=À {ķ:=.Ċ "list",ë:=.Ĕ vs.ó n}/\Am h g.X vs l:=
 ao (I.ho e) λ_ r=>jA r λvs _ _ p r=>ao p λn p=>{vs,n,p,r}
def Č.ei{i:Ï}{l l':Â D}{vs':Â Í}(I:Č g ρ V h)(e:ρ.ĵ i=À (.ĉ l))(a:ut (g.ĉ i) h h')(p:h'.ÁK (g.ĉ i) (FM vs'))(r:Am h g.X vs' l'):
  Ev g.Z g.W h h'/\Č g (ρ.set i (À (.ĉ l'))) V h':=
 I.mutated e Î (sl':=.ĉ l') rfl a (p.ç λ_ q=>{_,q}) λO E x=>{vs',Î,O,p,r.ev E I.zx x}
theorem An.DU{α:Type}{f:Ą->Ë α}{F:α->M (Aa×Ë D)}(H:An g s ((DU f i ρ>>=F).Ĉ V) Q E):∃sl a,ρ.ĵ i=À sl/\f sl=À a/\An g s ((F a).Ĉ V) Q E:=fB (P:=λo=>An g s o Q E) id H
def An.ĉ{F:Â D->M (Aa×Ë D)}(H:An g s ((ER i ρ>>=F).Ĉ V) Q E):∃l,ρ.ĵ i=À (.ĉ l)/\An g s ((F l).Ĉ V) Q E:=a_ H.DU λ_ l e q H=>{l,Ą.aa2 q▸e,H}
def An.sd{F:Â (Þ×D)->M (Aa×Ë D)}(H:An g s ((HW i ρ>>=F).Ĉ V) Q E):∃l,ρ.ĵ i=À (.sd l)/\An g s ((F l).Ĉ V) Q E:=a_ H.DU λ_ l e q H=>{l,Ą.s_eq q▸e,H}
def An.td{F:Â (D×D)->M (Aa×Ë D)}(H:An g s ((DC i ρ>>=F).Ĉ V) Q E):∃l,ρ.ĵ i=À (.td l)/\An g s ((F l).Ĉ V) Q E:=a_ H.DU λ_ l e q H=>{l,Ą.so q▸e,H}
def aK{x:Þ}(a:g.nm[i]? =À x)(d:(x==("__debug__"))=Å)(I:Č g ρ V s.Ì)(b:ρ.ĵ i=À sl)(o:sl.Bm=Ä)(h:Q (.ò (g.ĉ i)) s):
  è g.cx.M g.A (ŗ (.ċ x ă) g.Ü) Q E s:=by
 show ag I.Ż λm n c=>a_ (c i _ b) λy v e f j=>?_;rw[a] at e;obtain rfl:=al e;obtain rfl:=j.ò o;show dg I.ĕ n f d h
def Jw(i:Ï)(f:Aa->M D)(ρ:Aa):M (Aa×Ë D):=ER i ρ>>= λl=>f ρ>>= λd=>if l.Á<=100000 then Ñ (ρ.set i (À (.ĉ (l++[d]))),Ã) else M.Û
def An.ő{c:Prop}[ÀA c]{m:M (Aa×Ë D)}(H:An g s ((if c then m else M.Û).Ĉ V) Q E):c/\An g s (m.Ĉ V) Q E:=by
 by_cases q:c
 ·rw[à q] at H;show{q,H}
 ·rw[ß q] at H;show H.ç
def fX{x:Þ}{px a ă c:Pos}{i:Ï}{e:ý}{f:Aa->M D}(m:g.nm[i]? =À x)(o:(x==("__debug__" :Þ))=Å)(h:Ak g e f)(j:∀y q,e≠ .ņ y q)
  (t:T7 (.ċ x px) "append" g.Ü (ŗ (.ċ x px) g.Ü)=ŗ (.ċ x px) g.Ü)(u:(a.Àn==c.Ÿ)=Ä)
  (w:Yr g.Ü=Å)(z:K0 (.Ás (.Ŋ (.ċ x px) "append" a) [e] [] c) Ã ă.Ÿ g.Ü=Ñ Å):
  CZ g (.ý (.Ás (.Ŋ (.ċ x px) "append" a) [e] [] c) ă) (Jw i f):=λρ V s Q E I H=>by
 exists g x px a ă c i e f ρ V s Q E,m o h j t u w z I H;show ag (An.ĉ H) λl b H=>wpAny_Expr (wpAny_Call_append t (by rw[ak j];rfl) u (by rw[ak j];rfl) (aK m o I b Î ?_)) w z;show aD (I.dx b) λU n p _=>{g.ĉ i,_,Î,{_,n,p,Î,Î,Î},h ρ V s _ E I (An.Ĕ I H λd Y v h' tk _ ev A r k=>?_)};show aj (An.ő k) λC k=>aD (A.dx b) λd8 G J B=>wpAny_list_append_plain {G,J} (λd9 L N=>?_) (aH (by simp[B.Á,C]));show aj (A.ei b N (by simpa using L) (B.ÁE (.Æ r .å))) λO T=>k.done (tk:=tk) (Bo.ť _) O T trivial
end
end
section
section
variable{prog:Ok}{w:World}{A:KB}{E:Value->Shared->Prop}{s:Shared}
def hp{k:ä}{t:Tok}{v:Í}{Q:ÂF->Ô->Prop}(h:s.Ì.ÁK l i)
  (a:0<=k)(f:k<2^63)(n:k<i.Ú)
  (b:∀h',h'.ÁK l (i.ģ k.ł v)->ut l s.Ì h'->Q () {s with Ì:=h'}):
  è (ć ú w) A (setItem (.ò l) (.Ê k t) v) Q E s:=by
 exists ú w A E s l i k t v Q,h a f n b;show ao (id h) λe o=>?_;unfold setItem;try with_reducible show Ģ ?_
 show È (wpAny_sequenceKey h.isList.ÀY _0 ?_);show È (ÁC h.isList.ÀY slot_list_setitem
  (Ľ slot_list_setitem h.isList.ÀY entry_list_setitem ?_ (args_list_setitem _ _ _)))
 change è _ _ (Ő.Â.listSubscript? (.Ê k t)>>=_) _ _ s;show È (wpAny_listSubscript_int (fitsIndex_of a f) ?_);clear f;obtain⟨j,Î⟩:=Za a;exists j,a n b;have d:j<i.Ú:=X3.mp n;show È (È (wpAny_seqItemAt o Î (Õ ?_)));rw[(P2 d)];have c:(s.Ì.Às l (Obj.mapSeq (·.ģ j v))).ÁK l (i.ģ j v):=
  {_,xz _ o Î}
 show È (wpAny_setSeqItemAt o Î ?_);first
  |show È (Õ (Õ {.Ã,Î,Õ (b _ c (GT ..))}))
  |show Õ {.Ã,Î,Õ (b _ c (GT ..))}
end
section
variable{g:Gd}{ρ:Aa}{V:AK}{s:Shared}{E:Value->Shared->Prop}
def Am.set(c:VR h X v d)(k:Ï)(r:Am h X vs ds):Am h X (vs.set k v) (ds.set k d):=
 cJ (P:=λvs ds=>∀k,Am h X (vs.set k v) (ds.set k d)) (λ_=>.å) (λa b q k=>R1 k (.Æ c b) λk=>.Æ a (q k)) r k
def Jx(i:Ï)(a f:Aa->M D)(ρ:Aa):M (Aa×Ë D):=f ρ>>= λd=>ER i ρ>>= λl=>a ρ>>= λk=>match k with
 | .Ê k=>if 0<=k/\k<l.Á/\l.Á<=100000 then Ñ (ρ.set i (À (.ĉ (l.set k.ł d))),Ã) else M.Û
 |_=>M.Û
def fY{x:Þ}{px p ă:Pos}{i:Ï}{e b:ý}{f m:Aa->M D}(q:g.nm[i]? =À x)(r:(x==("__debug__" :Þ))=Å)(h:Ak g e f)(u:Ak g b m)
  (w:K0 e (À (.ń (.ċ x px) b p)) ă.Ÿ g.Ü=Ñ Å):
  CZ g (.Ř [.ń (.ċ x px) b p] e ă) (Jx i m f):=λρ V s Q E I H=>by
 exists g x px p ă i e b f m ρ V s Q E,q r h u w I H;show S3 (h ρ V s _ E I (An.Ĕ I H λd y v J L N O a z c=>?_)) w;exists d y v J L,N O a z c;show ag (An.ĉ c) λl o c=>aK q r a o Î (u ρ y _ _ E a (An.Ĕ a c λk f9 kv T A _ U B Y j=>?_));cases k using ap with
 |Ê k=>
  obtain⟨t,Î⟩:=Y.az;obtain⟨⟨q1,C,q3⟩,j⟩:=An.ő j;show aD (B.dx o) λvs n pl G=>?_;have e8:=G.Á;show hp (s:={s with Ì:=T,Ā:=A}) {n,pl} q1 (ä.lt_trans C (w3 (J4.ĝ q3) _0)) (by simp only[kt];rw[e8];show C) λj4 e9 f6=>aj (B.ei (l':=l.set k.ł d) (vs':=vs.set k.ł v) o f6 (by simpa using e9) (Am.set (z.on a U) _ G)) λf7 f8=>j.done (f:=.next) (X':=g.X) (ÁG:=g.ĉ) (tk:=A) (Bo.ť _) f7 f8 trivial
 |_=>show j.ç
def PI(y i:Ï)(ρ:Aa):M (Aa×Ë D):=ER i ρ>>= λl=>Df l.ÀR>>= λd=>if l.Á<=100000 then Ñ ((ρ.set i (À (.ĉ l.Àc))).set y (À (.ê d)),Ã) else M.Û
def An.opt{o:Ë α}{F:α->M (Aa×Ë D)}(H:An g s ((Df o>>=F).Ĉ V) Q E):∃a,o=À a/\An g s ((F a).Ĉ V) Q E:=by
 cases o using i7 with
 |Ã=>show H.ç
 |À a=>show{a,Î,H}
def eT(vs:Â Í):vs.ó.eraseIdxIfInBounds (vs.ó.Ú -1)=vs.Àc.ó:=by
 apply acm;by_cases h:vs=[]
 ·subst h;rfl
 ·have l:=Ch.ĝ h;rw[Y1,dif_pos (by show Yo l _0)];simp only[Zy];show Â.eraseIdx_length_sub_one
def Am.Àc(r:Am h X vs ds):Am h X vs.Àc ds.Àc:=by
 rw[Zu,Zu,r.Á];show r.Ś _
def sY{x z:Þ}{px h c ă e:Pos}{i y:Ï}(o:g.nm[i]? =À x)(t:(x==("__debug__" :Þ))=Å)(hz:g.nm[y]? =À z)(hk:g.Ü.ð z=À .local)
  (u:T7 (.ċ x px) "pop" g.Ü (ŗ (.ċ x px) g.Ü)=ŗ (.ċ x px) g.Ü)(A:(c.Àn==e.Ÿ)=Ä)
  (B:K0 (.Ás (.Ŋ (.ċ x px) "pop" c) [] [] e) (À (.ċ z h)) ă.Ÿ g.Ü=Ñ Å):
  CZ g (.Ř [.ċ z h] (.Ás (.Ŋ (.ċ x px) "pop" c) [] [] e) ă) (PI y i):=λρ V s Q E I H=>by
 exists g x z px h c ă e i y ρ V s Q E,o t hz hk u A B I H;show ag (An.ĉ H) λl k H=>ag (An.opt H) λd L H=>aj (An.ő H) λN H=>aD (I.dx k) λm n p r=>?_;have C:=r.Á;show ag (r.at (d:=d) (j:=m.Á -1) (by rw[C,<-L,Â.getLast?_eq_getElem?])) λv O U=>?_;show P8 (ÀN (T:="list") (id:="list.pop") u Î A F.plainAttrs_list F.slot_list_pop F.type_list_pop (aK o t I k Î {{_,p,Î},λa q=>by cases q;show{_,p,Î},?_})) B;show P.pop_list (y:=v) p (by simpa using O) ?_ (aH (by simp;show ln2 (fA C) N));show aj (I.ei (h':=s.Ì.Às (g.ĉ i) (Obj.mapSeq λY=>Y.eraseIdxIfInBounds (m.ó.Ú -1))) (l':=l.Àc) (vs':=m.Àc) k (GT ..) {_,by rw[<-eT];show IsL.Às p _} r.Àc) λG J=>br (sl:=.ê d) J hz hk (U.ev G I.zx λb w=>w.1) fT λe7 d7 d8 d9=>H.done (f:=.next) (X':=g.X) (ÁG:=g.ĉ) (tk:=d7) (Bo.ť _) (G.Ð (d8.yw J)) d9 trivial
def Ti(bop:DO)(a b:D):Ë ä:=match a,b with
 | .Ê a,.Ê b=>match bop with
  | .ŧ=>À (a+b)
  | .Ž=>À (a -b)
  |_=>Ã
 |_,_=>Ã
def PJ(i:Ï)(bop:DO)(f:Aa->M D)(ρ:Aa):M (Aa×Ë D):=Js i ρ>>= λa=>f ρ>>= λb=>Df (Ti bop a b)>>= λc=>Ñ (ρ.set i (À (.ê (.Ê c))),Ã)
def wu(h:Ti bop a b=À c):∃x y,a= .Ê x/\b= .Ê y/\(bop= .ŧ/\c=x+y\/bop= .Ž/\c=x -y):=by
 cases a using ap with
 |Ê x=>cases b using ap with
  |Ê y=>cases bop using DO.ď with
   |ŧ=>show{x,y,Î,Î,.Ę {Î,(al h).symm}}
   |Ž=>show{x,y,Î,Î,.Ġ {Î,(al h).symm}}
   |_=>show nS h
  |_=>show nS h
 |_=>show nS h
def sZ{x:Þ}{px ă:Pos}{i:Ï}{e:ý}{bop:DO}{op:Operator}{f:Aa->M D}(k:g.nm[i]? =À x)(hk:g.Ü.ð x=À .local)(h:Ak g e f)(o:bop.op=op):
  CZ g (.AugAssign (.ċ x px) op e ă) (PJ i bop f):=λρ V s Q E I H=>by
 exists g x px ă i e bop op f ρ V s Q E,k hk h o I H;subst o;show wpAny_AugAssign_Name ?_;show a_ (An.DU H) λsl a l q H=>?_;rw[Ą.v_eq q] at l;show ag I.Ż λm G J=>a_ (J i _ l) λy v p d L=>?_;rw[k] at p;obtain rfl:=al p;rcases d.symm with⟨q,_⟩|⟨_,d⟩
 ·rw[hk] at q;rcases q with q|q<;>cases q
 show ħ I.ĕ hk G d ?_;show h ρ V s _ E I (An.Ĕ I H λb d8 w n j _ d9 r N z=>?_);show ag (An.opt z) λc B O=>?_;obtain⟨a1,b1,Î,Î,T⟩:=wu B;clear d l H B z;obtain⟨t,Î⟩:=VR.az L;obtain⟨u,Î⟩:=N.az;have C:è g.cx.M g.A (ÁM g.Ü x (.Ê c j)) (λ_=>Q .next) E {s with Ì:=n,Ā:=j+1}:=br (s:={s with Ì:=n,Ā:=j+1}) (sl:=.ê (.Ê c)) r k hk (VR.Ê _ _) fT λe8 U Y d7=>An.done (s:={s with Ì:=n,Ā:=j}) O (f:=.next) (X':=g.X) (ÁG:=g.ĉ) (tk:=U) (Bo.ť _) (Y.yw r) d7 trivial;rcases T with⟨Î,Î⟩|⟨Î,Î⟩
 ·show wpAny_iadd_int C
 ·show Ân.Rows.isub_int C
end
end
section
section
variable{prog:Ok}{w:World}{A:KB}{E:Value->Shared->Prop}{s:Shared}
def lp{l b:á}{i t:Ŕ Í}{Q:Í->Ô->Prop}(d:s.Ì.ÁK l i)(e:s.Ì.Ĳ b t)(a:i.Ú<=100000)(c:t.Ú<=100000)
  (f:∀h',h'.ÁK l (i++t)->ut l s.Ì h'->Q .Ã {s with Ì:=h'}):è (ć ú w) A (ň (.ė "list.extend") [.ò l,.ò b]) Q E s:=by
 exists ú w A E s l b i t Q,d e a c f;show ao (id d) λn p=>au e λo g j k=>ao k λn2 m=>Ľ F.slot_list_extend {_,p,Î} F.entry_list_extend ?_ (F.args_list_extend_2 _ _);change è _ _ (Ő.Â.listExtendWith (.ò l) (.ò b) .Ã) _ _ s;show È (wpAny_typeOf {o,g,j} ?_);have q:(Ő.Â.listSameRef (.ò l) (.ò b)||Í.Ċ "list" ==Í.Ċ "list" ||Í.Ċ "list" ==Í.Ċ "tuple")=Ä:=by simp
 simp only[q,Âs];show È (È (ÂX g m (Õ (È ?_))));show È (ÂX p Î (Õ ?_));have hz:¬(!i.Ť&&Ő.Â.listTooLong (i.Ú+t.Ú))=Ä:=by
  unfold Ő.Â.listTooLong V5;show λh=>absurd (Ø (im.mp h).2) (i8.ĝ (ac (ii a c) (show 100000+100000<=2^24 by decide)))
 rw[ß hz];have r:=aH a;have u:(i++t).Ú<=V5+1:=by rw[Ŕ.size_append];unfold V5;show ac (ii a c) _0
 show È (wpAny_updateSeq (hz:=r) (_hz':=u) p Î (Õ {.Ã,Î,f _ {_,IsL.Às p _} (GT ..)}))
end
section
variable{g:Gd}{ρ:Aa}{V:AK}{s:Shared}{E:Value->Shared->Prop}
def Jy(i:Ï)(f:Aa->M D)(ρ:Aa):M (Aa×Ë D):=ER i ρ>>= λl=>f ρ>>= λd=>match d with
 | .É l'=>if l.Á<=100000/\l'.Á<=100000 then Ñ (ρ.set i (À (.ĉ (l++l'))),Ã) else M.Û
 |_=>M.Û
def fZ{x:Þ}{px c ă j:Pos}{i:Ï}{e:ý}{f:Aa->M D}(u:g.nm[i]? =À x)(w:(x==("__debug__" :Þ))=Å)(h:Ak g e f)(t:∀y q,e≠ .ņ y q)
  (z:T7 (.ċ x px) "extend" g.Ü (ŗ (.ċ x px) g.Ü)=ŗ (.ċ x px) g.Ü)(A:(c.Àn==j.Ÿ)=Ä)
  (B:Yr g.Ü=Å)(C:K0 (.Ás (.Ŋ (.ċ x px) "extend" c) [e] [] j) Ã ă.Ÿ g.Ü=Ñ Å):
  CZ g (.ý (.Ás (.Ŋ (.ċ x px) "extend" c) [e] [] j) ă) (Jy i f):=λρ V s Q E I H=>by
 exists g x px c ă j i e f ρ V s Q E,u w h t z A B C I H;show ag (An.ĉ H) λl k N=>aD (I.dx k) λvs n p _=>wpAny_Expr (ÀN z (by rw[ak t];rfl) A F.plainAttrs_list F.slot_list_extend F.type_list_extend (aK u w I k Î {{_,p,Î},λa q=>by cases q;show{_,p,Î},?_})) B C;rw[ak t];show N8 Î (L3 (A3 (h ρ V s _ E I (An.Ĕ I N λd f9 v O tk _ ev G r o=>T9 ?_))));cases d using ap with
 |É l'=>
  obtain⟨⟨T,U⟩,o⟩:=An.ő (m:=(Ñ (ρ.set i (À (.ĉ (l++l'))),Ã):M (Aa×Ë D))) o;show aD (G.dx k) λvs' Y pl J=>?_;show cb r.aU λb ws zv j3 hb L=>?_;subst zv;show lp (s:={s with Ì:=O,Ā:=tk}) {Y,pl} hb (by simp[J.Á,T]) (by simp[L.Á,U]) λj4 e8 e9=>aj (G.ei (l':=l++l') (vs':=vs'++ws) k e9 (by simpa using e8) (J.ÁE L)) λf6 f7=>o.done (f:=.next) (X':=g.X) (ÁG:=g.ĉ) (tk:=tk) (Bo.ť _) f6 f7 trivial
 |_=>show o.ç
def Hq(i:Ï)(ρ:Aa):M Aa:=ER i ρ>>= λl=>Ñ (ρ.set i (À (.ê (.É l))))
def Č.freeze(I:Č g ρ V h)(t:ρ.ĵ i=À (.ĉ l)):
  ∃X,Bo g h X/\Č (g.re X g.ĉ) (ρ.set i (À (.ê (.É l)))) V h:=by
 exists g ρ V h i l,I t;have O:=I.ÂB t Î;show aD (I.dx t) λL n p r=>?_;exists L n,O p r;have J:Č (g.on λb=>g.X b/\b≠g.ĉ i) (ρ.set i Ã) V h:=by
  show(I.Ń i).on (λb o _ d=>d.1) (λb d=>I.xs b d.1) (λb f=>{I.zx b f,λq=>O.z (q▸f)}) (λb G=>{I.yx b G,λq=>O.y (q▸G)}) ?_ ?_
  ·intro d N c Q;show cb (I.Ĭ d N) λc' v e k q _=>?_;rw[Q] at e;obtain rfl:=al e;show{q,λf=>?_};show ag k λo u T=>?_;rw[f,p] at u;obtain rfl:=al u;show dC T
  ·intro j w e u;rcases Aa.ÀI e with⟨_,q⟩|⟨A,q⟩
   ·show nS q
   ·show{(I.ÂB q u).x,λf=>A (I.uniq j i w _ q t u Î f)}
 show{λb=>g.X b/\b≠g.ĉ i,{λb o _ d=>d.1,λb d U=>{d,λq=>absurd U (i8.ĝ (q▸O.lo))}},?_};have Y:VR h (λb=>g.X b/\b≠g.ĉ i) (.ò (g.ĉ i)) (.É l):=VR.bI {_,p,Î,n,Î} (λq=>q.2 Î) (r.less λb o _ d=>d.1);show{J with Ż:=?_,uniq:=?_}
 ·show ag J.Ż λm H hv=>ag I.Ż λm' d8 d9=>?_;obtain rfl:=I.cS H d8;show{m,H,λj w e=>?_};rcases Aa.ÀI e with⟨Î,q⟩|⟨A,q⟩
  ·obtain rfl:=al q;show a_ (d9 j _ t) λd v e1 e2 e3=>{d,_,e1,e3.ò Î▸e2,Y}
  ·show hv j w ?_;unfold Aa.ĵ at q⊢;rw[ZF (S4 A)];show q
 ·intro j k sj BQ ej ek B C q;rcases Aa.ÀI ej with⟨_,a⟩|⟨_,a⟩
  ·rw[<-al a] at B;show fT B
  ·rcases Aa.ÀI ek with⟨_,b⟩|⟨_,b⟩
   ·rw[<-al b] at C;show fT C
   ·show I.uniq j k sj BQ a b B C q
def lq(h:∀X ĉ,DW (g.re X ĉ) t f):DW g t (λρ=>Hq i ρ>>=f):=λρ V s Q E I H=>by
 have H:An g s ((ER i ρ>>= λl=>Ñ (ρ.set i (À (.ê (.É l))))>>=f).Ĉ V) Q E:=by rw[<-M.Áz];show H
 show ag (An.ĉ H) λl e H=>ag (I.freeze e) λX G J=>h X g.ĉ _ V s Q E J (An.later H G (Ev.ť _ _ _))
end
end
section
def Č.lr{p Ē:AK}(I:Č g ρ p h)(a:g.nm[i]? =À x)(hk:g.Ü.ð x=À .local)(R:VR h' g.X v d)(u:Bv g h U)(E:Ev g.Z U h h')(S:g.cx.ÿ.ĭ h')(N:∀m,h.Ns g.Ü.æ m->h'.Ns g.Ü.æ (λy=>if y=x then À v else m y))(P:Bb g h' Ē)(t:Dh g.cx.tab g.X h'):Č g (ρ.set i (À (.ê d))) Ē h':=
 I.iU a hk R (λq=>é.noConfusion q) u E S N P t
section
variable{g:Gd}
def dh{l a Ļ:ý}{j:Â ý}{p:Ŗ}{ă z d:Pos}{y:Þ}{i:Ï}{t n:Â Þ}{č:Â Ï}{w:Tg}{F:Aa->M (Â D)}{f:Aa->M D}{c:Ë (Aa->M D)}{od:Ë Ï}
  (hI:Fg g a Ļ od F)(B:BR g p t č n)
  (e7:∀r ę C,CY (g.Ĺ p r ę C (t++n)) (g.Ĺ p r ę C (t++n)).Y a w/\Ak (g.Ĺ p r ę C (t++n)) l f/\Ge (g.Ĺ p r ę C (t++n)) j c)
  (hs:∀x,ı Ļ g.Ü x=Ñ x)(hx:g.nm[i]? =À y)(A:g.Ü.ð y=À .local)
  (f6:K0 (.Į l [{a,Ļ,j,0}] p ă) (À (.ċ y d)) z.Ÿ g.Ü=Ñ Ä):
  CZ g (.Ř [.ċ y d] (.Į l [{a,Ļ,j,0}] p ă) z) (Ho (λρ=>F ρ>>= λds=>CJ f c w ds (AA t.Á č ρ)) (.Ě i)):=λρ f7 s Q E I H=>by
 rw[exec_Assign_Name_used _ _ _ _ f6];show È (ġ (È ?_));change è _ _ (do let _<-Ât (.Į l [{a,Ļ,j,0}] p ă) p g.Ü Ļ.ă (newList []) Å (ŗ Ļ g.Ü) (À (Àf (.ċ y d) g.Ü))) _ _ s;have f8:Af g ρ (VX g) s ((F ρ>>= λds=>CJ f c w ds (AA t.Á č ρ)).Ĉ f7) (λ_ _=>True) E:=An.Ĕ I H λ_ _ _ _ _ _ _ _ _ _=>trivial;show È (ą (ni (use:=À (Àf (.ċ y d) g.Ü)) (Qc:=λ_ G=>Q .next G) hI B e7 hs I f8 λk8 h k9 J ę C L N U tk c hr=>?_) (λ_ G hq=>Õ (Õ hq)) λ_ _ e=>e);unfold Ho at H;rw[ar,hr] at H;have H:An g s ((Ñ (ρ.set i (À (.ê (.É L))),Ã):M (Aa×Ë D)).Ĉ J) Q E:=H;show ag c.Du.Ż λm O _=>?_;change è _ _ (Àf (.ċ y d) g.Ü (.ò ę)) _ _ _;show W1 (ţ A (c.sQ O) (λl7 j4 T=>?_) I.eG);show ao c.ns λmC j6=>{mC,j6.Áe T (S4 c.lC.1),λv V=>?_};have k:∀b o,b≠C->b≠g.Ü.æ->h.Ò b=À o->v.Ò b=À o:=λb o q1 q2 e=>V.ŉ b o q1 (T.ŉ b o q2 e);have d7:=c.zK k;have Ft:v.Ĳ ę (FM N):=by
  show ag c.É λo ho q=>{o,k ę o c.ne (S4 c.lC.2) ho,q}
 have k6:Č g (ρ.set i (À (.ê (.É L)))) J v:=c.Du.lr hx A (VR.bI (vs:=N) Ft c.sP (c.bL k).2.1) c.PF.loc d7 (c.eJ k) (λm' k7=>by
  rw[c.Du.cS k7 O];show j4.Áe V c.lC.1) (c.bL k).1 (c.bL k).2.2
 show H .next g.X g.ĉ v _ (Bo.ť _) ((Ev.cu c.PD d7 λb o e u=>u.ç (c.u0 b o e) λu=>.Ę (.Ġ u)).yw I) k6 trivial
end
end
section
def lu{ns:Â Þ}{vs:Â Í}{n:Þ}(e:ns.Á=vs.Á)(h:n∈ns):((ns.zip vs).ö n).Áa=Å:=by
 induction ns generalizing vs with
 |å=>show nomatch h
 |Æ a ns i=>
  cases vs with
  |å=>show nomatch e
  |Æ v vs=>
   rw[PP,Gc];cases q:n==a with
   |Ä=>rfl
   |Å=>
    rcases a5.mp h with rfl|h
    ·simp at q
    ·show i (by simpa using e) h
def hq{ns:Â Þ}:∀{vs:Â Í} {pre:Â (Þ×Í)},ns.Ŀ->ns.Á=vs.Á->(∀p∈pre,p.1∉ns)->ns.Ų (λn=>((pre++ns.zip vs).ö n).Ö (n,·))=ns.zip vs:=by
 induction ns with
 |å=>show λ_ _ _=>rfl
 |Æ a ns i=>
  intro vs pre h e b;cases vs using i2 with
  |å=>show absurd e (Ï.succ_ne_zero _)
  |Æ v vs=>
  rw[A4] at h;have c:(pre++(a::ns).zip (v::vs)).ö a=À v:=by
   clear e;induction pre with
   |å=>simp[Gc]
   |Æ p pre i=>
    rw[U3,Gc];have:(a==p.1)=Å:=by
     rw[Ű];rintro rfl;show b p (.Ď _) (.Ď _)
    rw[this];show i λq d=>b q (.ě _ d)
  rw[Â.filterMap_cons,c];have:=i (pre:=pre++[(a,v)]) h.2 (by simpa using e) (λp f=>by
   rcases dL.mp f with q|q
   ·show λz=>b p q (.ě _ z)
   ·rw[am.mp q];show h.1)
  simpa using this
def cw{ÁF:Â Í}(b:fd.ô.Àg=[])(hk:fd.ô.ÀO=[])(v:fd.ô.vararg=Ã)(w:fd.ô.kwarg=Ã)(d:fd.Ál= .Ã)
  (c:(fd.ô.Ū.Ö (·.arg)).Ŀ)(a:(fd.ô.Ū.Ö (·.arg)).Á=ÁF.Á):bindArgs fd {ÁF,[]}=Ñ ((fd.ô.Ū.Ö (·.arg)).zip ÁF):=by
 cases fd with
 |mk Ky a1 e GD i j k m o q r t u y A=>
 cases e with
 |mk B Bp p2 C E G H=>
 dsimp only at b hk v w d c a⊢;subst b hk v w d
 delta bindArgs
 dsimp only;generalize Bp.Ö (λx=>x.arg)=s at*;have g:(s.ÀX λn=>((s.zip ÁF).ö n).Áa)=[]:=by
  rw[Â.filter_eq_nil_iff];intro n h;rw[lu a h];simp
 show(ß (by simp[a])).Ð ((ß (by simp[g])).Ð ?_);have z:∀(l:Â Þ) (n:Ï),l.zip (Â.Ń n ((Ë.Ã (α:=Ŕ Í)).ø #[]).Ħ)=[]:=λl n=>by simp
 rw[z];show â (Ñ (f:=Sem)) (by simpa using(hq (pre:=[]) c a (λp h=>nomatch h)))
noncomputable def Gd.enter(g:Gd)(Ü:Env)(h h':ì)(nm:Â Þ):Gd:=
 {cx:=g.cx,A:=g.A.Áx Ü,d:=g.d -1,X:=λb=>g.X b\/(h.ã.Ú<=b/\∃o,h'.Ò b=À o),Z:=λb=>g.Z b\/b=Ü.æ,Ü:=Ü,nm:=nm,lo:=h.ã.Ú,ĉ:=λ_=>0}
inductive Dv(g:Gd)(h:ì):Â Í->Â Ą->Prop
 |å:Dv g h [] []
 |ê {v d vs ds}:VR h g.X v d->Dv g h vs ds->Dv g h (v::vs) (.ê d::ds)
 |Az {P vs ds}:g.cx.P=À P->Dv g h vs ds->Dv g h (.ò P::vs) (.Az::ds)
def Bf(s:Â Ą)(n:Ï):Aa:=s.Ö À++ln n Ã
def bE(h:Aa.ĵ (Bf l n) i=À sl):l[i]? =À sl:=by
 unfold Aa.ĵ Bf at h;by_cases a:i<l.Á
 ·rw[P1 (by simpa using a),j1] at h;cases q:l[i]? with
  |Ã=>rw[q] at h;cases h
  |À s=>rw[q] at h;simpa using h
 ·rw[GE (by simpa using a),Y6] at h;split at h<;>cases h
def Dv.at(a:Dv g h vs s){i:Ï}(e:s[i]? =À sl):∃v,vs[i]? =À v/\((∃d,sl= .ê d/\VR h g.X v d)\/(sl= .Az/\∃P,g.cx.P=À P/\v= .ò P)):=by
 induction a generalizing i with
 |å=>cases e
 |ê r _ c=>
  cases i with
  |ž=>cases e;show{_,Î,.Ę {_,Î,r}}
  |ś i=>obtain⟨v,a,b⟩:=c (by simpa using e);show{v,by simpa using a,b}
 |Az r _ c=>
  cases i with
  |ž=>cases e;show{_,Î,.Ġ {Î,_,r,Î}}
  |ś i=>obtain⟨v,a,b⟩:=c (by simpa using e);show{v,by simpa using a,b}
def bQ{ð:Þ->Ë R6}:∀{ns:Â Þ} {vs:Â Í} {m:Þ->Ë Í} {i:Ï} {x:Þ} {v:Í},ns.Ŀ->ns.Á=vs.Á->ns[i]? =À x->vs[i]? =À v->ð x=À .local->bindL ð (ns.zip vs) m x=À v:=by
 have skip:∀{ns:Â Þ} {vs:Â Í} {m:Þ->Ë Í} {x:Þ},x∉ns->bindL ð (ns.zip vs) m x=m x:=by
  intro ns;induction ns with
  |å=>intros;rfl
  |Æ a ns h=>
   intro vs m x b;cases vs with
   |å=>rfl
   |Æ w vs=>
    rw[PP,bindL];rw[h (λq=>b (.ě _ q))];split
    ·dsimp only;rw[ß (by rintro rfl;show b (.Ď _))]
    ·rfl
 intro ns;induction ns with
 |å=>intro vs m i x v _ _ e;cases e
 |Æ a ns h=>
  intro vs m i x v n l c d k;rw[A4] at n;cases vs with
  |å=>cases l
  |Æ w vs=>
   rw[PP,bindL];cases i with
   |ž=>
    clear l;cases c;cases d;rw[skip n.1,à k];simp
   |ś i=>show h n.2 (by simpa using l) (by simpa using c) (by simpa using d) k
def hr{ð:Þ->Ë R6}:∀{ns:Â Þ} {vs:Â Í} {m:Þ->Ë Í} {i:Ï} {x:Þ} {v:Í},ns.Ŀ->ns.Á=vs.Á->ns[i]? =À x->vs[i]? =À v->¬ð x=À .local->bindC ð (ns.zip vs) m x=À v:=by
 have skip:∀{ns:Â Þ} {vs:Â Í} {m:Þ->Ë Í} {x:Þ},x∉ns->bindC ð (ns.zip vs) m x=m x:=by
  intro ns;induction ns with
  |å=>intros;rfl
  |Æ a ns h=>
   intro vs m x b;cases vs with
   |å=>rfl
   |Æ w vs=>
    rw[PP,bindC];rw[h (λq=>b (.ě _ q))];split
    ·rfl
    ·dsimp only;rw[ß (by rintro rfl;show b (.Ď _))]
 intro ns;induction ns with
 |å=>intro vs m i x v _ _ e;cases e
 |Æ a ns h=>
  intro vs m i x v n l c d k;rw[A4] at n;cases vs with
  |å=>cases l
  |Æ w vs=>
   rw[PP,bindC];cases i with
   |ž=>
    clear l;cases c;cases d;rw[skip n.1,ß k];simp
   |ś i=>show h n.2 (by simpa using l) (by simpa using c) (by simpa using d) k
end
section
def ht{î:Â (Þ×R6)}{n:Ï}{ę:Â (Þ×á)}{p:Þ×á}(h:p∈ę):p∈ÀJ n î ę:=by
 induction î generalizing n ę with
 |å=>show h
 |Æ a r i=>
  unfold ÀJ;split
  ·show i (.ě _ h)
  ·show i h
def hu{î:Â (Þ×R6)}{n:Ï}{ę:Â (Þ×á)}{x:Þ}(h:(x,Ŵ.Ĭ)∈î):∃c,(x,c)∈ÀJ n î ę:=by
 induction î generalizing n ę with
 |å=>show nomatch h
 |Æ p r i=>
  obtain⟨a,k⟩:=p;unfold ÀJ;rcases a5.mp h with e|h
  ·clear h;cases e;show{n,ht (.Ď _)}
  ·split
   ·show i h
   ·show i h
def gn{î:Â (Þ×R6)}{n:Ï}{ę:Â (Þ×á)}:(î.Ö (·.1)).Ŀ->(ę.Ö (·.1)).Ŀ->(∀p∈ę,p.1∉î.Ö (·.1))->((ÀJ n î ę).Ö (·.1)).Ŀ:=by
 induction î generalizing n ę with
 |å=>show λ_ h _=>h
 |Æ p r i=>
  intro c f d;obtain⟨a,k⟩:=p;unfold ÀJ;rw[v7,A4] at c;split
  ·show i c.2 ?_ ?_
   ·rw[v7,A4];show{λq=>(ag (i1.mp q) λp b e=>(d p b (by rw[e];show .Ď _))),f}
   ·intro p b;rcases a5.mp b with rfl|b
    ·show c.1
    ·show λq=>d p b (.ě _ q)
  ·show i c.2 f λp b q=>d p b (.ě _ q)
def bX{n:Ï}(a:(î.Ö (·.1)).Ŀ)(h:î.ö x=À .Ĭ):∃c,(ÀJ n î []).ö x=À c:=ao (hu (Àb h)) λc b=>{c,dJ (gn a (by simp) (by simp)) b}
section
variable{g:Gd}{ρ:Aa}{V:AK}
def Dv.ŏ(a:Dv g h vs s):vs.Á=s.Á:=by
 induction a with
 |å=>rfl
 |ê _ _ i|Az _ _ i=>rw[i3,i3,i]
def Č.enter{Ü:Env}{h:Ŗ}{ÂC:Þ}{a:á}{ÁD:Í}{s w:Ô}{ns nm:Â Þ}{ÁF:Â Í}{G:Â Ą}{n:Ï}
  (I:Č g ρ V s.Ì)(y:1<=g.d)
  (m:Ü=newEnv h s.Ì.ã.Ú jp (ÀJ (s.Ì.ã.Ú+1) h.î []) ÂC (À a) ÁD Ã J5)
  (X:InCallC s Ü.æ (bindL Ü.ð (ns.zip ÁF) λ_=>Ã) Ü.ō (bindC Ü.ð (ns.zip ÁF) λ_=>Ã) w)
  (hk:h.ĕ= .Ĥ)(d8:(h.î.Ö (·.1)).Ŀ)(d9:∀(i:Ï) (x:Þ),ns[i]? =À x->nm[i]? =À x)(e7:nm.Ŀ)(N:ns.Ŀ)(z:ns.Á=ÁF.Á)
  (e8:∀x∈ns,h.î.ö x=À .local\/(h.î.ö x=À .Ĭ/\(x==("__classdict__" :Þ))=Å))(H:Dv g s.Ì ÁF G):
  Č (g.enter Ü s.Ì w.Ì nm) (Bf G n) V w.Ì:=by
 exists g ρ V Ü h ÂC a ÁD s w ns nm ÁF G n,I y m X hk d8 d9 e7 N z e8 H;have L:Ü.æ=s.Ì.ã.Ú:=by rw[m];rfl
 have f8:=X.ŭ.č;have J:∃o O Q,w.Ì.Ò Ü.æ=À o/\o.ë= .ĺ O Q:=ba X.ŭ.ns λo O Q e T _=>{o,O,Q,e,T};have U:∀x,Ü.ð x=h.î.ö x:=λx=>by rw[m];rfl
 have f9:Ü.ō=ÀJ (s.Ì.ã.Ú+1) h.î []:=by rw[m];rfl
 have Y:Ü.İ=h:=by rw[m];rfl
 have d7:Ü.Š=À s.Ì.ã.Ú:=by rw[m];rfl
 have ÂM:∀x,Ü.ð x=À .Ĭ->∃c,Ü.ō.ö x=À c/\w.Ì.Ŝ c (bindC Ü.ð (ns.zip ÁF) (λ_=>Ã) x)/\s.Ì.ã.Ú<=c:=λx hx=>by
  rw[U] at hx;show ao (bX (n:=s.Ì.ã.Ú+1) d8 hx) λc t=>?_;rw[<-f9] at t;show{c,t,X.Ĭ x c t,by have:=X.above x c (Àb t);rw[L] at this;show i5 this}
 show I.fC [Ü] rfl f8 (by change Ü.İ.ĕ=_;rw[Y,hk]) (by change Ü.ÀG=_;rw[m];rfl) (by change Ü.Ày=_;rw[m];rfl) I.Âf ?_ ?_ (by change _<=Ü.æ;rw[L];show a3 _) (a3 _) (.Ġ {by change _<=Ü.æ;rw[L];show a3 _,cG J λo _ _ e _=>{o,e}}) (λ_=>id) (λ_=>.Ę)
  (λf o p b k=>{Ü,f::o,by change g.A.ŕ.Ö (Ü:: ·)=_;rw[p];rfl,Î,Î,by rw[Y];show hk}) (YQ.ĝ {by rw[Y,hk],_,d7,a3 _,.Ġ {a3 _,cG J λo _ _ e _=>{o,L▸e}},L▸J})
  (λb=>or_congr Iff.Î {λq=>{Ü,.Ď _,by rw[d7,q,L]},λq=>ag q λe he f=>by rw[am.mp he,d7] at f;rw[L];show(al f).symm}) X.apart ?_ e7 (λup=>?_) ?_
 ·change g.A.ű+1+(g.d -1)<=950;have:=I.ű;show ln2 (fA (us this)) (fA (us y))
 ·change g.A.Àp+3+3*(g.d -1)<=9000;rw[s7,lc 3,<-Ï.mul_add_one,us y];show I.Àp
 ·intro x j5;show au (ÂM x j5) λc t u f6=>ag (id u) λo j6 y=>{c,_,t,u,.Ġ {f6,o,j6},f6}
 ·show{_,X.ŭ.ns,λi sl e=>?_};exists i sl,e;have e:=bE e;show ag (H.at e) λv u B=>?_;exists v,u B;obtain⟨x,C⟩:∃x,ns[i]? =À x:=by
   have:i<ns.Á:=by rw[z];show(s5.mp u).1
   show{ns[i],ch this}
  show{x,v,d9 i x C,?_,?_}
  ·have hm:x∈ns:=wS C;rcases e8 x hm with l|⟨l,h2⟩
   ·have l:Ü.ð x=À .local:=(U x).Ð l;show .Ę {l,bQ N z C u l}
   ·have l:Ü.ð x=À .Ĭ:=(U x).Ð l;show au (ÂM x l) λc t f7 _=>?_;rw[hr N z C u (by rw[l];decide)] at f7;show .Ġ {.Ę l,h2,c,t,f7}
  ·clear e u;rcases B with⟨T,Î,r⟩|⟨Î,P,hP,Î⟩
   ·show up r
   ·show{P,hP,Î}
 ·intro j k sj BQ E ek oj ok _;have E:=bE E;show ag (H.at E) λv _ B=>?_;clear E;rcases B with⟨T,Î,_⟩|⟨Î,_⟩<;>show fT oj
end
end
section
inductive TY(e:á)(c:Í)(h h':ì):Prop
 |mk (o vs T a ts) (a1:h'.Ò e=À o) (d:o.ķ=c) (GD:o.ë= .ü vs) (f:vs[1]? =À (.ò T)) (g:h.Ò T=Ã/\h.ã.Ú<=T) (i:T≠e) (j:h'.Ò T=À a) (k:a.ë= .ü ts) (l:ts[3]? =À .Ã/\EY ts) (m:∀b,h.Ò e=À b->o.ĺ=b.ĺ)
structure DX(ÿ:ì)(l:Â Env)(e:á)(d:á->Prop)(c:Í)(h h':ì):Prop where
 ĩ:ÿ.ĭ h'
 rest:∀b o,b≠e->¬d b->h.Ò b=À o->h'.Ò b=À o\/(b∈l.Ų (·.Š)/\∃sl,h'.Ò b=À {o with Áh:=sl})
 exc:TY e c h h'
section
variable{M:Model}{A:KB}{E:Value->Shared->Prop}{s:Shared}
def dy{ÿ:ì}{Ü:Env}{u:Â Env}{L e:á}{j:Obj}{vs:Ŕ Í}{k:Í}{N:é}{Q:ÂF->Ô->Prop}
  (J:A.ŕ=À (Ü::u))(r:s.Ì.FunFrames ÿ (Ü::u))(O:Ü.Š=À L)
  (t:s.Ì.Ò e=À j)(U:ÿ.ĭ s.Ì)(V:ÿ.Ò e=Ã)(w:j.ë= .ü vs)(z:1<vs.Ú)
  (h:∀h',DX ÿ (Ü::u) e (λ_=>Ī) j.ķ s.Ì h'->Q () {s with Ì:=h'}):
  è M A (do let a<-frameOf Ü;let p<-entryPlaceOf L N;let b<-EntryCells.newEntry k a .Ã (ŷ L) .Ã p;setField (.ò e) 1 b) (λ_ Y=>è M A (setFlight (.ò e) Ã) Q E Y) E s:=by
 have d7:e∉(Ü::u).Ų (·.Š):=λm=>by
  show aj (r.mem m) λ_ d8=>ag d8 λo l d9=>?_;rw[t] at l;injection l with l;subst l;show d9 vs w
 show È (wpAny_frameOf_fun J r O λc g=>?_);show È (wpAny_entryPlaceOf λp B=>?_);show È (đ ?_ (B.sizeOk5 _ _ _ _ _));have C:c.Ò e=À j:=(g.2.1 e d7).Ð t;have e7:ÿ.ĭ c:=λb o d=>(g.2.1 b λm=>by rw[(r.mem m).1] at d;show nS d).Ð (U b o d);have G:=a0 (h:=c) {ķ:=.Ċ "traceback",ĺ:=Ã,ë:=.ü ([k,.ò L,.Ã,ŷ L,.Ã]++(if p.Ť then ln 6 Í.Ã else p)).ó} C;show ÀS G w z ?_;have T:c.ã.Ú≠e:=A2 (g3 C);have y:=J6 w (·.ģ 1 (Í.ò c.ã.Ú));have H:=xz (w1 (·.ģ 1 (Í.ò c.ã.Ú))) G (O3 y);have I:=(w0 (c.Ŧ {ķ:=.Ċ "traceback",ĺ:=Ã,ë:=.ü ([k,.ò L,.Ã,ŷ L,.Ã]++(if p.Ť then ln 6 Í.Ã else p)).ó})
  (w1 (·.ģ 1 (Í.ò c.ã.Ú))) (S4 T)).Ð (f1 c Î)
 show È (Ş H y (x:=.ò c.ã.Ú) (by simp[z]) ?_);show ÀS I Î (by simp only[kt,f4,i3,T0]<;>simp+arith only[]) (h _ ?_);have č:∀b o,b≠e->c.Ò b=À o->
   (((c.Ŧ {ķ:=.Ċ "traceback",ĺ:=Ã,ë:=.ü ([k,.ò L,.Ã,ŷ L,.Ã]++(if p.Ť then ln 6 Í.Ã else p)).ó}).Às e (w1 (·.ģ 1 (Í.ò c.ã.Ú)))).Às c.ã.Ú
    (w1 (·.ģ 3 ((Ã:Ë á).ç Í.Ã λf=>ŷ f)))).Ò b=À o:=λb o n i=>by
  have e8:c.ã.Ú≠b:=A2 (g3 i);rw[w0 _ _ e8,w0 _ _ (S4 n)];show a0 _ i
 show{λb o d=>č b o (λq=>by rw[q,V] at d;show nS d) (e7 b o d),λb o n _ i=>?_,?_}
 ·by_cases m:b∈(Ü::u).Ų (·.Š)
  ·show ao (g.2.2 b o i) λsl hs=>.Ġ {m,sl,č b _ n hs}
  ·show .Ę (č b o n ((g.2.1 b m).Ð i))
 ·show{_,_,c.ã.Ú,_,_,?_,Obj.cls_mapFields _ _,y,by simp[z],?_,T,xz _ I (O3 (J6 Î _)),J6 Î _,{by first|(simp;done)|(rcases B with rfl|⟨_,_,_,_,_,_,_,Î⟩<;>simp),bz (v:=.ò L) (by simp) nofun},λf8 q=>?_}
  ·rw[w0 _ _ T];show H
  ·show{?_,by rw[g.1];show a3 _};cases q:s.Ì.Ò c.ã.Ú with
   |Ã=>rfl
   |À o=>have:=g3 q;rw[g.1] at this;show absurd this (EQ _)
  ·rw[t] at q;(have zz:=al q;clear q;subst zz);unfold w1;split<;>rfl
end
end
section
section
variable{M:Model}{A:KB}{E:Value->Shared->Prop}{s:Shared}
def iY{ÿ:ì}{Ü:Env}{u:Â Env}{L e:á}{j:Obj}{vs:Ŕ Í}{Q:ÂF->Ô->Prop}
  (v:A.ŕ=À (Ü::u))(w:s.Ì.FunFrames ÿ (Ü::u))(k:Ü.Š=À L)
  (d:s.Ì.Ò e=À j)(y:ÿ.ĭ s.Ì)(z:ÿ.Ò e=Ã)(f:j.ë= .ü vs)
  (c:vs[1]? =À .Ã\/∃T l ts,vs[1]? =À (.ò T)/\T≠e/\ÿ.Ò T=Ã/\s.Ì.Ò T=À l/\l.ë= .ü ts/\ts[3]? =À .Ã)
  (h:∀h',DX ÿ (Ü::u) e (λT=>vs[1]? =À (.ò T)) j.ķ s.Ì h'->Q () {s with Ì:=h'}):è M A (leaving Ü (.ò e)) Q E s:=by
 unfold leaving noteFrame;simp only[k];rcases c with c|⟨T,l,ts,c,m,B,g,CU,C⟩
 ·show È (È (Ş d f c ?_));rw[ß _0];show dy v w k d y z f (o3.mp c).1 λh' x=>h h' {x.ĩ,λb o a _ e=>x.rest b o a id e,x.exc}
 ·show È (È (Ş d f c ?_));rw[à (show(Í.ò T !=Í.Ã)=Ä from by simp)];show È (Ş g CU C ?_);rw[ß (show ¬((Í.Ã==ŷ L)=Ä) from by simp[ŷ])];show È (ÀS g CU (o3.mp C).1 ?_);have t:∀b,b≠T->(s.Ì.Às T (w1 (·.ģ 3 Í.Ã))).Ò b=s.Ì.Ò b:=λb a=>w0 _ _ (S4 a);have G:∀b o,s.Ì.Ò b=À o->(∀vs,o.ë≠ .ü vs)->b≠T:=λb o a n q=>by
   rw[q,g] at a;injection a with a;subst a;show n ts CU
  show dy v (w.Ĩ λb o a n=>{o,(t b (G b o a n)).Ð a,Î}) k ((t e (S4 m)).Ð d)
   (λb o p=>(t b λq=>by rw[q,B] at p;show nS p).Ð (y b o p)) z f (o3.mp c).1 λh' x=>h h' {x.ĩ,λb o a I J=>x.rest b o a id ((t b λq=>I (q▸c)).Ð J),?_}
  obtain⟨N,O,r,U,V,a1,Y,GD,a4,i,a6,a7,a8,a9,H⟩:=x.exc;show{N,O,r,U,V,a1,Y,GD,a4,?_,a6,a7,a8,a9,λe9 q=>H e9 ((t e (S4 m)).Ð q)};show{?_,by have:=i.2;rwa [Zj] at this};by_cases q:r=T
  ·clear c m B t G x H;subst q;rw[xz _ g (O3 (J6 CU _))] at i;cases i.1
  ·rw[<-t r q];show i.1
end
end
section
section
variable{g:Gd}{ρ:Aa}{V:AK}
def ly(u:∀b o,h.Ò b=À o->a.Ò b=À o)(ev:Ev (g.enter Ü h a nm).Z (g.enter Ü h a nm).W a h')(L:Ü.æ=h.ã.Ú):Ev g.Z g.cx.K h h':=by
 intro b o e q;have l:=g3 e;have nl:b≠Ü.æ:=λz=>by rw[z,L] at l;show EQ _ l
 rcases ev b o (u b o e) (q.imp (λn w=>by
  obtain⟨_,w|w⟩:=w
  ·show w.ç (λw=>w.ç (λw=>n (.Ę w)) nl) λw=>n (.Ġ w)
  ·show absurd l (i8.ĝ w)) id) with c|⟨z,d,s,c⟩
 ·show .Ę c
 ·rcases z with z|z
  ·show .Ġ {z,d,s,c}
  ·show absurd z nl
structure PK(g:Gd)(h h':ì)(X':á->Prop):Prop where
 WH:Ev g.Z g.cx.K h h'
 x:∀b,g.X b->X' b
 ĩ:g.cx.ÿ.ĭ h'
 ũ:Dh g.cx.tab X' h'
def PK.inv{gf:Gd}{h h':ì}{X':á->Prop}{ÁG:Ï->á}{Ē:AK}(r:PK g h h' X')(I:Č g ρ V h)(d:gf.cx=g.cx)(P:Bb (gf.re X' ÁG) h' Ē):
  Ev g.Z g.Y h h'/\Č g ρ Ē h':=by
 exists g ρ V gf h h' X' ÁG Ē,r I d P;have c:=r.WH;have E:Ev g.Z g.Y h h':=c.mono (λ_ _ _ z=>z) λb _ _ q=>q.imp .Ę id;show{E,I.gX (λb o e q=>.Ę (q.imp .Ę id)) c r.ĩ (λm f=>bK f λo e=>?_) ?_ (r.ũ.ÁX (Ev.ť (λ_=>Ī) (λ_=>Ī) _) (λ_ _ _=>id) (λ_ _ _ _ _ _ q=>q.ç) (λb _ _ a=>r.x b a) λb q e=>(I.ũ b q e).1)}
 ·show au (c.ë e λq=>q.ç (λq=>(I.Az.x q).2.2 Î) λ⟨_,q⟩=>I.gW q (.Ġ Î)) λi j k _=>{i,j,k}
 ·show I.Az.back P (â Cx.P d) λa=>Am.less a λb o _ a=>r.x b a
structure KR(cx:Cx)(Ě:Þ)(ô:S1)(Ć:Â Ĵ)(s:Ŗ)(a:á)(o:Obj)(p c d:Í):Prop where
 mg:cx.mg Ě=À (.ò a)
 at_:cx.ÿ.Ò a=À o
 ë:o.ë= .func (Áb Ě ô Ć s p c d)
 ÁD:cx.ÿ.CodeRec c Ě
 ĕ:s.ĕ= .Ĥ
 co:s.Àh=Å
 gen:s.Ài=Å
 Àq:(s.î.Ö (·.1)).Ŀ
 po:ô.Àg=[]
 ko:ô.ÀO=[]
 va:ô.vararg=Ã
 Rz:ô.kwarg=Ã
 pn:(ô.Ū.Ö (·.arg)).Ŀ
 pk:∀x∈ô.Ū.Ö (·.arg),s.î.ö x=À .local\/(s.î.ö x=À .Ĭ/\(x==("__classdict__" :Þ))=Å)
def Cf(r:Aa×Ë D):M D:=match r.2 with
 |À d=>Ñ d
 |Ã=>Ñ .Ã
def Nn.fun(x:Nn h ÿ l):h.FunFrames ÿ l:=by
 induction l with
 |å=>trivial
 |Æ e r i=>
  show aj (x e (.Ď _)) λk w=>iE w λL o s n f nb a d=>{k,{L,o,f,nb,a,λv q=>by rw[d] at q;show dC q},i λe b=>x e (.ě _ b)}
def jM{Ě:Þ}{ô:S1}{Ć:Â Ĵ}{Y:Ŗ}{a:á}{o:Obj}{pm cd j9:Í}{Cj:Þ->Ë D}{nm:Â Þ}{f:Aa->M (Aa×Ë D)}{n:Ï}{ÁF:Â Í}{k6:Â Ą}
  {s:Ô}{Q:Í->Ô->Prop}{E:Í->Ô->Prop}
  (F:KR g.cx Ě ô Ć Y a o pm cd j9)(T:Cm g.cx Cj)(u2:nm.Ŀ)(u3:∀(i:Ï) (x:Þ),(ô.Ū.Ö (·.arg))[i]? =À x->nm[i]? =À x)(hd:1<=g.d)(I:Č g ρ V s.Ì)(u4:Dv g s.Ì ÁF k6)
  (hl:(ô.Ū.Ö (·.arg)).Á=ÁF.Á)
  (hb:∀Ü h h',Ü.İ=Y->Ü.ÁD=cd->Ü.ÂC=Ě++ ".<locals>." ->DW (g.enter Ü h h' nm) Ć f)(H:Af g ρ (VX g) s ((f (Bf k6 n)>>=Cf).Ĉ V) Q E):è g.cx.M g.A (ň (.ò a) ÁF) Q E s:=by
 exists g ρ V Ě ô Ć Y a o pm cd j9 Cj nm f n ÁF k6 s Q E,F T u2 u3 hd I u4 hl hb H;have x8:=I.ű;have č:=I.ĩ;show Ym (Àl (o:=o) (fd:=Áb Ě ô Ć Y pm cd j9) (binds:=(ô.Ū.Ö (·.arg)).zip ÁF) ?_ (č a o F.at_) F.ë ?_ ?_ rfl (cw F.po F.ko F.va F.Rz Î F.pn hl) rfl ?_ (λx9 X=>?_) F.co F.gen F.ĕ)
 ·change g.A.ű<1000;show ln1 x8
 ·show T.Âp.ľ λb o e=>č b o e
 ·show F.ÁD.ľ λb o e=>č b o e
 ·intro x hx;have N:x.1∈ô.Ū.Ö (·.arg):=(Â.of_mem_zip (a:=x.1) (b:=x.2) hx).1;rcases F.pk x.1 N with q|⟨q,_⟩
  ·show .Ę q
  ·show ao (bX (n:=s.Ì.ã.Ú+1) F.Àq q) λc hc=>.Ġ {q,V2.ĝ {c,hc}}
 ·exists x9,X;have J:=I.enter (Ü:=ZY (Áb Ě ô Ć Y pm cd j9) s.Ì.ã.Ú a) (nm:=nm) (n:=n) hd Î X F.ĕ F.Àq u3 u2 F.pn hl F.pk u4;have up:=X.ŭ.č;show bB X.ŭ.Âl λB o8 u5=>?_;exists B o8,u5;clear X;subst u5;generalize f8:ZY (Áb Ě ô Ć Y pm cd j9) s.Ì.ã.Ú a=Ü at*;have eL:Ü.æ=s.Ì.ã.Ú:=by rw[<-f8];rfl
  have u7:Ü.İ=Y:=by rw[<-f8];rfl
  have o9:Ü.Š=À s.Ì.ã.Ú:=by rw[<-f8];rfl
  have u8:Ü.ÁD=cd:=by rw[<-f8];rfl
  have u9:Ü.ÂC=Ě++ ".<locals>.":=by rw[<-f8];rfl
  have xk:∀{u:á->Prop},Bo (g.enter Ü s.Ì B nm) B u->∀b,g.X b->u b:=λG b x=>by
   show ao (I.xs b x) λo e=>G.č b (.Ę x) (g3 e)
  show hb Ü s.Ì B u7 u8 u9 (Bf k6 n) V {s with Ì:=B,Ā:=o8} _ _ J ?_;rw[ar] at H;exists B o8 Ü,up f8 J eL u7 o9 u8 u9 xk;cases N:(f (Bf k6 n)).Ĉ V with
  |ok r p=>
   rw[N] at H;obtain⟨z3,fl⟩:=r;intro fw u q9 h' tk G e m fr;have R:PK g s.Ì h' u:={ly up e eL,xk G,m.ĩ,m.ũ};show aj (R.inv (gf:=g.enter Ü s.Ì B nm) I Î m.Az) λv4 v8=>?_;clear N m;cases fl using i7 with
   |Ã=>
    cases fw using P0 with
    |next=>show H _ h' tk v4 v8 VR.Ã
    |Ũ v=>show fr.ç
    |brk|cont=>show fr.ç
   |À j3=>
    cases fw using P0 with
    |Ũ v=>show H v h' tk v4 v8 (VR.less (X:=u) fr λb o _ x=>R.x b x)
    |next=>show fr.ç
    |brk|cont=>show fr.ç
  |exc k p=>
   exists k p,N;rw[N] at H;intro e u q9 z3 h' tk G z5 m xr;obtain⟨d9,xx,oe,vs,j3,he,z8,l6,z9,A0,⟨md,td,s0,A7⟩,l⟩:=xr;show iD I.ŕ λm7 m8 A8 _ _ _ hz=>iD m.ŕ λv9 w2 B1 _ _ ff _=>?_;have w4:(g.A.Áx Ü).ŕ=À (Ü::m7::m8):=by change g.A.ŕ.Ö (Ü:: ·)=_;rw[A8];rfl
   have B2:v9::w2=Ü::m7::m8:=by
    have:À (Ü::m7::m8)=À (v9::w2):=w4.symm.Ð B1;show(al this).symm
   rw[B2] at ff;have w5:∀{b:á},s.Ì.ã.Ú<=b->g.cx.ÿ.Ò b=Ã:=λ{b} h=>by
    cases q:g.cx.ÿ.Ò b with
    |Ã=>rfl
    |À o=>show absurd (g3 (I.ĩ b o q)) (i8.ĝ h)
   have d9:s.Ì.ã.Ú<=e:=d9;show iY (ÿ:=g.cx.ÿ) (s:={s with Ì:=h',Ā:=tk}) w4 ff.fun o9 he m.ĩ (w5 d9) l6 ?_ λj5 L2=>?_
   ·rcases l with l|⟨T,O,C,l,w6,t4,w7,U,CU,h3⟩
    ·show .Ę l
    ·show .Ġ {T,O,C,l,w6,w5 t4,U,CU,h3.1}
   have e8:∀{T:á},vs[1]? =À (.ò T)->s.Ì.ã.Ú<=T/\¬u T/\∃O C,h'.Ò T=À O/\O.ë= .ü C/\EY C:=λ{T} q=>by
    rcases l with l|⟨T',O,C,l,w6,t4,w7,U,CU,h3⟩
    ·rw[q] at l;cases l
    ·rw[q] at l;cases l;show{t4,w7,O,C,U,CU,h3.2}
   have B3:∀{b:á},b∈(Ü::m7::m8).Ų (·.Š)->(∃o es n,h'.Ò b=À o/\o.ë= .ĺ es n)/\(g.Z b\/b=Ü.æ):=λ{b} hb=>by
    show ag (J7.mp hb) λev m9 hf=>aj (ff ev m9) λ_ B4=>iE B4 λL o es n f _ ho hd=>?_;rw[hf] at f;(have t:=al f;clear f;subst t);show{{o,es,n,ho,hd},?_};rcases a5.mp m9 with rfl|m9
    ·rw[o9] at hf;show .Ġ (by rw[eL];show(al hf).symm)
    ·show .Ę ((hz b).ĝ {ev,m9,hf})
   have f6:Ev (λb=>g.Z b\/b=Ü.æ) (λb=>b=e\/vs[1]? =À (.ò b)) h' j5:=by
    intro b o j q;by_cases hb:b=e
    ·clear xx l d9 L2;subst hb;rcases q with q|⟨_,v',n,q⟩
     ·show absurd (.Ę Î) q
     ·rw[he] at j;(have t:=al j;clear j;subst t);rw[l6] at q;show dC q
    ·by_cases ho:vs[1]? =À (.ò b)
     ·show b_ (e8 ho) λ_ _ B6=>aD B6 λO C U CU=>?_;rcases q with q|⟨_,v',n,q⟩
      ·show absurd (.Ġ ho) q
      ·rw[U] at j;(have t:=al j;clear j;subst t);rw[CU.1] at q;show dC q
     ·rcases L2.rest b o hb ho j with q'|⟨N,sl,q'⟩
      ·show .Ę q'
      ·show bG λnG=>aj (B3 N) λB8 z=>cG B8 λo' es n m0 B9=>nG ?_;have m0:h'.Ò b=À o':=m0;rw[j] at m0;(have t:=al m0;clear m0;subst t);show .Ġ {z,{es,n,B9},sl,q'}
   have C0:Ev g.Z g.cx.K s.Ì j5:=by
    have a:=ly up z5 eL;intro b o j q;have lt:=g3 j;have nY:¬(b=e\/vs[1]? =À (.ò b)):=by
     rintro (z|z)
     ·rw[z] at lt;show absurd lt (i8.ĝ d9)
     ·show absurd lt (i8.ĝ (e8 z).1)
    have nl:b≠Ü.æ:=λz=>by rw[z,eL] at lt;show EQ _ lt
    rcases a b o j q with q1|⟨z,dd,sl,q1⟩
    ·rcases f6 b o q1 (.Ę nY) with q2|⟨z,dd,sl,q2⟩
     ·show .Ę q2
     ·show .Ġ {z.Ŏ nl,dd,sl,q2}
    ·rcases f6 b _ q1 (.Ę nY) with q2|⟨_,_,C1,q2⟩
     ·show .Ġ {z,dd,sl,q2}
     ·show .Ġ {z,dd,C1,q2}
   have C2:EY vs:=by
    rcases l with l|⟨T,_,_,l,_⟩
    ·show bz l nofun
    ·show bz l nofun
   have t2:Dh g.cx.tab u j5:=m.ũ.ÁX f6 (λb q ht y=>y.ç (λy=>xx (y▸(m.ũ b q ht).1)) λy=>(e8 y).2.1 (m.ũ b q ht).1) (λb o fs j j3 _ y=>y.ç (λy=>by subst y;cases j.symm.Ð he;cases j3.symm.Ð l6;show C2) λy=>
    b_ (e8 y) λ_ _ w=>aD w λ_ _ z w=>by cases j.symm.Ð z;cases j3.symm.Ð w.1;show w.2) (λ_ _ _ x=>x) λb q e=>(m.ũ b q e).1
   have R:PK g s.Ì j5 u:={C0,xk G,L2.ĩ,t2};have C4:Bv ((g.enter Ü s.Ì B nm).re u q9) h' (λb=>b=e\/vs[1]? =À (.ò b)):=by
    clear l d9 L2 f6;rintro b o j (rfl|q)
    ·rw[he] at j;(have t:=al j;clear j;subst t);show .Ġ {{vs,l6},xx}
    ·show b_ (e8 q) λ_ nx C6=>aD C6 λO C U CU=>?_;rw[U] at j;(have t:=al j;clear j;subst t);show .Ġ {{C,CU.1},nx}
   have C7:Bb ((g.enter Ü s.Ì B nm).re u q9) j5 p:=by
    show m.Az.to Î (λP o _ a b c ho _=>{f6.cH ho (λy=>?_) b,a,b,c}) λr=>r.jG C4 f6 m.zx m.yx;rcases y with y|y
    ·show xx (y▸a)
    ·show(e8 y).2.1 a
   show aj (R.inv (gf:=g.enter Ü s.Ì B nm) I Î C7) λC8 C9=>?_;have x7:g.lo<=s.Ì.ã.Ú:=by
    show ao (I.xs _ I.lx) λo q=>ac I.low (i5 (g3 q))
   obtain⟨D0,D1,T',D2,D3,b1,b2,b3,b4,b5,b6,b7,b8,b9,wy⟩:=L2.exc;show H e j5 tk C8 C9 {ac x7 d9,λx=>xx (R.x e x),D0,D1,j3,b1,b2.Ð z8,b3,(wy oe he).Ð z9,λx=>A0 (R.x j3 x),{md,td,bK s0 λo q=>?_,A7},.Ġ {T',D2,D3,b4,b6,?_,?_,b7,b8,b9}}
   ·show au (f6.ë q (λy=>by
     show ba s0 ?_;clear s0;intro E0 E5 E7 u1 o5 _;rw[q] at u1;(have t:=al u1;clear u1;subst t);rcases y with y|y
     ·rw[y,he] at q;(have t:=al q;clear q;subst t);rw[l6] at o5;show dC o5
     ·show b_ (e8 y) λ_ _ D5=>aD D5 λO C U CU=>?_;rw[U] at q;(have t:=al q;clear q;subst t);rw[CU.1] at o5;show dC o5)) λo' q' d' _=>?_
    show{o',q',d'}
   ·show cG J.Ż.ż.1 λo es ep q _=>?_;have b5:h'.ã.Ú<=T':=b5.2;show ao (m.xs _ m.lx) λoo qq=>?_;have:=g3 qq;have lL:s.Ì.ã.Ú<=Ü.æ:=by rw[eL];show a3 _
    show ac x7 (ac lL (ac (i5 this) b5))
   ·intro x;show ao (m.xs T' (R.x T' x)) λo q=>?_;have b5:h'.Ò T'=Ã:=b5.1;rw[b5] at q;show nS q
  |Û=>rw[N] at H;show H.ç
end
end
section
section
variable{g:Gd}{ρ:Aa}{E:Value->Shared->Prop}
def Dv.on{Az:AK}(a:Dv g h vs s)(I:Č g ρ Az h)(e:Ev g.Z g.Y h h'):Dv g h' vs s:=by
 induction a with
 |å=>show .å
 |ê r _ i=>show .ê (r.on I e) i
 |Az r _ i=>show .Az r i
def Dv.Æ{h:ì}{v:Í}{sl:Ą}{vs:Â Í}{s:Â Ą}(a:Dv g h [v] [sl])(b:Dv g h vs s):Dv g h (v::vs) (sl::s):=by
 cases a with
 |ê r _=>show .ê r b
 |Az r _=>show .Az r b
def Mt(g:Gd)(e:ý)(f:Aa->M Ą):Prop:=∀ρ p s (Q:Í->Ô->Prop) (E:Í->Ô->Prop),Č g ρ p s.Ì->Af g ρ (λh v sl=>Dv g h [v] [sl]) s ((f ρ).Ĉ p) Q E->è g.cx.M g.A (ŗ e g.Ü) Q E s
def Ak.arg(h:Ak g e f):Mt g e (λρ=>f ρ>>=Ju):=λρ n s Q E I H=>
 h ρ n s Q E I (H.Ĕ λd p v c t _ e a r b=>Af.Ũ b (Ev.ť _ _ _) a (.ê r .å))
def Fu(i:Ï)(ρ:Aa):M Ą:=match ρ.ĵ i with
 |À .Az=>Ñ .Az
 |_=>M.Û
def lz{x:Þ}(h:g.nm[i]? =À x)(d:(x==("__debug__"))=Å):Mt g (.ċ x ă) (Fu i):=λρ Az s Q E I H=>by
 unfold Fu at H;cases e:ρ.ĵ i with
 |Ã=>rw[e] at H;show H.ç
 |À l=>
  rw[e] at H;cases l using Ą.ď with
  |Az=>
   show ag I.Ż λm b c=>bG λn=>a_ (c i _ e) λy v a f z=>bG λn=>ag z λP j k=>?_;obtain rfl:=k;show n ?_;clear n;show n ?_;clear n;rw[h] at a;(have o:=al a;clear a;subst o);show dg I.ĕ b f d (Af.aC H I (.Az j .å))
  |_=>show H.ç
inductive HZ(g:Gd):Â ý->Â (Aa->M Ą)->Prop
 |å:HZ g [] []
 |Æ {e f s a}:Mt g e f->(∀x p,e≠ .ņ x p)->HZ g s a->HZ g (e::s) (f::a)
def s_{ă:Pos}(h:HZ g b c):∀(n:AK) (s:Ô) (Q:Â Í->Ô->Prop),Č g ρ n s.Ì->
  Af g ρ (λh vs l=>Dv g h vs l) s ((CF (c.Ö λf=>f ρ)).Ĉ n) Q E->è g.cx.M g.A (Âq (Âg ă (Àk b g.Ü))) Q E s:=by
 induction h with
 |å=>intro n s Q I H;show Tk (Af.aC H I .å)
 | @Æ e f b c h i _ j=>
  intro n s Q I H;rw[ak i];show ŝ (h ρ n s _ E I (Af.Ĕ H λa p v k t _ _ d r m=>j p _ _ d (Af.Ĕ m λx y vs z B _ o q u w=>Af.aC w q (Dv.Æ (r.on d o) u))))
def Tj(g:Gd)(a:á)(n:Ï)(c:Â Ą->M D):Prop:=∀ρ p s ÁF l (Q:Í->Ô->Prop) (E:Í->Ô->Prop),Č g ρ p s.Ì->Dv g s.Ì ÁF l->ÁF.Á=n->Af g ρ (VX g) s ((c l).Ĉ p) Q E->è g.cx.M g.A (ň (.ò a) ÁF) Q E s
def iZ(T:Cm g.cx Cj)(h:HZ g b c)(m:b≠[])
  (hk:g.Ü.ð x=À .ē)(q:(x==("__debug__"))=Å)(u:g.cx.mg x=À (.ò a))(w:g.cx.ÿ.Ò a=À o)(z:o.ë= .func fd)(B:Tj g a n C)(d:c.Á=n):
  Ak g (.Ás (.ċ x np) b [] ă) (λρ=>CF (c.Ö λf=>f ρ)>>= λl=>C l):=λρ G s Q E I H=>by
 show Call_Name Î (ŀ I.ĕ hk (Ŭ (I.ns T).1 u (ÁU (o:=o) (fd:=fd) ?_)) q);have y:=s_ (ă:=ă) h G s (λv i=>(i.Ì.Ò a=À o/\o.ë= .func fd)/\è g.cx.M g.A (ň (.ò a) ([]++v) []) Q E i) I (H.Ĕ λl p v k t J e j r L=>?_)
 ·clear d H;cases h with
  |å=>show absurd rfl m
  | @Æ e f b c O N U=>
   rw[ak N] at y⊢;show evalArgs_plain y
 ·show{{j.ĩ a o w,z},(B ρ p {s with Ì:=k,Ā:=t} v l Q E j r (by rw[r.ŏ,iX J,a2,d]) L)}
end
end
section
section
variable{g:Gd}{ρ:Aa}{V:AK}{s:Shared}{E:Value->Shared->Prop}
def Mu(v:Â (Þ×D))(k:Þ)(d:D):Â (Þ×D):=if v.any (λp=>p.1=k) then v.Ö (λp=>if p.1=k then(p.1,d) else p) else v++[(k,d)]
def wz{l:Â (Þ×Í×D)}(r:∀x∈l,VR h X x.2.1 x.2.2)(b:VR h X v d):∃l':Â (Þ×Í×D),l'.Ö OT=stored (l.Ö OT) k v/\l'.Ö Mp=Mu (l.Ö Mp) k d/\∀x∈l',VR h X x.2.1 x.2.2:=by
 unfold stored Mu;rw[acs,acs];by_cases q:l.any (λx=>decide (x.1=k))=Ä
 ·rw[à (show l.any ((λp:Þ×Í=>decide (p.1=k))∘OT)=Ä from q),à (show l.any ((λp:Þ×D=>decide (p.1=k))∘Mp)=Ä from q),lf,lf];show{l.Ö λx=>if x.1=k then(x.1,v,d) else x,?_,?_,λx a=>?_}
  ·rw[lf];show r0 λx _=>by change OT (if x.1=k then _ else _)=if x.1=k then _ else _;split<;>rfl
  ·rw[lf];show r0 λx _=>by change Mp (if x.1=k then _ else _)=if x.1=k then _ else _;split<;>rfl
  ·obtain⟨y,c,Î⟩:=i1.mp a;split
   ·show b
   ·show r y c
 ·rw[ß (show ¬l.any ((λp:Þ×Í=>decide (p.1=k))∘OT)=Ä from q),ß (show ¬l.any ((λp:Þ×D=>decide (p.1=k))∘Mp)=Ä from q)];show{l++[(k,v,d)],g1,g1,λx a=>(dL.mp a).ç (r x) λq=>by rw[am.mp q];show b}
def Č.nx(I:Č g ρ V h)(e:ρ.ĵ i=À (.sd k)):Tf g.cx h g.X (g.ĉ i) k:=ao (I.ho e) λ_ r=>r.2.2
def H_(i:Ï)(a f:Aa->M D)(ρ:Aa):M (Aa×Ë D):=f ρ>>= λd=>HW i ρ>>= λv=>a ρ>>= λk=>match k with
 | .Ý k=>if v.Á<=100000 then Ñ (ρ.set i (À (.sd (Mu v k d))),Ã) else M.Û
 |_=>M.Û
def eU{x:Þ}{px p ă:Pos}{i:Ï}{e b:ý}{f r:Aa->M D}(c:g.nm[i]? =À x)(y:(x==("__debug__" :Þ))=Å)(h:Ak g e f)(z:Ak g b r)
  (A:K0 e (À (.ń (.ċ x px) b p)) ă.Ÿ g.Ü=Ñ Å):
  CZ g (.Ř [.ń (.ċ x px) b p] e ă) (H_ i r f):=λρ V s Q E I H=>by
 exists g x px p ă i e b f r ρ V s Q E,c y h z A I H;show S3 (h ρ V s _ E I (An.Ĕ I H λd B v U Y C d7 a G j=>?_)) A;exists d B v U Y,C d7 a G j;show ag (An.sd j) λJ u j=>aK c y a u Î (z ρ B _ _ E a (An.Ĕ a j λk j6 kv d8 L C d9 w e7 n=>?_));cases k using ap with
 |Ý k=>
  obtain⟨t,Î⟩:=e7.cK;show aj (An.ő (m:=(Ñ (ρ.set i (À (.sd (Mu J k d))),Ã):M (Aa×Ë D))) n) λq3 n=>au (w.nx u) λl dd N rl=>wpAny_setItem_pairs (s:={s with Ì:=d8,Ā:=L}) (strKind_is _ _ k t) dd (λj8 T f7=>?_) (aH (by rw[a2,<-a2 Mp,N];show q3));show au (wz (k:=k) rl (G.on a d9)) λl' Bp p2 f9=>aj (w.mutated (sl':=.sd (Mu J k d)) u Î Î f7 (ba T λo _ _ q _ _=>{o,q}) λO E ax=>{Î,O,l',Bp▸T,N▸p2,λx c=>(f9 x c).ev E w.zx ax}) λj4 j5=>n.done (f:=.next) (X':=g.X) (ÁG:=g.ĉ) (tk:=L+1) (Bo.ť _) j4 j5 trivial
 |_=>show n.ç
end
end
section
section
variable{g:Gd}{ρ:Aa}{V:AK}{s:Shared}{E:Value->Shared->Prop}
open Classical in
def hx{l:Â (D×á×Í×D)}(h:∀x∈l.Ö FV,AU x.1=Ä)(hk:AU k=Ä)(x)(m:x∈l):f2 x.1 k=decide (x.1=k):=by
 have q:=mV (h _ (U5 m)) hk;by_cases e:x.1=k
 ·rw[Ă e];show q.ĝ e
 ·rw[û e];show AT.ĝ λz=>e (q.mp z)
open Classical in
def dj{l:Â (D×á×Í×D)}(hk:AU k=Ä)(b:∀x∈l.Ö FV,AU x.1=Ä)(r:∀x∈l,VR h X x.2.2.1 x.2.2.2):
  (DP (l.Ö GC) k=Ã/\atKey (l.Ö FV) k=Ã)\/∃d a v,DP (l.Ö GC) k=À d/\atKey (l.Ö FV) k=À (a,v)/\VR h X v d:=by
 have c:DP (l.Ö GC) k=(l.Âm λx=>decide (x.1=k)).Ö (·.2.2.2):=by
  unfold DP;rw[Â.find?_map,Ë.map_map,<-Â.head?_filter,<-Â.head?_filter,Â.filter_congr (p:=(λp=>f2 p.1 k)∘GC) (hx b hk)];rfl
 have f:atKey (l.Ö FV) k=(l.Âm λx=>decide (x.1=k)).Ö λx=>(x.2.1,x.2.2.1):=by
  unfold atKey;rw[Â.find?_map,Ë.map_map];rfl
 rw[c,f];cases e:l.Âm λx=>decide (x.1=k) with
 |Ã=>show .Ę {Î,Î}
 |À x=>show .Ġ {_,_,_,Î,Î,r x (IN e)}
def Č.dO(I:Č g ρ V h)(e:ρ.ĵ i=À (.td k)):Th g.cx h g.X (g.ĉ i) k:=ao (I.ho e) λ_ r=>r.2.2
open Classical in
def cc{h:ì}{xs:Â (D×á×Í)}(m:h.ÂJ (deep ú w) d xs):∀x∈xs,AU x.1=Ä:=qi m λ_ _ _ _ _ _ _ a _ x b=>(a x b).1
def bh(hk:AU k=Ä)(r:VR h X v k):∃a,v= .ò a/\Ào h (.ò a) k []:=by
 show ag r ?_;clear r;intro f r p;have e:=wi (fR hk) r;clear p;subst e;cases k using ap with
 |Ç l=>cases r with
  |Ç o c d b=>show{_,Î,.Ç o c d b}
 |_=>show fT hk
def Č.dk(I:Č g ρ V h)(O:BB g (g.ĉ i))(y:∃o,g.cx.ÿ.Ò Da=À o):(g.ĉ i==Da)=Å:=by
 rw[Ű];intro e;show ao y λo q=>?_;rw[<-e,I.KO _ O.x] at q;show nS q
open Classical in
def Č.dm(I:Č g ρ V h):(deep g.cx.ú g.cx.w).room g.A.in1/\(deep g.cx.ú g.cx.w).room g.A:=by
 have a:=I.Àp;have b:cLine=9900:=rfl;show{by change g.A.Àp+1+80<cLine;show ln2 (kV b) a,by change g.A.Àp+80<cLine;show ln2 (kV b) a}
def Iz(i:Ï)(f:Aa->M D)(ρ:Aa):M D:=f ρ>>= λk=>DC i ρ>>= λv=>if AU k=Ä then Ñ (.Ù (DP v k).ÁW) else M.Û
open Classical in
def zN{i:Ï}{c:Â (D×D)}{k:D}{v:Í}{Q:Í->Ô->Prop}(y:∃o,g.cx.ÿ.Ò Da=À o)(I:Č g ρ V s.Ì)(e:ρ.ĵ i=À (.td c))(hk:AU k=Ä)(r:VR s.Ì g.X v k)
  (H:Af g ρ (VX g) s ((Ñ (.Ù (DP c k).ÁW):M D).Ĉ V) Q E):è g.cx.M g.A (compareOp .In v (.ò (g.ĉ i))) Q E s:=by
 exists g ρ V s E i c k v Q,y I e hk r H;show au (I.dO e) λl j m n=>?_;obtain⟨a,Î,p⟩:=bh hk r;rw[<-m] at H;show wpAny_in_heap (knd:=deep g.cx.ú g.cx.w) (k:=k) I.dm.1 {hk,p} (I.dk (I.ÂB e Î) y) j ?_;rcases dj hk (cc j) n with⟨f,h⟩|⟨d,b,q,f,h,_⟩
 ·rw[h];rw[f] at H;show H.now I (VR.Ù _)
 ·rw[h];rw[f] at H;show H.now I (VR.Ù _)
end
end
section
section
variable{g:Gd}{ρ:Aa}{V:AK}{s:Shared}{E:Value->Shared->Prop}
def Jz(v:Â (D×D))(k:D):M D:=if AU k=Ä then Df (DP v k) else M.Û
open Classical in
def qG{x:Þ}{px ă:Pos}{i:Ï}{n:ý}{f:Aa->M D}(z:g.nm[i]? =À x)(A:(x==("__debug__" :Þ))=Å)(h:Ak g n f)
  (B:∀o i,ÀL n Å o i=ZP [o,i] (Ár o i)):
  Ak g (.ń (.ċ x px) n ă) (λρ=>DC i ρ>>= λq=>f ρ>>= λk=>Jz q k):=λρ V s Q E I H=>by
 exists g x px ă i n f ρ V s Q E,z A h B I H;show ag (Af.td H) λq C H=>Yn (aK z A I C Î (h ρ V s _ E I (H.Ĕ λk p v G J zq d8 r L e=>?_)));show aj (Af.ő (c:=AU k=Ä) (m:=Df (DP q k)) e) λt e=>ag (Af.opt e) λd u e=>au (r.dO C) λl y N O=>?_;obtain⟨a,Î,T⟩:=bh t L;rw[<-N] at u;rcases dj t (cc y) O with⟨j,_⟩|⟨d',b,e7,j,U,Y⟩
 ·rw[u] at j;show we j
 ·rw[u] at j;obtain rfl:=al j;show Âr (s:={s with Ì:=G,Ā:=J}) y.ÀY slot_dict_getitem.ö (wpAny_getItem_heap (knd:=deep g.cx.ú g.cx.w) (k:=k) r.dm.1 {t,T} y U (e.now r Y)) (B _ _)
open Classical in
def wA{l:Â (D×á×Í×D)}(hk:AU k=Ä)(b:∀x∈l.Ö FV,AU x.1=Ä)(r:∀x∈l,VR h X x.2.2.1 x.2.2.2)(i:VR h X v d):
  ∃l':Â (D×á×Í×D),l'.Ö FV=storedH (l.Ö FV) k a v/\l'.Ö GC=Jq (l.Ö GC) k d/\∀x∈l',VR h X x.2.2.1 x.2.2.2:=by
 unfold Jq;rcases dj hk b r with⟨e,f⟩|⟨_,_,_,e,f,_⟩
 ·rw[storedH_new f,e];show{l++[(k,a,v,d)],g1,g1,λx b=>(dL.mp b).ç (r x) λq=>by rw[am.mp q];show i}
 ·rw[storedH_old f,e,à (c:=(À _).ÁW=Ä) rfl,lf,lf];show{l.Ö λx=>if x.1=k then(x.1,x.2.1,v,d) else x,?_,?_,λx b=>?_}
  ·rw[lf];show r0 λx _=>by change FV (if x.1=k then _ else _)=if x.1=k then _ else _;split<;>rfl
  ·rw[lf];show r0 λx m=>by
    change GC (if x.1=k then _ else _)=if f2 x.1 k=Ä then _ else _
    rw[hx b hk x m];by_cases q:x.1=k
    ·rw[à q,à (Ă q)];rfl
    ·rw[ß q,ß (λz=>q (Ø z))]
  ·obtain⟨y,j,Î⟩:=i1.mp b;split
   ·show i
   ·show r y j
def DY(i:Ï)(a f:Aa->M D)(ρ:Aa):M (Aa×Ë D):=f ρ>>= λd=>DC i ρ>>= λv=>a ρ>>= λk=>if AU k=Ä/\v.Á<=100000 then Ñ (ρ.set i (À (.td (Jq v k d))),Ã) else M.Û
open Classical in
def eV{x:Þ}{px t ă:Pos}{i:Ï}{e j:ý}{f u:Aa->M D}(n:g.nm[i]? =À x)(C:(x==("__debug__" :Þ))=Å)(h:Ak g e f)(G:Ak g j u)
  (J:K0 e (À (.ń (.ċ x px) j t)) ă.Ÿ g.Ü=Ñ Å):
  CZ g (.Ř [.ń (.ċ x px) j t] e ă) (DY i u f):=λρ V s Q E I H=>by
 exists g x px t ă i e j f u ρ V s Q E,n C h G J I H;show S3 (h ρ V s _ E I (An.Ĕ I H λd L v d8 d9 N e7 b T p=>?_)) J;exists d L v d8 d9,N e7 b T p;show ag (An.td p) λy z p=>aK n C b z Î (G ρ L _ _ E b (An.Ĕ b p λk k6 kv e8 e9 N f6 r f7 A=>?_));obtain⟨⟨B,hq⟩,A⟩:=An.ő (c:=AU k=Ä/\y.Á<=100000) (m:=(Ñ (ρ.set i (À (.td (Jq y k d))),Ã):M (Aa×Ë D))) A;show au (r.dO z) λl U Y rl=>?_;obtain⟨a,Î,ra⟩:=bh B f7;show wpAny_setItem_heap (knd:=deep g.cx.ú g.cx.w) (k:=k) (s:={s with Ì:=e8,Ā:=e9}) r.dm.1 {B,ra} U (λk8 d7 j4=>?_) (aH (by rw[a2,<-a2 GC,Y];show hq));show au (wA (a:=a) B (cc U) rl (T.on b f6)) λl' Bp p2 j6=>aj (r.mutated (sl':=.td (Jq y k d)) z Î Î j4 (ba d7 λo _ _ q _ _=>{o,q}) λO E ax=>{Î,O,l',Bp▸d7,Y▸p2,λx n=>(j6 x n).ev E r.zx ax}) λj8 j9=>A.done (f:=.next) (X':=g.X) (ÁG:=g.ĉ) (tk:=_) (Bo.ť _) j8 j9 trivial
end
end
section
section
variable{g:Gd}{ρ:Aa}{V:AK}{s:Shared}{E:Value->Shared->Prop}
def qH{px ă:Pos}{i:Ï}{l:ý}{f:Aa->M D}(y:∃o,g.cx.ÿ.Ò Da=À o)(m:g.nm[i]? =À x)(n:(x==("__debug__"))=Å)(h:Ak g l f)(q:Yj .In (.ċ x px)=Å):
  DV g (.Áq l [.In] [.ċ x px] ă) (Iz i f):=λρ V s w Q E I H u=>by
 exists g x px ă i l f ρ V s w Q E,y m n h q I H u;unfold Iz at H;rw[M.Áz] at H;show S9 (h ρ V s _ E I (H.Ĕ λk p v z A B C d r e=>?_)) q;exists k p v z A,B C d r e;rw[M.Áz] at e;show ag (Af.td e) λO t a=>?_;by_cases j:AU k=Ä
 ·rw[à j] at a;show aK m n d t Î (zN y d t j r (Af.Ĕ a λc T x U Y _ _ G J L=>?_));obtain⟨b,Î,N⟩:=L.Aw;rw[J.Aw];show GM (N.aC G Î)
 ·rw[ß j] at a;show a.ç
def EB(i:Ï)(f fd:Aa->M D)(ρ:Aa):M D:=DC i ρ>>= λv=>f ρ>>= λk=>fd ρ>>= λd=>if AU k=Ä then Ñ ((DP v k).ø d) else M.Û
open Classical in
def tb{x:Þ}{px p ă:Pos}{i:Ï}{e f:ý}{h fd:Aa->M D}(B:∃o,g.cx.ÿ.Ò Da=À o)(C:g.nm[i]? =À x)(G:(x==("__debug__" :Þ))=Å)(J:Ak g e h)(n:∀y q,e≠ .ņ y q)(L:Ak g f fd)(r:∀y q,f≠ .ņ y q)
  (N:T7 (.ċ x px) "get" g.Ü (ŗ (.ċ x px) g.Ü)=ŗ (.ċ x px) g.Ü)(O:(p.Àn==ă.Ÿ)=Ä):
  Ak g (.Ás (.Ŋ (.ċ x px) "get" p) [e,f] [] ă) (EB i h fd):=λρ V s Q E I H=>by
 exists g x px p ă i e f h fd ρ V s Q E,B C G J n L r N O I H;show ag (Af.td H) λj4 j H=>au (I.dO j) λl U hl rv=>gR (id U) λo es ep ho hex j9 _=>ÀN (T:="dict") (id:="dict.get") N (by rw[ak n,ak r];rfl) O YZ F.slot_dict_get F.type_dict_get (aK C G I j Î {U.ÀY,λa q=>by cases q;show{o,ho,hex.2.1},?_});rw[ak n,ak r];show wpAny_dict_get2_heap (knd:=deep g.cx.ú g.cx.w) I.dm.1 (I.dk (I.ÂB j Î) B) ?_;show J ρ V s _ E I (Af.Ĕ (m:=h ρ) H λk d9 v k6 k7 _ k8 Y e7 e8=>L ρ d9 _ _ E Y (e8.Ĕ λd k9 l6 l7 l8 _ e9 t f6 c=>?_));show aj (Af.ő c) λu c=>au (t.dO j) λl9 d7 f7 f8=>?_;obtain⟨a,Î,ra⟩:=bh u (e7.on Y e9);show{a,k,_,Î,{u,ra},d7,?_};rw[<-f7] at c;rcases dj u (cc d7) f8 with⟨z,A⟩|⟨d',b,w',z,A,q3⟩
 ·rw[A];rw[z] at c;show c.now t f6
 ·rw[A];rw[z] at c;show c.now t q3
end
end
section
def eK{α b:Type}(f:α->b)(l:Â α)(j:Ï):(l.Ö f).ÁS j=(l.ÁS j).Ö f:=by
 induction l generalizing j with
 |å=>rfl
 |Æ a l i=>cases j using R1 with
  |ž=>rfl
  |ś j=>simp only[v7,Y7,i j]
section
variable{prog:Ok}{w:World}{K:Type}[DecidableEq K]{knd:HeapKind prog w K}{A:KB}{E:Value->Shared->Prop}{s:Shared}
def iI(u:knd.room A)(y:knd.is s.Ì k a)(m:s.Ì.ÂJ knd d xs)(H:keyPart (.ò a)=Ã)
  (l:atKey xs k=Ã->Q Ã {s with Ā:=s.Ā+knd.draws k})
  (q:∀j p,xs[j]? =À (k,p)->∀h',h'.ÂJ knd d (xs.ÁS j)->ut d s.Ì h'->Q (À (entryOfKey knd (k,p))) {s with Ì:=h',Ā:=s.Ā+knd.draws k})
  (z:xs.Á<=V5):è (ć ú w) A (Ő.Dict.takeOut d (.ò a)) Q E s:=by
 show qi m λo g r b t h c i n=>?_;unfold Ő.Dict.takeOut;try with_reducible show Ģ ?_
 show È (knd.pyHash u y (È (wpAny_dictFind_heap u y b h c i n ?_ ?_)))
 ·intro v;show Õ (l (atKey_none_of_get v))
 ·intro j p f;show È (ÀP b h ?_);rw[entry_at c j,f];have B:g.Ú<=V5:=by have e:=ÂN c;show ln2 (fA e) z
  show È (wpAny_updateDictKeys (hz:=B) b h (Õ (q j p f _ ⟨_,_,r+1,xz _ b (Obj.isFreed_of_dict (ZC h _)),
   t.mapDictKeys _,ZC h _,?_,?_,?_⟩ (GT ..))))
  ·have C:j<g.Ú:=by
    have:=(s5.mp f).1;show ln2 this (kV (ÂN c))
   rw[Y1,dif_pos C,Zy,c,eK]
  ·intro x G;show knd.ľ (i x (YW G)) b h (GT ..)
  ·rw[<-eK];show n.sublist (Â.eraseIdx_sublist ..)
end
section
def erase_filter{l:Â (D×á×Í×D)}{p:á×Í}(n:(l.Ö (·.1)).Ŀ)(q:D->é)(h:∀x∈l,q x.1=Ä->x.1=k)(b:q k=Ä):(l.Ö FV)[j]? =À (k,p)->l.ÁS j=l.ÀX λx=> !q x.1:=by
 induction l generalizing j with
 |å=>show λe=>nS e
 |Æ x l c=>
  intro e;rw[v7,A4] at n;cases j with
  |ž=>
   have e:x.1=k:=â ZA (al e);rw[Ze,e,b];show(ZT.ĝ λy a=>by
    cases z:q y.1 with
    |Å=>rfl
    |Ä=>show absurd (i1.ĝ {y,a,(h y (.ě _ a) z).Ð e.symm}) n.1).symm
  |ś j=>
   have z:q x.1=Å:=by
    cases z:q x.1 with
    |Å=>rfl
    |Ä=>
     show ag (i1.mp (wS (i:=j) e)) λy a d=>absurd (i1.ĝ {y,a,(â ZA d).Ð (h x (.Ď _) z).symm}) n.1
   rw[Ze,z,Y7,c n.2 (λy a=>h y (.ě _ a)) e];rfl
open Classical in
def wB{l:Â (D×á×Í×D)}{p:á×Í}(hk:AU k=Ä)(b:∀x∈l.Ö FV,AU x.1=Ä)(h:((l.Ö FV).Ö (·.1)).Ŀ)(e:(l.Ö FV)[j]? =À (k,p)):
  (l.ÁS j).Ö FV=(l.Ö FV).ÁS j/\(l.ÁS j).Ö GC=Hk (l.Ö GC) k:=by
 show{(eK _ _ _).symm,?_};rw[lf] at h;rw[erase_filter h (λa=>f2 a k) (λx m q=>Ø ((hx b hk x m).symm.Ð q)) ((mV hk hk).ĝ Î) e];unfold Hk;rw[Â.filter_map];rfl
end
end
section
section
variable{prog:Ok}{w:World}{K:Type}[DecidableEq K]{knd:HeapKind prog w K}{A:KB}{E:Value->Shared->Prop}{s:Shared}
def hy{d a:á}{xs:Â (K×á×Í)}{k:K}{dflt:Í}{Q:Í->Ô->Prop}(u:knd.room A.in1)(y:knd.is s.Ì k a)(h:s.Ì.ÂJ knd d xs)(l:(d==Da)=Å)
  (n:atKey xs k=Ã->∀tk,Q dflt {s with Ā:=tk})
  (r:∀j p,xs[j]? =À (k,p)->∀h' tk,h'.ÂJ knd d (xs.ÁS j)->ut d s.Ì h'->Q p.2 {s with Ì:=h',Ā:=tk})
  (z:xs.Á<=V5):è (ć ú w) A (ň (.ė "dict.pop") [.ò d,.ò a,dflt]) Q E s:=by
 show qi (id h) λo f N g O t v B T=>Ľ ř.F.slot_dict_pop h.ÀY ř.F.entry_dict_pop (È (È (wpAny_notOrdered_dict h.ÀY (Õ ?_)))) (ř.F.args_dict_pop_3 _ _ _);have C:(keyPart (.ò a)).ÁW=Å:=rfl;simp only[C,S6,ÁR];show È (ÀP g t (È (Õ ?_)));have i:∀c:Ô,è (ć ú w) A.in1 (Ő.Dict.missedRemoval d (.ò a)) (λ_ b=>b=c) E c:=λc=>by
  unfold Ő.Dict.missedRemoval;rw[ß (by simp[l])];show Õ Î
 by_cases m:f.Ť=Ä
 ·rw[à m];have G:xs=[]:=by
   have e:=ÂN v;have:f.Ú=0:=by simpa using m
   show l5 (e.symm.Ð this)
  show È (ÁQ (È (Õ (È (ą (i s) (λ_ b q=>?_) λ_ _ x=>x)))));clear y h g B;subst q;show È (ÁQ (Õ {dflt,Î,?_}));show n (by rw[G];rfl) b.Ā
 ·rw[ß m];show È (iI u y h Î (λH=>?_) (λj p I h' J L=>?_) z)
  ·simp only[Ë.isNone_none,Âs];show È (ą (i _) (λ_ b q=>?_) λ_ _ x=>x);subst q;show È (ÁQ (Õ {dflt,Î,?_}));show n H _
  ·simp only[Ë.isNone_some,S6,ÁR];show È (wpAny_letGo (Õ {p.2,Î,r j p I h' _ J L}))
end
section
variable{g:Gd}{ρ:Aa}{V:AK}{s:Shared}{E:Value->Shared->Prop}
def GW(y i:Ï)(f fd:Aa->M D)(ρ:Aa):M (Aa×Ë D):=DC i ρ>>= λv=>f ρ>>= λk=>fd ρ>>= λd=>if AU k=Ä/\v.Á<=100000 then Ñ ((ρ.set i (À (.td (Hk v k)))).set y (À (.ê ((DP v k).ø d))),Ã) else M.Û
open Classical in
def qI{x z:Þ}{px d8 G ă J:Pos}{i y:Ï}{A B:ý}{fk fd:Aa->M D}(j7:∃o,g.cx.ÿ.Ò Da=À o)(L:g.nm[i]? =À x)(hd:(x==("__debug__" :Þ))=Å)(hz:g.nm[y]? =À z)(e7:g.Ü.ð z=À .local)
  (j9:Ak g A fk)(e8:∀y q,A≠ .ņ y q)(k6:Ak g B fd)(e9:∀y q,B≠ .ņ y q)
  (k7:T7 (.ċ x px) "pop" g.Ü (ŗ (.ċ x px) g.Ü)=ŗ (.ċ x px) g.Ü)(k8:(G.Àn==J.Ÿ)=Ä)
  (hs:K0 (.Ás (.Ŋ (.ċ x px) "pop" G) [A,B] [] J) (À (.ċ z d8)) ă.Ÿ g.Ü=Ñ Å):
  CZ g (.Ř [.ċ z d8] (.Ás (.Ŋ (.ċ x px) "pop" G) [A,B] [] J) ă) (GW y i fk fd):=λρ V s Q E I H=>by
 exists g x z px d8 G ă J i y A B fk fd ρ V s Q E,j7 L hd hz e7 j9 e8 k6 e9 k7 k8 hs I H;show ag (An.td H) λf6 h H=>au (I.dO h) λl dd _ _=>gR (id dd) λo es ep ho hex u4 _=>P8 (ÀN (T:="dict") (id:="dict.pop") k7 (by rw[ak e8,ak e9];rfl) k8 YZ F.slot_dict_pop F.type_dict_pop (aK L hd I h Î {dd.ÀY,λa q=>by cases q;show{o,ho,hex.2.1},?_})) hs;rw[ak e8,ak e9];show N8 Î (L3 (A3 (j9 ρ V s _ E I (An.Ĕ I H λk m7 v u5 u7 _ u8 f7 m8 m9=>?_))));show A3 (k6 ρ m7 _ _ E f7 (An.Ĕ f7 m9 λd u9 l7 N f8 _ o0 n o4 r=>T9 ?_));obtain⟨⟨C,hq⟩,r⟩:=An.ő (c:=AU k=Ä/\f6.Á<=100000) (m:=(Ñ ((ρ.set i (À (.td (Hk f6 k)))).set y (À (.ê ((DP f6 k).ø d))),Ã):M (Aa×Ë D))) r;obtain⟨t,f9,Î,j3⟩:=n.dO h;obtain⟨a,Î,ra⟩:=bh C (m8.on f7 o0);have l9:((t.Ö FV).Ö (·.1)).Ŀ:=qi f9 λ_ _ _ _ _ _ _ _ q=>q;have j4:=cc f9;show hy (knd:=deep g.cx.ú g.cx.w) (k:=k) (s:={s with Ì:=N,Ā:=f8}) n.dm.1 {C,ra} f9 (n.dk (n.ÂB h Î) j7) (λo6 tk=>?_) (λj p hj h' tk m5 o8=>?_) (aH (by rw[a2];rw[a2] at hq;show hq))
 ·rcases dj C j4 j3 with⟨U,_⟩|⟨_,_,_,_,u,_⟩
  ·have Âl:Hk (t.Ö GC) k=t.Ö GC:=ZT.ĝ λp hp=>by
    have:=Â.find?_eq_none.mp (Ë.map_eq_none_iff.mp U) p hp;simpa using this
   have q8:ρ.set i (À (.td (Hk (t.Ö GC) k)))=ρ:=by
    rw[Âl];unfold Aa.ĵ at h;cases q:ρ[i]? with
    |Ã=>rw[q] at h;show nS h
    |À z=>
     rw[q] at h;show ao (s5.mp q) λq9 e=>by rw[<-(show z=À (.td _) from h),<-e];show Â.set_getElem_self q9
   rw[q8,U] at r;show br (s:={s with Ì:=N,Ā:=tk}) (sl:=.ê d) n hz e7 o4 fT λs0 j5 Y d7=>An.done (s:={s with Ì:=N,Ā:=f8}) r (f:=.next) (X':=g.X) (ÁG:=g.ĉ) (tk:=j5) (Bo.ť _) (Y.yw n) d7 trivial
  ·rw[o6] at u;show nS u
 ·have j6:atKey (t.Ö FV) k=À p:=atKey_of_get l9 hj;rcases dj C j4 j3 with⟨_,u⟩|⟨d',b,w',U,u,q3⟩
  ·rw[u] at j6;show nS j6
  ·obtain rfl:=al (u.symm.Ð j6);show aj (wB C j4 l9 hj) λd1 d2=>aj (n.mutated (sl':=.td (Hk (t.Ö GC) k)) h Î Î o8 (ba m5 λo _ _ q _ _=>{o,q}) λO E ax=>{Î,O,_,d1▸m5,d2,λx L=>(j3 x (YW L)).ev E n.zx ax}) λY d7=>?_;rw[U] at r;show br (s:={s with Ì:=h',Ā:=tk}) (sl:=.ê d') d7 hz e7 (q3.ev Y n.zx λb l7=>l7.1) fT λs0 j5 t9 u1=>An.done (s:={s with Ì:=N,Ā:=f8}) r (f:=.next) (X':=g.X) (ÁG:=g.ĉ) (tk:=j5) (Bo.ť _) (Y.Ð (t9.yw d7)) u1 trivial
end
end
section
open PySem.Sem (wp)
def Mv(h:ì)(d:á)(e:Ŕ Zx)(ep:Ï):Prop:=∃o,h.Ò d=À o/\o.ë= .ĺ e ep
section
variable{prog:Ok}{w:World}{A:KB}{E:Value->Shared->Prop}{s:Shared}
def hA{it d:á}{i ep:Ï}{a:Ŕ Zx}{en:Zx}{k v:Í}{Q:Ë Í->Ô->Prop}(t:ÀQ s.Ì it d i a.Ú ep k v)
  (hm:Mv s.Ì d a ep)(hx:a[i]? =À en)
  (hQ:∀h',Ám h' it d (i+1) a.Ú ep en.key en.ê s.Ì.ã.Ú->
   h'.Ò s.Ì.ã.Ú=À {ķ:=.Ċ "tuple",ë:=.Ĕ #[en.key,en.ê]}->h'.ã.Ú=s.Ì.ã.Ú+1->
   (∀b o,b≠it->s.Ì.Ò b=À o->h'.Ò b=À o)->Q (À (.ò s.Ì.ã.Ú)) {s with Ì:=h'}):
  è (ć ú w) A (Áw (.ò it)) Q E s:=by
 exists ú w A E s it d i ep a en k v Q,t hm hx hQ;obtain⟨h,g,r,j,os⟩:=s;show ag (id hm) λod e7 e8=>?_;have T:Ô.Âe {h,g,r,j,os} (.ò it) "dict_itemiterator":={_,t,Î};show È (wpAny_attempt (ÁC (Ě:=Þ.ofString "__next__") T wl
  (Ľ wl T X6 ?_ (W5 _))))
 show È (Õ ?_);show È ?_;show È ?_;first|show È (Ź T (Õ ?_))|show È (ÀB T (Õ ?_))
 show È (wpAny_fieldsOf t Î ?_);show È (Õ ?_);show È (ÀP e7 e8 ?_);rw[ß (by simp)];show È (Õ ?_);show È (ÂO e7 e8 ?_);rw[ß (by simp)];show Õ ?_;obtain⟨e9,Î⟩:=o3.mp hx;simp only[show ¬((i:ä)<0) from Yp.ĝ (s1 i),ÁR,ä.toNat_natCast,P2 e9];show È ?_;first|show È (Ź T (Õ ?_))|show È (ÀB T (Õ ?_))
 show È (ÁH T ?_);change è _ _ (setField (.ò it) 3 (ŷ ((i:ä)+1))>>=_) _ _ {h,g,r,j,os};show È (ÀK t (by simp) λc l H=>?_)
 replace l:ÀQ c it d (i+1) a.Ú ep k v:=by
  have e:((i+1:Ï):ä)=(i:ä)+1:=ä.natCast_add i 1;unfold ÀQ;rw[e];simpa [ŷ] using l
 have I:Ô.Âe {c,g,r,j,os} (.ò it) "dict_itemiterator":={_,l,Î};show È (Ģ ?_);show È (ÁH I ?_);show È (ÁH I ?_);change è _ _ (Ő.Àt.pairFromOwner (.ò it) 6 a[i].key a[i].ê) _ _ {c,g,r,j,os};unfold Ő.Àt.pairFromOwner;show È (wpAny_newTuple ?_);have m:ÀQ (c.Ŧ {ķ:=.Ċ "tuple",ë:=.Ĕ #[a[i].key,a[i].ê]}) it d (i+1) a.Ú ep k v:=a0 _ l;generalize z:c.Ŧ {ķ:=.Ċ "tuple",ë:=.Ĕ #[a[i].key,a[i].ê]}=n at m;have B:c.ã.Ú=h.ã.Ú:=H.1;have C:it<h.ã.Ú:=g3 t;have f6:n.Ò h.ã.Ú=À {ķ:=.Ċ "tuple",ë:=.Ĕ #[a[i].key,a[i].ê]}:=by rw[<-z,<-B];show f1 _ Î
 have f7:n.ã.Ú=h.ã.Ú+1:=by rw[<-z,U1,B]
 have f8:∀b o,b≠it->h.Ò b=À o->n.Ò b=À o:=λb o f e=>by rw[<-z];show a0 _ (H.ŉ b o f e)
 change è _ _ (Ő.Àt.ownedTupleIsFree (.ò it)>>=_) _ _ {n,g,r,j,os};rw[B];clear z l H I B c;show È ?_;unfold Ő.Àt.ownedTupleIsFree;show È (Ş m Î (x:=.Ã) rfl (Õ ?_));simp only[Âs];show È (Ş m Î (x:=k) rfl ?_);show È (Ş m Î (x:=v) rfl ?_);show È (ÀK m (by simp) λJ L p=>?_)
 replace p:ut it n J:=p
 replace L:ÀQ J it d (i+1) a.Ú ep a[i].key v:=L
 show È (ÀK L (by simp) λN O q=>?_)
 replace q:ut it J N:=q
 replace O:ÀQ N it d (i+1) a.Ú ep a[i].key a[i].ê:=O
 show È (ÀK O (by simp) λU V u=>?_)
 replace u:ut it N U:=u
 replace V:Ám U it d (i+1) a.Ú ep a[i].key a[i].ê h.ã.Ú:=V
 show È (ÀK V (by simp) λG Y y=>?_)
 replace y:ut it U G:=y
 replace Y:Ám G it d (i+1) a.Ú ep a[i].key a[i].ê h.ã.Ú:=Y
 show È (wpAny_letGo (Õ (Õ {_,Î,Õ (hQ G Y ?_ ?_ ?_)})))
 ·show y.ŉ _ _ (A2 C) (u.ŉ _ _ (A2 C) (q.ŉ _ _ (A2 C) (p.ŉ _ _ (A2 C) f6)))
 ·change G.ã.Ú=h.ã.Ú+1;rw[y.1,u.1,q.1,p.1,f7]
 ·show λb o f e=>y.ŉ b o f (u.ŉ b o f (q.ŉ b o f (p.ŉ b o f (f8 b o f e))))
def iJ{it d:á}{i ep:Ï}{e:Ŕ Zx}{o v:Í}{Q:Ë Í->Ô->Prop}(c:A.Àe=Ã)(t:ÀQ s.Ì it d i e.Ú ep o v)
  (m:Mv s.Ì d e ep)(x:e[i]? =Ã)
  (f:∀h',YA it s.Ì h'->Q Ã {s with Ì:=h'}):è (ć ú w) A (Áw (.ò it)) Q E s:=by
 exists ú w A E s it d i ep e o v Q,c t m x f;show ag (id m) λl g j=>?_;have h:s.Âe (.ò it) "dict_itemiterator":={_,t,Î};show È (wpAny_attempt (ÁC h wl
  (Ľ wl h X6 ?_ (W5 _))))
 show È (Õ ?_);show È ?_;show È ?_;first|show È (Ź h (Õ ?_))|show È (ÀB h (Õ ?_))
 show È (wpAny_fieldsOf t Î ?_);show È (Õ ?_);show È (ÀP g j ?_);rw[ß (by simp)];show È (Õ ?_);show È (ÂO g j ?_);rw[ß (by simp)];show Õ ?_;have k:e.Ú<=i:=by simpa using x
 simp only[show ¬((i:ä)<0) from Yp.ĝ (s1 i),ÁR,ä.toNat_natCast,Zm k];show È ?_;first|show È (Ź h (Õ ?_))|show È (ÀB h (Õ ?_))
 change è _ _ (setField (.ò it) 2 .Ã>>=_) _ _ s;show È (ÀS t Î (by simp) ?_);show È ?_;show È (đ ?_ (by size_fits));show È (ÁB (a:=Í.Ã) (by first|rfl|(simp only[firstArgMember];rfl)) ?_);show đ ?_ (by size_fits);show È (wpAny_handled ?_);rw[show A.in1.Àe=Ã from c];show È (Õ (wpAny_throw ?_));show È (wpAny_isInstance (T:="StopIteration") (b:=Ä) {_,f1 _ Î,Î} isSubtype_stop ?_);show Õ (f _ (((GT ..).ŉ.Ŧ _).Ŧ _))
end
end
section
section
variable{prog:Ok}{w:World}{A:KB}{E:Value->Shared->Prop}{s:Shared}
def qJ{v d:á}{e:Ŕ Zx}{ep:Ï}{Q:Í->Ô->Prop}(h:s.Ì.IsItemsView v d)(m:Mv s.Ì d e ep)
  (a:Q (.ò s.Ì.ã.Ú) {s with Ì:=s.Ì.Ŧ {ķ:=.Ċ "dict_itemiterator",ë:=.ü #[.Ã,.Ù Å,.ò d,.Ê 0 0,.Ê e.Ú 0,.Ê ep 0,.Ã,.Ã]}}):
  è (ć ú w) A (Âh (.ò v)) Q E s:=by
 exists ú w A E s v d e ep Q,h m a;show au (id h) λg c i f=>ag (id m) λo b t=>wpAny_pyIter_slot h.ÀY Zk (Ľ Zk h.ÀY F.entry_dict_items_iter (È (Õ (È (È (Ş c f (x:=.ò d) rfl (Õ (È (È (ÀP b t (È (ÂO b t ?_))))))))))) (F.args_dict_items_iter_1 _));have n:Ő.Àt.ownsTuple "dict_itemiterator" =Ä:=_0
 simp only[n,Âs];show đ (Õ {_,Î,"dict_itemiterator",_,{_,f1 _ Î,Î},wl.ö,?_})
  (by simp only[sizeOk,Ő.Àt.ownedTupleFields,kt,f4,i3,T0,sizeLine_eq];decide)
 simpa [ŷ,Ő.Àt.ownedTupleFields] using a
def gq(T:s.Âe (.ò d) "dict")(a:(d==Da)=Å)
  (h:Q (.ò s.Ì.ã.Ú) {s with Ì:=s.Ì.Ŧ {ķ:=.Ċ "dict_items",ë:=.ü #[.ò d]}}):è (ć ú w) A (ň (.ė "dict.items") [.ò d]) Q E s:=by
 show Ľ F.slot_dict_items T F.entry_dict_items (È (È (wpAny_notOrdered_dict T (Õ ?_)))) (F.args_dict_items_1 _);unfold Ő.Dict.showsAll;rw[ß (by rw[a];show é.false_ne_true)];show È (Õ (È (đ (Õ {_,Î,h}))))
end
end
section
def dP:entryFor Áu "dict_itemiterator.__iter__" =À YB.«dict_keyiterator.__iter__»:=
 entryFor_alias (id':="dict_keyiterator.__iter__") _2 Î (by decide+kernel) _2
section
variable{prog:Ok}{w:World}{A:KB}{E:Value->Shared->Prop}{s:Shared}
def lA(t:ÀQ s.Ì it d i n ep o v)(h:Q (.ò it) s):è (ć ú w) A (Âh (.ò it)) Q E s:=by
 have T:s.Âe (.ò it) "dict_itemiterator":={_,t,Î};show wpAny_pyIter_slot T X9 (Ľ X9 T dP (Õ {_,Î,"dict_itemiterator",_,T,wl.ö,h}) (F.args_dict_itemiterator_iter_1 _))
def jN{elts:Â ý}{k:Ï}{ă:Pos}(y:A.Àe=Ã)(it d:á)(x:d≠it)(j:Ŕ Zx)(ep:Ï):
  KTurns ú w A (.Ů elts k ă) it [it,d] [it] j.Ú (λi v h=>∃T en,v= .ò T/\j[i]? =À en/\h.IsTuple T #[en.key,en.ê])
   (λi v h=>∃T en,v= .ò T/\j[i]? =À en/\h.IsTuple T #[en.key,en.ê]/\T≠it/\(∃c f,Ám h it d (i+1) j.Ú ep c f T)/\Mv h d j ep)
   (λi h=>(∃c f,ÀQ h it d i j.Ú ep c f)/\Mv h d j ep) where
 Ž:=λb a=>by rw[am.mp a];show .Ď _
 Š:=λi h l st m=>by
  obtain⟨⟨c,f,t⟩,o,n,g⟩:=st;show{{c,f,m it (.Ď _) _ t},o,m d (.ě _ (.Ď _)) _ n,g}
 item:=λi s Q E t st p=>by
  obtain⟨⟨c,f,u⟩,g⟩:=st;show hA u g (P2 t) λl n z O m=>?_;show p _ l s.Ā {_,_,Î,P2 t,{_,z,Î,0,Î},A2 (g3 u),{_,_,n},?_} λb o a e=>m b o (λq=>a (by rw[q];show .Ď _)) e;show ag g λo q B=>{o,m d o x q,B}
 go:=λi v s Q E C p=>by
  obtain⟨T,en,Î,G,H,I,⟨c,f,n⟩,g⟩:=C;show wpAny_letOwnedTupleGo_items n λl J L=>?_;have č:∀b o,b≠it->s.Ì.Ò b=À o->l.Ò b=À o:=λb o a e=>(L.2 b a).Ð e;show p l {T,en,Î,G,?_} {{_,_,J},?_} λb o a e=>č b o (λq=>a (by rw[q];show .Ď _)) e
  ·show ag H λo q r=>?_;show{o,č T o I q,r}
  ·show ag g λo q r=>?_;show{o,č d o x q,r}
 done:=λs Q E st p=>by
  obtain⟨⟨c,f,u⟩,g⟩:=st;show iJ y u g (Zm (a3 _)) λl N=>p l s.Ā λb o a e=>N b o (λq=>a (by rw[q];show .Ď _)) e
end
end
section
noncomputable def pairs(k:Â (D×D)):Â D:=k.Ö λp=>.Ç [p.1,p.2]
def JA(i:Ï)(ρ:Aa):M (Â D):=DC i ρ>>= λk=>Ñ (pairs k)
section
variable{g:Gd}
def Am.of_map{α:Type}{l:Â α}{f:α->Í}{k:α->D}(r:∀x∈l,VR h X (f x) (k x)):Am h X (l.Ö f) (l.Ö k):=by
 induction l with
 |å=>show Am.å
 |Æ a l i=>show .Æ (r a (.Ď _)) (i λx b=>r x (.ě _ b))
open Classical in
def ny{x:Þ}{px G z J:Pos}{i k:Ï}{elts:Â ý}(d7:∃o,g.cx.ÿ.Ò Da=À o)(n:g.nm[i]? =À x)(hd:(x==("__debug__" :Þ))=Å)
  (d9:T7 (.ċ x px) "items" g.Ü (ŗ (.ċ x px) g.Ü)=ŗ (.ċ x px) g.Ü)(e7:(G.Àn==z.Ÿ)=Ä):
  Fg g (.Ů elts k J) (.Ás (.Ŋ (.ċ x px) "items" G) [] [] z) (À i) (JA i):=λρ j7 s Q E I H=>by
 exists g x px G z J i k elts ρ j7 s Q E,d7 n hd d9 e7 I H;show ag (Af.td H) λm0 L H=>?_;have O:=I.ÂB L Î;obtain⟨l,N,Î,rv⟩:=I.dO L;show qi (id N) λo B ep C hex e9 f6 j9 _=>ÀN (T:="dict") (id:="dict.items") d9 Î e7 YZ F.slot_dict_items F.type_dict_items (aK n hd I L Î {N.ÀY,λa q=>by cases q;show{o,C,hex.2.1},?_});change è _ _ (callWith z (.ė "dict.items") [.ò (g.ĉ i)] [] []) _ _ s;show N8 Î (ř.evalArgs_none ?_);change è _ _ (ň (.ė "dict.items") [.ò (g.ĉ i)]) _ _ s;show gq N.ÀY (I.dk O d7) ?_;show aj (I.aW {ķ:=.Ċ "dict_items",ë:=.ü #[.ò (g.ĉ i)]}) λV p=>?_;have t:=a0 {ķ:=.Ċ "dict_items",ë:=.ü #[.ò (g.ĉ i)]} C;have k6:(s.Ì.Ŧ {ķ:=.Ċ "dict_items",ë:=.ü #[.ò (g.ĉ i)]}).IsItemsView s.Ì.ã.Ú (g.ĉ i):={_,f1 _ Î,Î,Î};generalize s.Ì.Ŧ {ķ:=.Ċ "dict_items",ë:=.ü #[.ò (g.ĉ i)]}=c at*;show qJ (s:={s with Ì:=c}) k6 {o,t,e9} ?_;show aj (p.aW {ķ:=.Ċ "dict_itemiterator",ë:=.ü #[.Ã,.Ù Å,.ò (g.ĉ i),.Ê 0 0,.Ê B.Ú 0,.Ê ep 0,.Ã,.Ã]}) λf7 k7=>?_;dsimp only;have k8:g.ĉ i≠c.ã.Ú:=λq=>by rw[q,ì.aJ] at t;show nS t
 have W:=jN (ú:=g.cx.ú) (w:=g.cx.w) (A:=g.A) (elts:=elts) (k:=k) (ă:=J) I.Âf c.ã.Ú (g.ĉ i) k8 B ep;have hn:B.Ú=l.Á:=by rw[<-Ŕ.length_toList,f6,a2,a2]
 have Y:B.Ú=(pairs (l.Ö GC)).Á:=by rw[hn];unfold pairs;rw[a2,a2]
 rw[Y] at W;have h0:s.Ì.Ò c.ã.Ú=Ã:=V.ų p (ì.aJ c);have rk:Am s.Ì g.X (l.Ö λx=>Í.ò x.2.1) (l.Ö (·.1)):=Am.of_map λx n=>{[],(j9 _ (U5 n)).2,nl};show H.Ũ (tk:=s.Ā) (V.Ð f7) k7 {c.ã.Ú,[c.ã.Ú,g.ĉ i],[c.ã.Ú],(l.Ö λx=>Í.ò x.2.1)++l.Ö (·.2.2.1),l.Ö (·.1)++l.Ö (·.2.2.2),_,_,_,Î,{{_,W},λb u=>by(rw[am.mp u];show .Ď _),λZ U i a b e hf st=>W.Š i a b st λx n o C=>e.cH C (hf x n).1 (hf x n).2,?_,?_,?_,?_,?_,?_},{{Í.Ã,Í.Ã,?_},o,a0 _ t,e9},(rk.ÁE (Am.of_map rv)).on I (V.Ð f7),?_,?_}
 ·intro i h st b u;show bB st.1 λ_ _ y=>?_;rw[am.mp u];show{_,_,y,Î,bz Î nofun}
 ·rintro i v h ⟨_,_,_,_,_,_,⟨_,_,y⟩,_⟩ b u;rw[am.mp u];show{_,_,y,Î,bz Î nofun}
 ·intro b f;rw[am.mp f];show p.cM (ì.aJ c)
 ·intro b f;rw[am.mp f];show p.ų
 ·show λs Q E st h=>bB st.1 λ_ _ y=>lA y h
 ·rintro X j v h m ⟨T,en,Î,j3,hT⟩ r;rw[<-Y,hn] at m;show ag (Am.at (j:=j) (d:=l[j].1) r (by rw[P1 (by rw[a2];show m),j1,ch m];rfl)) λv1 j4 l8=>?_;show ag (Am.at (j:=l.Á+j) (d:=l[j].2.2.2) r (by rw[GE (by rw[a2];show bv _ _),a2,pt,j1,ch m];rfl)) λv2 j5 l9=>?_;rw[P1 (by rw[a2];show m),j1,ch m] at j4;rw[GE (by rw[a2];show bv _ _),a2,pt,j1,ch m] at j5;obtain rfl:=al j4;obtain rfl:=al j5;rw[entry_at f6 j,j1,ch m] at j3;obtain rfl:=al j3;show{.Ç [l[j].1,l[j].2.2.2],?_,VR.dI hT (.Æ l8 (.Æ l9 .å))};unfold pairs;rw[j1,j1,ch m];rfl
 ·rw[<-Y];show f1 _ Î
 ·intro b f;rw[am.mp f];show h0
 ·intro b f;rcases a5.mp f with rfl|f
  ·show{{_,f1 _ Î},.Ę p.ų}
  ·rw[am.mp f];show{{o,a0 _ t},.Ġ {i,Î,Î,O}}
end
end
section
structure LI(cx:Cx)(x:Þ)(a:á)(DT:Þ->Ë ä):Prop where
 mg:cx.mg x=À (.ò a)
 at_:∃f,cx.ÿ.MapOf (Àd cx.ú cx.w) a f/\∀y i,DT y=À i->∃t,f y=À (.Ê i t)
def Ia(DT:Þ->Ë ä):D->M D
 | .Ý y=>Df ((DT y).Ö λi=>.Ê i)
 |_=>M.Û
variable{g:Gd}
def qK(T:Cm g.cx Cj){a:á}(c:LI g.cx x a DT)
  (hk:g.Ü.ð x=À .ē)(q:(x==("__debug__"))=Å)(h:Ak g l f)
  (u:∀o i,ÀL l Å o i=ZP [o,i] (Ár o i)):
  Ak g (.ń (.ċ x px) l ă) (λρ=>f ρ>>=Ia DT):=λρ z s Q E I H=>by
 show Yn (ŀ I.ĕ hk (Ŭ (I.ns T).1 c.mg (h ρ z s _ E I (H.Ĕ λk p v A d9 _ e7 j B b=>?_))) q);cases k using ap with
 |Ý y=>
  show bG λn=>ao B.cK λt C=>?_;obtain rfl:=C;show n ?_;clear n;show ag (Af.opt b) λd G b=>bG λn=>ag (h9.mp G) λi J L=>?_;obtain rfl:=L;show n ?_;clear n;show bG λn=>ag c.at_ λN O U=>cG O λo V Y e r=>n ?_;show ao (U y i J) λt' d8=>?_;have m:A.MapOf (Àd g.cx.ú g.cx.w) a N:={o,V,Y,j.ĩ a o e,r};show Âr m.ÀY slot_dict_getitem.ö (wpAny_getItem_of (strKind_is _ _ y t) m d8 (b.now j (VR.Ê i t'))) (u _ _)
 |_=>show b.ç
end
section
variable{g:Gd}
def Nv(i:Ï)(ρ:Aa):M D:=HW i ρ>>= λk=>if k.Á<=100000 then Ñ (.Ê k.Á) else M.Û
def LJ(i:Ï)(ρ:Aa):M D:=HW i ρ>>= λk=>if k.Á<=100000 then Ñ (.É (k.Ö λp=>.Ý p.1)) else M.Û
def qL{vs:Â Í}{s:Â Þ}(e:vs.Á=s.Á)(a:∀(j:Ï) (v:Í),vs[j]? =À v->∃k,s[j]? =À k/\∃t,v= .Ý k t):Am h X vs (s.Ö λk=>.Ý k):=by
 induction vs generalizing s with
 |å=>
  obtain rfl:=l5 e.symm;show Am.å
 |Æ v vs i=>
  cases s using i2 with
  |å=>cases e
  |Æ k s=>
   obtain⟨d,b,t,Î⟩:=a 0 v Î;obtain rfl:=al b;show .Æ (VR.Ý _ _) (i (Ï.ś.inj e) λj u c=>a (j+1) u c)
def qM(T:Cm g.cx Cj){x y:Þ}{np p ă:Pos}{i:Ï}(a:∃o,g.cx.ÿ.Ò Da=À o)(b:g.nm[i]? =À y)(d:(y==("__debug__"))=Å)
  (hk:g.Ü.ð x=À .ē)(m:g.cx.mg x=Ã)(c:Fk x=À (.ė "len"))(f:x≠ "__name__")(j:(x==("__debug__"))=Å):
  Ak g (.Ás (.ċ x np) [.ċ y p] [] ă) (Nv i):=λn q s Q E I H=>by
 show ag (Af.sd H) λv e H=>aj (Af.ő H) λh H=>W6 (ak nofun) (aO T I hk m c f j (bD (.Ę {_,Î}) (aK b d I e Î ?_)));obtain⟨l,k,Î,_⟩:=I.nx e;rw[a2] at h H;show call_len_dict (I.dk (I.ÂB e Î) a) k (by rw[a2];show w3 (J4.ĝ h) _0) ?_;rw[a2];show H.now I (VR.Ê _ _)
def nz{Cj:Þ->Ë D}(T:Cm g.cx Cj){x y:Þ}{np d ă:Pos}{i:Ï}(f:∃o,g.cx.ÿ.Ò Da=À o)(h:g.nm[i]? =À y)(m:(y==("__debug__" :Þ))=Å)
  (hk:g.Ü.ð x=À .ē)(n:g.cx.mg x=Ã)(r:Fk x=À (.Ċ "list"))(t:x≠ "__name__")(u:(x==("__debug__" :Þ))=Å):
  Ak g (.Ás (.ċ x np) [.ċ y d] [] ă) (LJ i):=λO U s Q E I H=>by
 show ag (Af.sd H) λV a H=>aj (Af.ő H) λq H=>W6 (ak nofun) (aO T I hk n r t u (bD (.Ġ {_,Î}) (aK h m I a Î ?_)));obtain⟨l,w,Î,_⟩:=I.nx a;show ao w.dictAt λY z=>kdl_call (kdl_dict (I.dk (I.ÂB a Î) f)) I.Âf z (aH (by rw[a2] at q⊢;show q)) λh' tk A B hk C c=>aj (I.ÂE hk) λe G=>H.Ũ e G (VR.bI (vs:=A.Ħ) {_,C,Î,B,by simp} I.ų ?_);have J:((l.Ö Mp).Ö λp=>ā.Ý p.1)=(l.Ö (·.1)).Ö λk=>ā.Ý k:=by rw[lf,lf];rfl
 rw[J];show qL (by simp[c.1]) λj v L=>aD (c.2 j v (by rw[<-Zz];show L)) λk x' b N=>{k,?_,Í.isStrOf_shape N};rw[j1] at b⊢;show ag (h9.mp b) λy h e=>by rw[h];show â À (â ZA e)
end
section
def Nw(f:Aa->M D)(ρ:Aa):M (Aa×Ë D):=f ρ>>= λ_=>Ñ (ρ,Ã)
def i_(h:Ak g e f)(i:Yr g.Ü=Å)(a:K0 e Ã ă.Ÿ g.Ü=Ñ Å):
  CZ g (.ý e ă) (Nw f):=λb n s Q E I H=>by
 show wpAny_Expr_any (h b n s _ E I (An.Ĕ I H λd p v k t _ ev c r j=>(j.done (Bo.ť _) (Ev.ť _ _ _) c trivial))) i a
section
variable{prog:Ok}{w:World}{A:KB}{E:Value->Shared->Prop}{s:Shared}
abbrev ES:Â Í:=[.Ċ "Exception",.Ċ "BaseException",.Ċ "object"]
def iK{nm q:Þ}{C N:á}{bs:Â Í}{sn:Â Þ}{Ž:Â Í}{ab:é}{col:Ë é}{dd:Ë á}{k0 k1 k2 k3 k5:Ë Í}
  {e:á}{o:Obj}{vs:Ŕ Í}{i:á}{r:Â Í}{Q:Í->Ô->Prop}
  (j:s.Ì.Ò C=À (Ņ nm q C N bs ES Ä sn Ž ab col dd k0 k1 k2 k3 k5 "Exception.__new__"))(a:s.Ì.Ò e=À o)(l:o.ķ= .ò C)(b:o.ë= .ü vs)(c:vs[0]? =À (.ò i))
  (h:Q .Ã {s with Ì:=(s.Ì.Ŧ {ķ:=.Ċ "tuple",ë:=.Ĕ r.ó}).Às e (w1 (·.ģ 0 (.ò s.Ì.ã.Ú)))})(hrest:r.Á<=V5):
  è (ć ú w) A (ň (.ė "Exception.__init__") (.ò e::r)) Q E s:=by
 have F:ExcBaseFacts "Exception" "Exception.__new__" "Exception.__init__" ES:=YN;obtain⟨k,g,d,t,os⟩:=s;show Ym (ÁV F.init.plain F.initEntry (wpAny_check_init_sub F j a l ?_));unfold YB.«BaseException.__init__»;dsimp only;unfold newTuple Ő.BaseException.bexcPut;have z:0<vs.Ú:=(o3.mp c).1;have f:=a0 (h:=k) {ķ:=.Ċ "tuple",ë:=.Ĕ r.ó} a;show È (đ (È (È (Ş f b c (È (ÀS f b z ?_))))) (by change r.ó.Ú<=V5;rw[kt];show hrest));show wpAny_letGo (Õ h)
end
end
section
def Ib(Bp p2 p a b c d e f g q1 q h i r j k l:Pos)(k5:Ï):Â Ĵ:=
 [.ý (.Ás (.Ŋ (.ċ "Exception" Bp) "__init__" p2) [.ċ "self" p,.ÂY (.ÂY (.ċ "kind" a) .Add (.ğ (.Ý ": ") k5 b) c) .Add (.ċ "text" d) e] [] f) g,
  .Ř [.Ŋ (.ċ "self" q1) "kind" q] (.ċ "kind" h) i,
  .Ř [.Ŋ (.ċ "self" r) "text" j] (.ċ "text" k) l]
inductive TZ(fd:FuncData):Prop
 |mk (Bp p2 a b c d e f p g q1 q h i r j k l k5) (m:fd.Ć= .stmts (Ib Bp p2 a b c d e f p g q1 q h i r j k l k5)) (n:(p2.Àn==p.Ÿ)=Ä)
structure RA(h:ì)(fd:FuncData):Prop where
 Ć:TZ fd
 glob:fd.ÀG=jp
 blt:fd.Ày=J5
 Ū:fd.ô.Ū.Ö (·.arg)=(["self","kind","text"]:Â Þ)
 po:fd.ô.Àg=[]
 ko:fd.ô.ÀO=[]
 va:fd.ô.vararg=Ã
 Rz:fd.ô.kwarg=Ã
 df:fd.Ál= .Ã
 WI:fd.closure=[]
 ÁD:h.CodeRec fd.ÁD fd.qualname
 ĕ:fd.İ.ĕ= .Ĥ
 co:fd.İ.Àh=Å
 gen:fd.İ.Ài=Å
 Àq:(fd.İ.î.Ö (·.1)).Ŀ
 l1:fd.İ.î.ö ("self" :Þ)=À .local
 l2:fd.İ.î.ö ("kind" :Þ)=À .local
 l3:fd.İ.î.ö ("text" :Þ)=À .local
 lE:fd.İ.î.ö ("Exception" :Þ)=À .ē
inductive ClsAt(cx:Cx)(C N:á):Prop
 |mk (nm q:Þ) (bs:Â Í) (sn:Â Þ) (Ž:Â Í) (ab:é) (col:Ë é) (dd:Ë á) (k0 k1 k2 k3 k5:Ë Í) (h:cx.ÿ.Ò C=À (Ņ nm q C N bs ES Ä sn Ž ab col dd k0 k1 k2 k3 k5 "Exception.__new__"))
structure Fh(cx:Cx)(C N GG:á)(m:Þ->Ë Í):Prop where
 ķ:ClsAt cx C N
 ns:cx.ÿ.Ns N m
 init:m "__init__" =À (.ò GG)
 PL:m "__setattr__" =Ã
 T_:m "__getattribute__" =Ã
 Om:m "kind" =Ã
 RB:m "text" =Ã
 fn:∃o fd,cx.ÿ.Ò GG=À o/\o.ķ= .Ċ "function" /\o.ë= .func fd/\RA cx.ÿ fd
 WJ:cx.mg "Exception" =Ã
structure Made(ÿ h:ì)(C:á)(k:Þ)(h':ì)(e:á):Prop where
 č:∀b o,h.Ò b=À o->h'.Ò b=À o
 new:h.Ò e=Ã
 is:∃a t d,h'.Ò e=À a/\a.ķ= .ò C/\a.ë= .ü #[.ò t,.Ã,.Ã,.Ã,.Ù Å,.Ã]/\a.ĺ=À d/\h.Ò d=Ã/\d≠e/\∃m c,h'.Ns d m/\m "kind" =À (.Ý k c)
variable{cx:Cx}{A:KB}{E:Value->Shared->Prop}{s:Shared}
def hB:findCls [] (.Ċ "Exception") (.Ċ "type") (Os "__init__")=À (.ê (.ė "Exception.__init__")):=_2
def qN(F:Fr ÿ L s.Ì m)(h:Q (.ė "Exception.__init__",[]) {s with Ā:=s.Ā+1}):
  è cx.M A (getMethod (.Ċ "Exception") (Os "__init__") p) Q E s:=
 method_type F (λa o e=>by show nS e) (by first|rfl|kernel_rfl) (by decide+kernel) hB _2 h
def ja(hz:a.Á+b.Á<=200000)(h:∀c k,Q (.Ý (a++b) c) {s with Ā:=k}):è cx.M A (binaryOp .Add (.Ý a t) (.Ý b u)) Q E s:=
 P.add_str (ř.SB.post_add (by size_fits) h)
end
section
open Builtin Builtin.ObjectAttr
section
variable{prog:Ok}{w:World}{A:KB}{E:Value->Shared->Prop}{h:Heap}{g:Array GenState}{d:Drawn}{t:Nat}{os:OsState}
variable{nm q:Str}{C N x:Addr}{bs bm:List Value}{sn:List Str}{sub:List Value}{ab:Bool}{col:Option Bool}{dd:Option Addr}{k0 k1 k2 k3 k5:Option Value}{B newId sa owner:String}
 {mN:Str->Option Value}{name:Str}{v:Value}{o:Obj}
def iL{tk:Tok}{Q:Fin->Ô->Prop}(f:StoreFacts B bm sa owner)
  (i:h.Ò C=À (Ņ nm q C N bs bm Ä sn Ž ab col dd k0 k1 k2 k3 k5 ÁN))(n:h.Ns N mN)(k:mN Ě=Ã)
  (l:Àu (.Ċ B) Ě=Ñ Ã)(J:x≠C)(a:h.Ò x=À o)(m:o.ķ= .ò C)(p:∀c,o.ë≠ .ķ c)(r:o.ĺ=Ã)
  (s:∀h' L,h'.Ò x=À {ķ:=o.ķ,ĺ:=À h.ã.Ú,ë:=o.ë,Áh:=o.Áh}->h'.Ns1 h.ã.Ú (λy=>if y=Ě then À v else Ã)->
   (∀b o,b≠x->h.Ò b=À o->h'.Ò b=À o)->Q (.done (.Ũ .Ã)) {h',g,d,L,os}):
  è (ć ú w) A (YB.«object.__setattr__» {[.ò x,.Ý Ě tk,v],[]}) Q E {h,g,d,t,os}:=by
 exists ú w A E h g d t os nm q C N x bs bm sn Ž ab col dd k0 k1 k2 k3 k5 B ÁN sa owner mN Ě v o tk Q,f i n k l J a m p r s;have O:=f.passes (.ò x);unfold YB.«object.__setattr__»;repeat (first|rw[refuse_eq]|(rw[refuseLoop_ref,O])|(with_reducible show s9 a ?_;rw[m])|with_reducible show wpAny_mroOf_exc i ?_ |(with_reducible show KM i n f.mro l ?_;rw[k])|wp_step)
 rw[r,ß (by simp[typeHasDict])];split
 ·rename_i j;show nS j
 split
 ·rename_i c j;show absurd j (p c)
 ·have u:(h.Ŧ {ķ:=.Ċ "dict",ë:=.ĺ #[]}).Ò x=À o:=a0 _ a;have z:x≠h.ã.Ú:=I9 (g3 a);show È (wpAny_alloc' ?_);show È (wpAny_update' u ?_);show Õ ?_;have T:((h.Ŧ {ķ:=.Ċ "dict",ë:=.ĺ #[]}).Às x λo=>{ķ:=o.ķ,ĺ:=À h.ã.Ú,ë:=o.ë,Áh:=o.Áh}).Ò h.ã.Ú
    =À {ķ:=.Ċ "dict",ë:=.ĺ #[]}:=
   (ZV _ _ _ _ z.symm).Ð (ì.get?_push_at Î Î)
  have U:((h.Ŧ {ķ:=.Ċ "dict",ë:=.ĺ #[]}).Às x λo=>{ķ:=o.ķ,ĺ:=À h.ã.Ú,ë:=o.ë,Áh:=o.Áh}).Ns h.ã.Ú (λ_=>Ã):=
   {_,#[],_,T,Î,λe V=>absurd V (by simp),λ_=>rfl}
  change è _ _ (storeInDict h.ã.Ú (.Ý Ě tk) Ě v) _ _ _;unfold storeInDict newKeyGuard;show È (Õ (È (wpAny_nsSet1 (ì.Ns1.of_empty U) λh' G H=>?_)));show ba (G.count (Within.Æ Ě v Within.å)) λoD f6 f7 Y d7 d8=>È (wpAny_lookBehind Y (by rw[d7];show pastItsLine_dict (ac d8 (by rw[i3,T0,sizeLine_eq];simp+arith only[]))) ?_)
  wp_walk
  have d9:h'.Ò x=À {ķ:=o.ķ,ĺ:=À h.ã.Ú,ë:=o.ë,Áh:=o.Áh}:=?_;show s h' _ d9 G (λb ob e7 I=>?_)
  ·show(H.2 b (I9 (g3 I))).Ð ((ZV _ _ _ _ e7).Ð (a0 _ I))
  ·show(H.2 x z).Ð (xz _ u ?_);show(by intro o e8;obtain⟨FU,od,e9,j3⟩:=o;induction e9 using Data.ď<;>first|rfl|show e8:∀o:Obj,o.isFreed=Å->Obj.isFreed {ķ:=o.ķ,ĺ:=À h.ã.Ú,ë:=o.ë,Áh:=o.Áh}=Å) o (ì.get?_some_iff.mp a).2
def jO(e:StoreFacts B bm sa owner)
  (f:h.Ò C=À (Ņ nm q C N bs bm Ä sn Ž ab col dd k0 k1 k2 k3 k5 ÁN))(n:h.Ns N mN)(s:mN "__setattr__" =Ã)(l:mN Ě=Ã)
  (m:Àu (.Ċ B) Ě=Ñ Ã)(p:x≠C)(i:h.Ò x=À o)(j:o.ķ= .ò C)(r:∀c,o.ë≠ .ķ c)(u:o.ĺ=Ã)
  (z:∀h' k,h'.Ò x=À {ķ:=o.ķ,ĺ:=À h.ã.Ú,ë:=o.ë,Áh:=o.Áh}->h'.Ns1 h.ã.Ú (λy=>if y=Ě then À v else Ã)->
   (∀b o,b≠x->h.Ò b=À o->h'.Ò b=À o)->Q () {h',g,d,k,os}):
  è (ć ú w) A (setAttr (.ò x) Ě v) Q E {h,g,d,t,os}:=by
 have G:=e.slot.ù (.ò x);repeat (any_goals (first|assumption|(with_reducible show s9 i ?_;rw[j])|(with_reducible show KM f n e.mro e.slot.ö ?_;rw[s])|wp_step))
 show ÁV e.slot.plain e.entry (wpAny_check_sa e f i j (iL e f n l m p i j r u λh' k a b c=>?_));repeat (any_goals (first|assumption|wp_step))
 show z h' k a b c
end
end
section
variable{cx:Cx}{A:KB}{E:Value->Shared->Prop}{s:Shared}
def jP{M:Model}(d:T7 o Ě Ü (ŗ o Ü)=ŗ o Ü)
  (r:methodCallForm a.Á (Âg ă (Àk a Ü)) []=Ä)(l:(p.Àn==ă.Ÿ)=Ä)
  (h:è M A (ŗ o Ü) (λv b=>è M A (getMethod v Ě (do return (<-importBound o Ü).ø Ä)) (λf c=>è M A (callWith ă f.1 f.2 (Âg ă (Àk a Ü)) []) Q E c) E b) E s):
  è M A (ŗ (.Ás (.Ŋ o Ě p) a [] ă) Ü) Q E s:=by
 rw[arm_eval_Call,d];show È (ą h (λv b e=>È (ġ ?_)) λ_ _ x=>x);have m:methodCallForm (a.Á+([]:Â Keyword).Á) (Âg ă (Àk a Ü)) (backToKw ă (keywordEach [] Ü))=Ä:=r;have g:methodCallPos Ä o Ü p ă=Ñ ă:=by unfold methodCallPos;simp[l]
 unfold methodCall;rw[m];show È (Ģ (ą e (λf c i=>(È (ÁB g i))) λ_ _ x=>x))
def nA{Cj:Þ->Ë D}(T:Cm cx Cj){C N GG:á}{mN:Þ->Ë Í}(K:Fh cx C N GG mN){e:á}{l:Obj}{t0:á}{k x:Þ}{u G:Tok}{Q:Í->Ô->Prop}
  (u2:A.ű<990)(m5:cx.ÿ.ã.Ú<=s.Ì.ã.Ú)(H:cx.ÿ.ĭ s.Ì)(O:s.Ì.Ò e=À l)(w:cx.ÿ.Ò e=Ã)(U:l.ķ= .ò C)(m6:l.ĺ=Ã)(I:l.ë= .ü #[.ò t0,.Ã,.Ã,.Ã,.Ù Å,.Ã])
  (e8:k.Á+x.Á<=100000)
  (h:∀h' tk V d t,(∀b o,b≠e->s.Ì.Ò b=À o->h'.Ò b=À o)->h'.Ò e=À V->V.ķ= .ò C->V.ë= .ü #[.ò t,.Ã,.Ã,.Ã,.Ù Å,.Ã]->V.ĺ=À d->s.Ì.Ò d=Ã->d≠e->
   (∃m t',h'.Ns d m/\m "kind" =À (.Ý k t'))->Q .Ã {s with Ì:=h',Ā:=tk}):
  è cx.M A (ň (.ò GG) [.ò e,.Ý k u,.Ý x G]) Q E s:=by
 exists cx A E s Cj C N GG mN e l t0 k x u G Q,T K u2 m5 H O w U m6 I e8 h;show cb K.fn λoI fd hI _ hf f=>?_;obtain⟨Bp,p2,p3,p4,p5,p6,p7,p8,p9,u9,q1,q2,q3,q4,r1,r2,r3,r4,k5,w7,w8⟩:=f.Ć;have e9:(["self","kind","text"]:Â Þ).Á=([.ò e,.Ý k u,.Ý x G]:Â Í).Á:=rfl;show Ym (Àl (o:=oI) (fd:=fd) (Ć:=Ib Bp p2 p3 p4 p5 p6 p7 p8 p9 u9 q1 q2 q3 q4 r1 r2 r3 r4 k5) (binds:=(fd.ô.Ū.Ö (·.arg)).zip [.ò e,.Ý k u,.Ý x G]) ?_ (H _ _ hI) hf ?_ ?_ w7
  (cw f.po f.ko f.va f.Rz f.df (by rw[f.Ū];decide) (by rw[f.Ū];rfl)) f.WI ?_ (λB4 X=>?_) f.co f.gen f.ĕ)
 ·change A.ű<1000;show ac (by assumption) _0
 ·show T.Âp.ľ λb o e=>H b o e
 ·show f.ÁD.ľ λb o e=>H b o e
 ·intro y hy;rw[f.Ū] at hy;simp only[PP,Â.zip_nil_right,a5,Zd,or_false] at hy;rcases hy with rfl|rfl|rfl
  ·show .Ę f.l1
  ·show .Ę f.l2
  ·show .Ę f.l3
 ·have up:=X.ŭ.č;have B:=X.ŭ.ns;show bB X.ŭ.Âl λj B5 w9=>?_;clear X;subst w9;generalize v:ZY fd s.Ì.ã.Ú GG=n at*;have eL:n.æ=s.Ì.ã.Ú:=by rw[<-v];rfl
  have p:n.İ.ĕ= .Ĥ:=by rw[<-v];show f.ĕ
  have Y:n.ð "self" =À .local:=by rw[<-v];show f.l1
  have k2:n.ð "kind" =À .local:=by rw[<-v];show f.l2
  have k3:n.ð "text" =À .local:=by rw[<-v];show f.l3
  have kE:n.ð "Exception" =À .ē:=by rw[<-v];show f.lE
  have hg:n.ÀG=jp:=by rw[<-v];show f.glob
  have x9:n.Ày=J5:=by rw[<-v];show f.blt
  have j4:(["self","kind","text"]:Â Þ).Ŀ:=_0
  rw[f.Ū] at B;have b1:=bQ (ð:=n.ð) (m:=λ_=>Ã) (i:=0) (x:="self") j4 e9 Î Î Y;have b2:=bQ (ð:=n.ð) (m:=λ_=>Ã) (i:=1) (x:="kind") j4 e9 Î Î k2;have b3:=bQ (ð:=n.ð) (m:=λ_=>Ã) (i:=2) (x:="text") j4 e9 Î Î k3;generalize bindL n.ð ((["self","kind","text"]:Â Þ).zip [.ò e,.Ý k u,.Ý x G]) (λ_=>Ã)=mL at*;have J:cx.ÿ.ĭ j:=λb o q=>up b o (H b o q);obtain⟨nm,q,bs,sn,Ž,ab,C0,dd,c0,c1,c2,c3,c5,L⟩:=K.ķ;have gl:∀(h':ì),cx.ÿ.ĭ h'->h'.Ns n.ÀG cx.mg/\h'.Ns n.Ày cx.mb:=λh' S=>by
   rw[hg,x9];show{T.g.ľ λb o e=>S b o e,T.b.ľ λb o e=>S b o e}
  have o8:C≠e:=by rintro rfl;rw[w] at L;show nS L
  have y0:Fr cx.ÿ n.æ j mL:={B,J,by rw[eL];show m5};have C7:Frag.In ([]:Frag) cx.ÿ:=λa o e=>by show nS e
  show Fa (wpAny_Expr_any (jP Î Î w8 ?_) (by unfold Yr;rw[p];rfl) rfl)
  ·show ŀ p kE (loadGlobal_builtin (gl j J).1 K.WJ (gl j J).2 ((T.bi "Exception" _0).Ð Î) ?_) _0;show qN y0 ?_;show N8 Î (L3 ?_);change è cx.M _ (Âq [(Å,ŗ (.ċ "self" p3) n),(Å,ŗ (.ÂY (.ÂY (.ċ "kind" p4) .Add (.ğ (.Ý ": ") k5 p5) p6) .Add (.ċ "text" p7) p8) n)]) _ _ _;show A3 (ÀD (ħ p Y B b1 ?_) _0);show A3 (Àz (Àz (ÀD (ħ p k2 B b2 (ÁL ?_)) _0)));show ja (s:={s with Ì:=j,Ā:=_}) (by change k.Á+2<=200000;show ln1 e8) λta ka=>ÀD (ħ p k3 B b3 ?_) _0;show ja (s:={s with Ì:=j,Ā:=ka}) (by change(k++(": " :Þ)).Á+x.Á<=200000;rw[Þ.length_append];change k.Á+2+x.Á<=200000;show ln1 e8) λtb kb=>T9 ?_;have j7:j.Ò e=À l:=up _ _ O;have o9:n.æ≠e:=by rw[eL];show A2 (g3 O)
   show iK (s:={s with Ì:=j,Ā:=kb}) (J _ _ L) j7 U I Î ?_ (aH (by change 1<=100000;decide));dsimp only;generalize q8:(j.Ŧ {ķ:=.Ċ "tuple",ë:=.Ĕ [Í.Ý (k++(": " :Þ)++x) tb].ó}).Às e (w1 (·.ģ 0 (.ò j.ã.Ú)))=r;have j8:∀b o,b≠e->j.Ò b=À o->r.Ò b=À o:=λb o w q=>by
    rw[<-q8,w0 _ _ (S4 w)];show a0 _ q
   have j9:r.Ò e=À (w1 (·.ģ 0 (.ò j.ã.Ú)) l):=by
    rw[<-q8];show xz _ (a0 _ j7) (O3 (J6 I _))
   have d7:(w1 (·.ģ 0 (.ò j.ã.Ú)) l).ë= .ü #[.ò j.ã.Ú,.Ã,.Ã,.Ã,.Ù Å,.Ã]:=J6 I _;have d8:(w1 (·.ģ 0 (.ò j.ã.Ú)) l).ķ= .ò C:=(Obj.cls_mapFields _ _).Ð U;have z5:(w1 (·.ģ 0 (.ò j.ã.Ú)) l).ĺ=Ã:=by
    clear O U I j7 j9 d7 d8;obtain⟨c,dt,da,sl⟩:=l;induction da using Data.ď<;>show m6
   have k6:cx.ÿ.ĭ r:=λb o q=>j8 b o (by rintro rfl;rw[w] at q;show nS q) (J b o q);have d9:r.Ns n.æ mL:=bK B λo q=>{o,j8 _ o o9 q,Î};show Fa (Áv (ÀD (ħ p k2 d9 b2 (ÀD (ħ p Y d9 b1 ?_) _0)) _0) rfl);have hN:∀h',cx.ÿ.ĭ h'->h'.Ns N mN:=λh' S=>K.ns.ľ λb o q=>S b o q;obtain⟨sh,JB,sd,D2,D3⟩:=s;show jO Y3 (k6 _ _ L) (hN _ k6) K.PL K.Om (by rw[Zn,W7];kernel_rfl) o8.symm j9 d8 (λc q=>by rw[d7] at q;show dC q) z5 λk7 D4 k8 z8 k9=>?_;have s0:cx.ÿ.ĭ k7:=λb o q=>k9 b o (by rintro rfl;rw[w] at q;show nS q) (k6 b o q);have s8:k7.Ns n.æ mL:=bK d9 λo q=>{o,k9 _ o o9 q,Î};show Fa (Áv (ÀD (ħ p k3 s8 b3 (ÀD (ħ p Y s8 b1 ?_) _0)) _0) rfl);have t4:r.ã.Ú≠e:=A2 (g3 j9);have z9:k7.Inst e C (λy=>if y=("kind" :Þ) then À (.Ý k u) else Ã):=
    {_,k8,d8,λc q=>by(have q:_=_:=q;rw[d7] at q;show dC q),.Ġ {_,Î,t4,z8}}
   show store_attr Y3 (s0 _ _ L) (hN _ s0) K.PL K.RB (by rw[Zn,W7];kernel_rfl) o8.symm z9 (λA0 D5 t7 A5 A6=>?_) (Within.Æ _ _ Within.å) (by rw[sizeLine_eq];decide);show V4 ?_;show e15 (A6 _ k8) λA7 t8 c4 d4 _ B1=>jA t7 ?_;clear t7;intro D6 l6 _ _ B2;rw[t8] at l6;(have z:=al l6;clear l6;subst z);have l7:=B1 _ Î;rcases B2 with⟨q,_⟩|⟨d',q,_,B3⟩
   ·rw[l7] at q;show we q
   ·rw[l7] at q;(have z:=al q;clear q;subst z);have t9:sh.ã.Ú<=r.ã.Ú:=by
     have:n.æ<r.ã.Ú:=d9.lt;rw[eL] at this;show i5 this
    show h A0 _ A7 r.ã.Ú j.ã.Ú (λb o l8 q=>?_) t8 (c4.Ð d8) (d4.Ð d7) l7 (Yg t9) t4 {_,u,B3.ns,?_}
    ·show A5 b o l8 (λD8 dx l9 qd=>?_) (k9 b o l8 (j8 b o l8 (up b o q)));rw[k8] at l9;(have z:=al l9;clear l9;subst z)
     (have z:=al qd;clear qd;subst z)
     show I9 (ce (g3 q) t9)
    ·rw[ß _0,à Î]
end
section
def EC(h:ì)(C:á)(r:Â Í):ì:=(h.Ŧ {ķ:=.Ċ "tuple",ë:=.Ĕ r.ó}).Ŧ {ķ:=.ò C,ë:=.ü #[.ò h.ã.Ú,.Ã,.Ã,.Ã,.Ù Å,.Ã]}
section
variable{prog:Ok}{w:World}{A:KB}{E:Value->Shared->Prop}{h:Heap}{g:Array GenState}{d:Drawn}{t:Nat}{os:OsState}
variable{nm q:Str}{C N:Addr}{bs bm:List Value}{hdct:Bool}{sn:List Str}{sub:List Value}{ab:Bool}{col:Option Bool}{dd:Option Addr}{k0 k1 k2 k3 k5:Option Value}{B newId initId:String}
def fE(F:ExcBaseFacts B ÁN initId bm){m:Þ->Ë Í}{s:Â Í}{GG:á}{I:Obj}{Q:Fin->Ô->Prop}
  (a:h.Ò C=À (Ņ nm q C N bs bm hdct sn Ž ab col dd k0 k1 k2 k3 k5 ÁN))(n:h.Ns N m)(i:m "__init__" =À (.ò GG))
  (f:h.Ò GG=À I)(c:I.ķ= .Ċ "function")
  (b:è (ć ú w) A (ň (.ò GG) (.ò (h.ã.Ú+1)::s)) (λr j=>r= .Ã/\Q (.done (.Ũ (.ò (h.ã.Ú+1)))) j) E {EC h C s,g,d,t,os})(hrest:s.Á<=V5:=by size_fits):
  è (ć ú w) A (YB.«type.__call__» {.ò C::s,[]}) Q E {h,g,d,t,os}:=by
 exists ú w A E h g d t os nm q C N bs bm hdct sn Ž ab col dd k0 k1 k2 k3 k5 B ÁN initId m s GG I Q,F a n i f c b hrest;repeat (first|with_reducible show s9 a ?_ |with_reducible show wpAny_madeBy_exc a ?_ |wp_step)
 show codeAny_call_builtin_code (Code.quiet_builtin _ F.quiet) (wpAny_check_new_sub F a ?_);show codeAny_exc_new_sub F a ?_ hrest;have k:=a0 {ķ:=.ò C,ë:=.ü #[.ò h.ã.Ú,.Ã,.Ã,.Ã,.Ù Å,.Ã]}
  (a0 {ķ:=.Ċ "tuple",ë:=.Ĕ s.ó} a)
 have l:=a0 {ķ:=.ò C,ë:=.ü #[.ò h.ã.Ú,.Ã,.Ã,.Ã,.Ù Å,.Ã]}
  (a0 {ķ:=.Ċ "tuple",ë:=.Ĕ s.ó} f)
 have p:((h.Ŧ {ķ:=.Ċ "tuple",ë:=.Ĕ s.ó}).Ŧ {ķ:=.ò C,ë:=.ü #[.ò h.ã.Ú,.Ã,.Ã,.Ã,.Ù Å,.Ã]}).Ns N m:=
  let⟨o,u,v,e,r⟩:=n;{o,u,v,a0 _ (a0 _ e),r}
 have y:(Í.ò C::bm).Àm (.ò C)=Ä:=by simp
 unfold isInstance;repeat (first|with_reducible show s9 H ?_ |(with_reducible show Yq k ?_;rw[y])|wp_step)
 change è _ _ (Àu (.ò C) _) _ _ _;show KM k p F.mroIs F.init.ö ?_;rw[i];show Ģ (È ?_);unfold bindSpecial;show È (wpAny_typeOf (T:="function") {_,l,c} ?_);rw[à _0];show Õ (È (ą b (λr j z=>?_) λ_ _ x=>x))
 ·obtain⟨Î,G⟩:=z
  wp_walk
  show G
def lB(F:ExcBaseFacts B ÁN initId bm){e:Â Í}{GG:á}{o:Obj}{Q:Í->Ô->Prop}
  (a:h.Ò C=À (Ņ nm q C N bs bm hdct sn Ž ab col dd k0 k1 k2 k3 k5 ÁN))(n:h.Ns N m)(i:m "__init__" =À (.ò GG))
  (f:h.Ò GG=À o)(c:o.ķ= .Ċ "function")
  (b:è (ć ú w) (A.under (.ė "type.__call__" {.ò C::e,[]})) (ň (.ò GG) (.ò (h.ã.Ú+1)::e)) (λr s=>r= .Ã/\Q (.ò (h.ã.Ú+1)) s) E {EC h C e,g,d,t,os})(hrest:e.Á<=V5:=by size_fits):
  è (ć ú w) A (ň (.ò C) e) Q E {h,g,d,t,os}:=by
 have j:=tc_lookup;have k:=tc_bind (.ò C);have T:({h,g,d,t,os}:Ô).Âe (.ò C) "type":={_,a,Î};show Ym (codeAny_of_tree ?_);repeat (any_goals (first|assumption|with_reducible show s9 a ?_ |wp_step))
 show{Î,(codeAny_call_builtin_at (Code.quiet_builtin _ (by decide+kernel)) entry_typeCall (wpAny_check_type_call_sub a (fE (hrest:=hrest) F a n i f c b)))}
end
end
section
section
variable{M:Model}{A:KB}{E:Value->Shared->Prop}{env:Env}
variable{nm q:Str}{C N:Addr}{bs:List Value}{hdct:Bool}{sn:List Str}{sub:List Value}{ab:Bool}{col:Option Bool}{dd:Option Addr}{k0 k1 k2 k3 k5:Option Value}{newId:String}
def hD(f:A.Àe=Ã)
  (h:è M A x (λv a=>∃e t b sl,v= .ò e/\a.Ì.Ò C=À (Ņ nm q C N bs ES hdct sn Ž ab col dd k0 k1 k2 k3 k5 ÁN)/\
   a.Ì.Ò e=À {ķ:=.ò C,ĺ:=b,ë:=.ü #[.ò t,.Ã,.Ã,.Ã,.Ù Å,.Ã],Áh:=sl}/\E (.ò e) a) E s):
  è M A (raiseStmt Ü (À x) Ã) Q E s:=by
 have B:(Í.ò C::ES).Àm (.Ċ "BaseException")=Ä:=by simp[YK]
 show È (ą h (λv a i=>?_) λ_ _ x=>x);show bG λn=>e42 i λe t b sl z w=>?_;obtain rfl:=z;show b_ w λc j k=>n ?_;obtain⟨p,g,d,l,os⟩:=a;repeat (first|with_reducible show s9 j ?_ |with_reducible show s9 c ?_ |(with_reducible show Yq c ?_;rw[B])|wp_step)
 show wpAny_raiseNew_none f k
end
variable{g:Gd}
def Jg(f a:Aa->M D)(ρ:Aa):M (Aa×Ë D):=f ρ>>= λk=>a ρ>>= λt=>match k,t with
 | .Ý k,.Ý x=>if k.Á+x.Á<=100000 then M.Áp k else M.Û
 |_,_=>M.Û
def nB{Cj:Þ->Ë D}(T:Cm g.cx Cj){C N GG:á}{mN:Þ->Ë Í}(K:Fh g.cx C N GG mN)(hC:g.cx.exc= .ò C){x:Þ}{np cp ă:Pos}{u w:ý}{L O:Aa->M D}
  (hk:g.Ü.ð x=À .ē)(hd:(x==("__debug__" :Þ))=Å)(z:g.cx.mg x=À (.ò C))
  (f8:Ak g u L)(f9:∀y q,u≠ .ņ y q)(h:Ak g w O)(j3:∀y q,w≠ .ņ y q):
  CZ g (.Raise (À (.Ás (.ċ x np) [u,w] [] cp)) Ã ă) (Jg L O):=λl j4 s Q E I H=>by
 exists g Cj C N GG mN x np cp ă u w L O l j4 s Q E,T K hC hk hd z f8 f9 h j3 I H;obtain⟨nm,q,bs,sn,Ž,ab,col,dd,c0,c1,c2,c3,c5,m0⟩:=K.ķ;show È (ġ ?_);show hD (C:=C) (nm:=nm) (q:=q) (N:=N) (bs:=bs) (hdct:=Ä) (sn:=sn) (Ž:=Ž) (ab:=ab) (col:=col) (dd:=dd) (k0:=c0) (k1:=c1) (k2:=c2) (k3:=c3) (k5:=c5) (ÁN:="Exception.__new__") I.Âf
  (È (ą (Q:=λv U=>∃e t dt sl,v=Í.ò e/\U.Ì.Ò C=À (Ņ nm q C N bs ES Ä sn Ž ab col dd c0 c1 c2 c3 c5 "Exception.__new__")/\
   U.Ì.Ò e=À {ķ:=.ò C,ĺ:=dt,ë:=.ü #[.ò t,.Ã,.Ã,.Ã,.Ù Å,.Ã],Áh:=sl}/\E (.ò e) U) (wpAny_Call_ofName ?_) (λv w5 B=>È (ġ (Õ B))) λ_ _ x=>x))
 show ŀ I.ĕ hk (Ŭ (I.ns T).1 z ?_) hd;rw[ak f9,ak j3];show È (Ģ (ą (Q:=λa k6=>a.kw=[]/\∃k x i j k7 G h,a.ă=[.Ý k i,.Ý x j]/\k.Á+x.Á<=100000/\k6={s with Ì:=h,Ā:=G}/\Ev g.Z g.Y s.Ì h/\Č g l k7 h/\
   An g {s with Ì:=h,Ā:=G} (Out.exc k k7) Q E) (L3 ?_) (λa k6 h=>È (ġ ?_)) λ_ _ x=>x))
 ·unfold Jg at H;show A3 (f8 l j4 s _ E I (An.Ĕ I H λk p v h' tk _ ev I' r H'=>?_));show A3 (h l p _ _ E I' (An.Ĕ I' H' λx p' v' m8 m9 _ o0 o4 r' n=>T9 ?_));clear H';cases k using ap with
  |Ý k=>
   cases x using ap with
   |Ý x=>
    obtain⟨i,Î⟩:=r.cK;obtain⟨j,Î⟩:=r'.cK;show aj (An.ő (c:=k.Á+x.Á<=100000) (m:=M.Áp k) n) λV n=>{Î,k,x,i,j,p',m9,m8,Î,V,Î,ev.Ð o0,o4,n}
   |_=>show n.ç
  |_=>show n.ç
 ·obtain⟨o6,o7⟩:=a;show aj h λo8 hq=>?_;clear h;show e76 hq λk x i j w9 G h o9 V es ev f q9=>?_;clear hq;subst es;obtain rfl:o7=[]:=o8;obtain rfl:o6=[.Ý k i,.Ý x j]:=o9;have J:=f.ĩ;show cb K.fn λoI fd hI s8 hf Fd=>?_;have d7:=J _ _ m0;clear I H ev;obtain⟨sh,JB,sd,z3,t7⟩:=s;show È (wpAny_keeperOf_exc d7 ?_);show È (lB YN d7 (K.ns.ľ λb o q=>J b o q) K.init (J _ _ hI) s8 ?_ (aH (by change 2<=100000;decide)));have bh:g.cx.ÿ.ã.Ú<=h.ã.Ú:=by
   show ag f.Ż λm d8 _=>ac f.HV (i5 d8.lt)
  have up:∀b o,h.Ò b=À o->(EC h C [.Ý k i,.Ý x j]).Ò b=À o:=λb o q=>a0 _ (a0 _ q);have he:(EC h C [.Ý k i,.Ý x j]).Ò (h.ã.Ú+1)=À {ķ:=.ò C,ë:=.ü #[.ò h.ã.Ú,.Ã,.Ã,.Ã,.Ù Å,.Ã]}:=by unfold EC;heap_get
  have e7:h.Ò (h.ã.Ú+1)=Ã:=Yg (v3 _);have u1:=f.ű;show nA (s:={EC h C [.Ý k i,.Ý x j],JB,sd,G,t7}) T K (by change g.A.ű+1<990;show ln1 u1) (ac bh (by unfold EC;simp only[U1];simp+arith only[])) (λb o q=>up b o (J b o q)) he (f.cM e7) rfl Î Î V
   λB u2 oe d t u4 l7 u5 u7 u8 l8 z4 z=>{Î,È (Ģ (wpAny_point (Õ ?_)))}
  obtain⟨FU,u9,v0,v4⟩:=oe;obtain rfl:FU= .ò C:=u5;obtain rfl:v0=_:=u7;obtain rfl:u9=_:=u8;have kk:∀b o,h.Ò b=À o->B.Ò b=À o:=λb o q=>u4 b o (by rintro rfl;rw[e7] at q;show nS q) (up b o q);show aj (f.ÂE kk) λv8 v9=>{_,t,À d,v4,Î,kk _ _ d7,l7,?_};have nx:∀{b:á},h.Ò b=Ã->¬g.X b:=λhb x=>by show ao (f.xs _ x) λo e=>?_;rw[hb] at e;show nS e
  have w4:h.Ò d=Ã:=by
   cases q:h.Ò d with
   |Ã=>rfl
   |À o=>rw[up d o q] at l8;show we l8
  show q9 (h.ã.Ú+1) g.X g.ĉ l B u2 (Bo.ť _) (v8.yw f) v9 {?_,nx e7,_,_,d,l7,hC.symm,Î,Î,nx w4,z,.Ę Î};show ag f.Ż λm d8 _=>ac f.low (i5 (AC d8.lt))
end
section
variable{g:Gd}{ρ:Aa}{V:AK}{s:Shared}{E:Value->Shared->Prop}
def LK(i k:Ï)(ρ:Aa):M D:=Fu i ρ>>= λ_=>⟨λp=>match p with
 |À l=>match l[k]? with
  |À d=>if l.Á<=100000 then .ok d p else .Û
  |Ã=>.Û
 |Ã=>.Û⟩
def Hr(k:Ï)(d:D):M ÂF:=⟨λp=>match p with
 |À l=>if k<l.Á/\l.Á<=100000 then .ok () (À (l.set k d)) else .Û
 |Ã=>.Û⟩
def Mw(i k:Ï)(f:Aa->M D)(ρ:Aa):M (Aa×Ë D):=f ρ>>= λd=>Fu i ρ>>= λ_=>Hr k d>>= λ_=>Ñ (ρ,Ã)
def jb{x:Þ}(a:g.nm[i]? =À x)(d:(x==("__debug__"))=Å)(I:Č g ρ V s.Ì)(b:ρ.ĵ i=À .Az)(h:∀P,g.cx.P=À P->Q (.ò P) s):
  è g.cx.M g.A (ŗ (.ċ x ă) g.Ü) Q E s:=by
 show ag I.Ż λm n c=>?_;obtain⟨y,v,e,f,P,j,Î⟩:=c i _ b;rw[a] at e;(have z:=al e;clear e;subst z);show dg I.ĕ n f d (h P j)
def Č.jQ(I:Č g ρ (À l) h)(b:g.cx.P=À P):g.X P/\¬g.Z P/\P≠g.Ü.æ/\∃vs,h.Ĳ P vs.ó/\Am h g.X vs l:=
 aD (I.Az.at_ b) λ_ vs e a=>by obtain rfl:=al e;show{a.2.2.1,a.2.2.2.1,a.2.2.2.2,vs,a.1,a.2.1}
def lD{x:Þ}{px KS ă:Pos}{i k kk:Ï}(a:g.nm[i]? =À x)(b:(x==("__debug__"))=Å)(c:∀o i,ÀL (.ğ (.Ê k) kk KS) Å o i=ZP [o,i] (Ár o i)):
  Ak g (.ń (.ċ x px) (.ğ (.Ê k) kk KS) ă) (LK i k):=λρ Az s Q E I H=>by
 exists g x px KS ă i k kk ρ Az s Q E,a b c I H;unfold LK Fu at H;cases e:ρ.ĵ i with
 |Ã=>rw[e] at H;show H.ç
 |À f=>
  cases f using Ą.ď with
  |Az=>
   rw[e] at H;cases Az using i7 with
   |Ã=>show H.ç
   |À l=>
    exists l,I H;cases h:l[k]? with
    |Ã=>
     have H:Af g ρ (VX g) s (match l[k]? with|À d=>if l.Á<=100000 then Out.ok d (À l) else .Û|Ã=>.Û) Q E:=H;rw[h] at H;show H.ç
    |À d=>
     have H:Af g ρ (VX g) s (match l[k]? with|À d=>if l.Á<=100000 then Out.ok d (À l) else .Û|Ã=>.Û) Q E:=H;rw[h] at H;dsimp only at H;by_cases n:l.Á<=100000
     ·rw[à n] at H;show Yn (jb a b I e λP j=>ÀH ?_);show dc (I.jQ j) λ_ _ _ w=>ag w λu p m=>ag (m.at h) λv q r=>?_;have t:=(s5.mp h).1;show Âr p.ÀY slot_list_getitem.ö ?_ (c _ _);show wpAny_getItem_list p (s1 _) (w3 (J4.ĝ (ac (i5 t) n)) _0) (by simpa using q) (H.now I r)
     ·rw[ß n] at H;show H.ç
  |_=>rw[e] at H;show H.ç
def Č.qO{l l':Â D}{vs':Â Í}(I:Č g ρ (À l) h)(a:g.cx.P=À P)(c:ut P h h')(e:h'.Ĳ P vs'.ó)(r:Am h g.X vs' l'):
  Ev g.Z g.Y h h'/\Č g ρ (À l') h':=by
 show dc (I.jQ a) λp f L w=>ag w λC k G=>au k λo i u v=>ao v λn H=>?_;have E:Ev g.Z g.V h h':=Ev.Âl c (.Ę a) λJ d t=>by
  rw[i] at d;(have z:=al d;clear d;subst z);show absurd (u.symm.Ð t.1) _0
 have x:=I.KO P p;show{E.y,I.ÁX E (λb A q=>?_) (λm B=>B.Áe c (S4 L)) ?_}
 ·by_cases j:b=P
  ·clear a c e p f L i;subst j;rw[x] at q;show nS q
  ·show(c.2 b j).Ð (I.ĩ b A q)
 ·show .yes vs' a p f L e (r.on I E.y)
def f_{x:Þ}{px KS p ă:Pos}{i k kk:Ï}{e:ý}{f:Aa->M D}(o:g.nm[i]? =À x)(q:(x==("__debug__" :Þ))=Å)(h:Ak g e f)
  (r:K0 e (À (.ń (.ċ x px) (.ğ (.Ê k) kk KS) p)) ă.Ÿ g.Ü=Ñ Å):
  CZ g (.Ř [.ń (.ċ x px) (.ğ (.Ê k) kk KS) p] e ă) (Mw i k f):=λρ Az s Q E I H=>by
 exists g x px KS p ă i k kk e f ρ Az s Q E,o q h r I H;show S3 (h ρ Az s _ E I (An.Ĕ I H λd u v c t A B b w a=>?_)) r;exists d u v c t,A B b w a;unfold Fu at a;cases j:ρ.ĵ i with
 |Ã=>rw[j] at a;show a.ç
 |À C=>
  cases C using Ą.ď with
  |Az=>
   rw[j] at a;cases u using i7 with
   |Ã=>show a.ç
   |À l=>
    by_cases n:k<l.Á/\l.Á<=100000
    ·have m:(Hr k d).Ĉ (À l)= .ok () (À (l.set k d)):=à n;have a:An g {s with Ì:=c,Ā:=t} ((Hr k d>>= λ_=>(Ñ (ρ,Ã):M (Aa×Ë D))).Ĉ (À l)) Q E:=a;rw[ar,m] at a;show jb o q b j λP y=>ÀH ?_;show dc (b.jQ y) λ_ _ _ G=>ag G λJ L z=>?_;have N:=z.Á;show wpAny_setItem_list (s:={s with Ì:=c,Ā:=t+1}) L (s1 _) (w3 (J4.ĝ (ac (i5 n.1) n.2)) _0) (by simp only[kt];show X3.ĝ (by rw[N];show n.1)) λd7 O T=>?_;show aj (b.qO (l':=l.set k d) (vs':=J.set k v) y T (by simpa using O) (Am.set w _ z)) λU Y=>a.done (f:=.next) (X':=g.X) (ÁG:=g.ĉ) (tk:=t+1) (Bo.ť _) (U.yw b) Y trivial
    ·have m:(Hr k d).Ĉ (À l)= .Û:=ß n;have a:An g {s with Ì:=c,Ā:=t} ((Hr k d>>= λ_=>(Ñ (ρ,Ã):M (Aa×Ë D))).Ĉ (À l)) Q E:=a;rw[ar,m] at a;show a.ç
  |_=>rw[j] at a;show a.ç
end
section
section
variable{prog:Ok}{w:World}{A:KB}{E:Value->Shared->Prop}{R:Z2->Shared->Prop}{s:Shared}
def hE(e t Ļ a i:ý)(p:Ŗ)(ă:Pos)(it ę:Í)(Ü:Env):
  compTurn (.Į e [{a,i,[],0},{t,Ļ,[],0}] p ă) 1 it ę Ü=(do
   Âo Ļ.ă
   match<-Áw it with
   |Ã=>Ñ (.done .next)
   |À v=>
    ū t it v
    Àf t Ü v
    let mut o:=Ä
    for c in([]) do
     if o then o<-ÂK c Ü (ŗ c Ü)
    if o then
     (do let _<-ň (.ė "list.append") [ę,<-ŗ e Ü])
    again (.Ŷ (.Į e [{a,i,[],0},{t,Ļ,[],0}] p ă) 1 it ę Ü)):=by rfl
def nC(ú:Ok)(w:World)(e t Ļ b i:ý)(c:Ŗ)(ă:Pos):PC (ć ú w) (.Į e [{b,i,[],0},{t,Ļ,[],0}] c ă) 1 t [] e:=by
 exists ú w e t Ļ b i c ă,no;intro A R s j k l I turn n h;exists A R s j k l I n,turn h;show Zo Î I (λn s d=>?_) n h;exists n s,d;show ZN ?_;rw[hE];show È (ġ (È (ą (turn n s d) (λr y f=>?_) λ_ _ a=>a)));cases r using i7 with
 |Ã=>show Õ f
 |À v=>
  show È (ą f (λ_ z m=>(È (ą m (λ_ B o=>È (ą o (λp C g=>?_) λ_ _ a=>a)) λ_ _ a=>a))) λ_ _ a=>a);cases p using ci with
  |Å=>show Õ {Î,g}
  |Ä=>
   show È (È (ą g (λx G q=>È (ą q (λ_ H u=>Õ (Õ {Î,u})) λ_ _ a=>a)) λ_ _ a=>a))
def gr
  (c:ſ (ć ú w) A (.Ŷ (.Į e [{t,d,[],0},{r,Ļ,[],0}] o ă) 1 it ę Ü) R s)
  (h:è (ć ú w) A (Âh it) (λi a=>ſ (ć ú w) A (.Ŷ (.Į e [{t,d,[],0},{r,Ļ,[],0}] o ă) 1 i ę Ü) R a)
   (ĸ (ć ú w) A Ü λx a=>R (.ŵ x) a) s):
  ſ (ć ú w) A (.compStart (.Į e [{t,d,[],0},{r,Ļ,[],0}] o ă) 1 it ę Ü) R s:=by
 show codeAny_of_tree (wpAny_notedAt (È (wpAny_askSetting (wpAny_ite ?_))));split
 ·first
   |show È (Õ (Õ (And.intro Î c)))
   |show Õ (And.intro Î c)
 ·first
   |show È (ÁQ (È (ġ (È (ą h (λi a b=>Õ (And.intro Î b)) λ_ _ x=>x)))))
   |(show È (ÁQ ?_);change è _ _ (Âo Ļ.ă>>=_) _ _ s;show È (ġ (È (ą h (λi a b=>Õ (And.intro Î b)) λ_ _ x=>x))))
def tc{l t c d i:ý}{o:Ŗ}{ă:Pos}{it ę:Í}{Ü:Env}(j:∀x,ı i Ü x=Ñ x)(I:Ï->Ô->Prop)
  (turn:∀n s,I n s->è (ć ú w) A (Áw it) (λr f=>match r with
   |Ã=>R (.ok .next) f
   |À v=>è (ć ú w) A (ū t it v) (λ_ k=>è (ć ú w) A (Àf t Ü v) (λ_ p=>
     è (ć ú w) A (ŗ i Ü) (λx q=>è (ć ú w) A (Âh x) (λu y=>
      ſ (ć ú w) A (.compStart (.Į l [{t,c,[],0},{d,i,[],0}] o ă) 1 u ę Ü) (λr z=>r= .ok .next/\∃m,m<n/\I m z) y)
      (ĸ (ć ú w) A Ü λe a=>R (.ŵ e) a) q) (ĸ (ć ú w) A Ü λe a=>R (.ŵ e) a) p) (ĸ (ć ú w) A Ü λe a=>R (.ŵ e) a) k)
     (ĸ (ć ú w) A Ü λe a=>R (.ŵ e) a) f) (ĸ (ć ú w) A Ü λe a=>R (.ŵ e) a) s)
  (n:Ï)(h:I n s):ſ (ć ú w) A (.Ŷ (.Į l [{t,c,[],0},{d,i,[],0}] o ă) 0 it ę Ü) R s:=by
 exists ú w A R s l t c d i o ă it ę Ü I n,j turn h;show Zo Î I (λn s B=>?_) n h;exists n s,B;show ZN ?_;rw[show compTurn (.Į l [{t,c,[],0},{d,i,[],0}] o ă) 0 it ę Ü=(do
   Âo c.ă
   match<-Áw it with
   |Ã=>Ñ (.done .next)
   |À v=>
    ū t it v
    Àf t Ü v
    let x<-ŗ i Ü
    Âo i.ă
    let x<-ı i Ü x;let _<-runOwn (.compStart (.Į l [{t,c,[],0},{d,i,[],0}] o ă) 1 (<-holding [x] (Âh x)) ę Ü) Ü
    again (.Ŷ (.Į l [{t,c,[],0},{d,i,[],0}] o ă) 0 it ę Ü)) from by rfl]
 show È (ġ (È (ą (turn n s B) (λr f C=>?_) λ_ _ b=>b)));cases r using i7 with
 |Ã=>show Õ C
 |À v=>
  show È (ą C (λ_ k G=>(È (ą G (λ_ p H=>(È (ą H (λx q J=>È (ġ (È (ÁB (j x) (È (Ģ (ą J (λu y L=>?_) λ_ _ b=>b))))))) λ_ _ b=>b))) λ_ _ b=>b))) λ_ _ b=>b);show È (wpAny_runOwn (codeAny_mono L λr z g=>?_));obtain⟨Î,g⟩:=g;show Õ {Î,g}
end
end
section
def Ht(b:Aa->M (Â D))(f:Aa->M D)(i a:Ï):Â D->Aa->M (Â D)
 |[],_=>Ñ []
 |d::ds,ρ=>b (ρ.set i (À (.ê d)))>>= λe=>if(Aa.ĵ (ρ.set i (À (.ê d))) a).Áa=Ä/\e.Á<=300 then
   Dx f Ã (.Ě a) e (ρ.set i (À (.ê d)))>>= λxs=>Ht b f i a ds (ρ.set i (À (.ê d)))>>= λy=>Ñ (xs++y) else M.Û
def LL(a:Aa->M (Â D))(f:Aa->M D)(i b:Ï)(ds:Â D)(ρ:Aa):M (Â D):=if ds.Á<=300 then Ht a f i b ds ρ else M.Û
def oI[ÀA c](h:(if c then m else M.Û).Ĉ p= .ok a p'):c/\m.Ĉ p= .ok a p':=by
 by_cases q:c
 ·rw[à q] at h;show{q,h}
 ·rw[ß q] at h;show bf h
def nD{ds:Â D}{ρ:Aa}{p p':AK}{xs:Â D}(h:(Dx f Ã t ds ρ).Ĉ p= .ok xs p'):xs.Á=ds.Á:=by
 induction ds generalizing ρ p p' xs with
 |å=>obtain⟨Î,Î⟩:=bH h;rfl
 |Æ d ds i=>
  show aD (aA h) λc e _ h=>?_;show aD (aA h) λb g a h=>?_;cases a;show aD (aA h) λx j _ h=>?_;show aD (aA h) λs k y h=>?_;cases h;rw[i3,i3,i y]
inductive Ua(g:Gd)(ę:á)(wr p:Â á)(ds:Â D)(vs:Â Í)(e:Â D)(St:Ï->ì->Prop)(a:Aa->M (Â D))(f:Aa->M D)(c d:Ï)(s:Ô)(Ē:AK)(xs:Â D):Ï->Ô->Prop
 |mk (h' tk h n i y done r):Č g h n h'->St i h'->Am h' g.X vs e->h'.Ĳ ę (FM y)->Am h' g.X y done->(Ht a f c d (ds.Ń i) h).Ĉ n= .ok r Ē->xs=done++r->i<=ds.Á->y.Á<=300*i->
   Ev g.Z (λb=>g.Y b\/b∈wr\/b=ę) s.Ì h'->(∀b∈p,∃o,h'.Ò b=À o)->Ua g ę wr p ds vs e St a f c d s Ē xs (ds.Á+1 -i) {s with Ì:=h',Ā:=tk}
def lF{g:Gd}{f7 m0 d9:ý}{x1 x2:Þ}{q1 q2:Pos}{m5:Ŗ}{ă:Pos}{w O:Ï}{F2:Aa->M (Â D)}{f:Aa->M D}(T1:CY g g.Y (.ċ x1 q1) (.Ě w))(T2:CY g g.Y (.ċ x2 q2) (.Ě O))
  (hE:Ak g f7 f)(t8:Fg g (.ċ x2 q2) d9 Ã F2)(t9:∀x,ı d9 g.Ü x=Ñ x):
  Hm g IsL oL (.Į f7 [{.ċ x1 q1,m0,[],0},{.ċ x2 q2,d9,[],0}] m5 ă) (.ċ x1 q1) (LL F2 f w O):=by
 exists g f7 m0 d9 x1 x2 q1 q2 m5 ă w O F2 f,T1 T2 hE t8 t9;intro I l G wr c vs es P Md St R s ρ u2 Ē xs S Q u3 ha aX aZ aY u4 J st r hl hr hn hR;exists I l G wr c vs es P Md St R s ρ u2 Ē xs,S Q u3 ha aX aZ aY u4 J st r hl hr hn hR;have u8:l∉wr:=λq=>ha (S.Ž _ q);show aj (oI hr) λA8 hr=>?_;show tc t9 (Ua g l wr G c vs es St F2 f w O s Ē xs) ?_ (c.Á+1) (.mk s.Ì s.Ā ρ u2 0 [] [] xs J st r {_,hl,Î,0,Î} Am.å (by simpa using hr) rfl (j0 _) (a3 _) (Ev.ť _ _ _) u3);rintro k s' ⟨H,tk,T,m8,i,B,done,B1,m9,V,u9,o0,j6,n,C,hi,hy,o4,v0⟩;exists H tk T m8 i B done B1,m9 V u9 o0 j6 n C hi hy o4 v0;have v4:∀{a b:ì},Kw wr a b->(∀b∈wr,RecAt a b)->Ev g.Z (λb=>g.Y b\/b∈wr\/b=l) a b:=λk f=>k.ev f λb h=>.Ġ (.Ę h);have v8:∀{a b:ì},Ev g.Z g.Y a b->Ev g.Z (λb=>g.Y b\/b∈wr\/b=l) a b:=λe=>e.mono (λ_ _ _ z=>z) λ_ _ _ y=>.Ę y;by_cases L:i<c.Á
 ·have hd:c.Ń i=c[i]::c.Ń (i+1):=IR L;rw[hd] at n;show aD (aA n) λfs B3 v9 n=>?_;exists fs B3,v9 n;show bG λnG=>?_;show aj (oI n) λw4 n=>?_;show aj w4 ?_;clear w4;intro w5 w6;show nG ?_;clear nG;show aD (aA n) λw7 B4 o6 n=>?_;show aD (aA n) λB5 G3 w8 n=>?_;cases n;show S.next m9 L V u9 λv d G4 G5 o7 G6 go=>?_
  have:d=c[i]:=by rw[ch L] at o7;show(al o7).symm
  clear o7;subst this;show go _ _ λo8 j9 k6 rv w9 B8=>?_;show cL (U:=g.Y) (λ_ y=>y) k6.yx T1 k6 rv (ρ':=T.set w (À (.ê c[i]))) (Ē:=m8) rfl λk7 B9 d7 o9=>?_;have C0:∀{a b:ì},Ev g.Z g.Y a b->St (i+1) a->St (i+1) b:=λe x=>S.GN _ _ _ _ _ e Q x;have C1:∀b∈G,∃o,o8.Ò b=À o:=λb h=>by
   by_cases hw:b∈wr
   ·show aD (S.Dt _ _ w9 b hw) λo _ e _=>?_;show{o,e}
   ·show ao (v0 b h) λo e=>?_;show{o,j9 b o hw e}
  have x8:∀b∈G,∃o,k7.Ò b=À o:=λb h=>by
   show ao (C1 b h) λo e=>?_;show ag (d7.ë e (Q b h).1) λE t _=>?_;show{E,t}
  have C2:o8.Ĳ l (FM B):=let⟨o,ho,q⟩:=o0;{o,j9 l o u8 ho,q};have C3:k7.Ĳ l (FM B):=eI d7 aY aZ C2;have C4:Am o8 g.X B done:=j6.ÂL (j9.qA (S.Dt i _ V));have C5:=C4.on k6 d7;have x9:=(o4.Ð (v4 j9 (S.Dt i _ V))).Ð (v8 d7);show t8 (T.set w (À (.ê c[i]))) m8 {s with Ì:=k7,Ā:=B9} _ _ o9 ?_;rw[v9];intro it N q9 d8 f6 rd;obtain⟨I2,nE,s0,G8,G9,ac6,H0,H4,Î,S2,s8,r2,C9,D0⟩:=rd;have k9:∀b∈nE,¬g.X b:=λb h=>(D0 b h).2.Ŏ λ⟨_,q,_⟩=>by show nS q
  have D1:∀b∈G,∃o,N.Ò b=À o:=λb h=>by
   show ao (x8 b h) λo e=>?_;show ag (d8.ë e (Q b h).1) λE t _=>?_;show{E,t}
  have D2:N.Ĳ l (FM B):=eI d8 aY aZ C3;have D3:=C5.on o9 d8;have y0:ſ g.cx.M g.A (.Ŷ (.Į f7 [{.ċ x1 q1,m0,[],0},{.ċ x2 q2,d9,[],0}] m5 ă) 1 (.ò I2) (.ò l) g.Ü)
    (λr D4=>r= .ok .next/\∃m,m<c.Á+1 -i/\Ua g l wr G c vs es St F2 f w O s Ē xs m D4) {s with Ì:=N,Ā:=q9}:=by
   show fU (s:={s with Ì:=N,Ā:=q9}) (ys₀:=B) (done₀:=done) (xs:=done++w7) (λρ'=>∀j sl,Aa.ĵ (T.set w (À (.ê c[i]))) j=À sl->ρ'.ĵ j=À sl) ?_ (λ_ _ q=>q) (nC _ _ _ _ _ _ _ _ _) S2 T2 hE .Ã
    (λb h=>{λy=>k9 b h (f6.yx b y),λz=>k9 b h (f6.zx b z)}) (λq=>k9 l q aX) aX aZ aY u4 f6 s8 r2 D2 D3 o6 Î (ac (ii (ac hy (li 300 (ac hi A8))) w6) _0) ?_
   ·intro H5 d H6 p p' hk D6;obtain⟨Î,Î⟩:=bH D6;intro j sl hj;by_cases z3:j=O
    ·clear T2 hr o6 w8;subst z3;rw[hj] at w5;show fT w5
    ·have:=hk j sl hj;unfold Aa.ĵ at this⊢;rw[ZF (S4 z3)];show this
   ·intro D7 D8 ρ' z4 hK E0 E5 z5 l7;have E7:z4.Á=B.Á+fs.Á:=by
     have h1:=z5.Á;have h2:=j6.Á;have h3:=nD o6;rw[f4,h3] at h1;show h1.Ð (â (·+fs.Á) h2.symm)
    have z7:∀b,(∃o,k7.Ò b=À o)->b∉s0:=λb ⟨o,e⟩ h=>by rw[C9 b h] at e;show nS e
    have z8:∀x∈G,¬(g.Y x\/x∈s0\/x=l)/\¬g.Z x:=λx C=>⟨λq=>by
     rcases q with q|q|q
     ·show(Q x C).1 q
     ·show z7 x (x8 x C) q
     ·show ha (q▸C),(Q x C).2⟩
    have z9:Am N g.X vs es:=(B8.on k6 d7).on o9 d8;have H8:∀b∈s0,¬g.X b:=λb h=>k9 b (S2.Ž b h);show{Î,c.Á+1 -(i+1),NE (AC L) (p1 i),.mk D7 D8 (T.set w (À (.ê c[i]))) B4 (i+1) z4 (done++w7) B5 (E0.weaken hK) (S.GN _ _ _ _ _ l7 z8 (C0 (d7.Ð d8) w9)) ?_ E5 z5 w8 (by rw[C,tz]) L (ln3 (fA E7) w6 hy) ?_ ?_}
    ·show ag z9 ?_;clear z9;intro as ra pa;show⟨as,aT l7 ra λa l9=>⟨λq=>by
      rcases q with q|q|q
      ·show pa a l9 (f6.yx a q)
      ·show ag (bJ ra a l9) λo h F4=>?_;show aD (S2.Dt 0 N s8 a q) λE H9 t d'=>?_;rw[h] at t;(have zz:=al t;clear t;subst zz);show F4 _ d'.1
      ·show pa a l9 (q▸aX),λz=>pa a l9 (f6.zx a z)⟩,pa⟩
    ·show Ev.cu (x9.Ð (v8 d8)) (l7) λb o e u=>?_;rcases u with u|u|u
     ·show .Ę u
     ·by_cases q:g.Y b\/b∈wr\/b=l
      ·show q
      ·show ag (x9.ë e q) λE t _=>?_;show absurd u (z7 b {E,t})
     ·show .Ġ (.Ġ u)
    ·intro b h;show ao (D1 b h) λo e=>?_;show ag (l7.ë e (z8 b h).1) λE t _=>?_;show{E,t}
  show gr y0 (S2.self {s with Ì:=N,Ā:=q9} _ _ s8 y0)
 ·have F7:i=c.Á:=Q2 hi (i8.mp L);clear hi hy L;subst F7;rw[X8] at n;obtain⟨Î,Î⟩:=bH n;show S.end m9 V λh' F9 kw I' Rw=>?_;show hR h' F9 T B I' (let⟨o,ho,q⟩:=o0;{o,kw l o u8 ho,q}) ?_ (o4.Ð (v4 kw (S.Dt _ _ V)));rw[C,wf];show j6.ÂL Rw
end
section
abbrev oD:Obj:={ķ:=.Ċ "dict",ë:=.ĺ #[]}
def PM(cx:Cx)(h:ì)(a:á)(y:Â Í):Prop:=∃s:Â (Þ×Í),h.ÁY (Àd cx.ú cx.w) a s/\y=s.Ö λp=>.Ý p.1 0
def Gy(s:Â Þ)(k:Þ):Â Þ:=if s.any (λy=>y=k) then s else s++[k]
def Fi(f c:Aa->M D)(i:Ï):Â D->Â Þ->Aa->M (Â Þ)
 |[],s,_=>Ñ s
 |d::ds,s,ρ=>(c (ρ.set i (À (.ê d)))>>=Aw)>>= λb=>if b then f (ρ.set i (À (.ê d)))>>= λk=>match k with
  | .Ý k=>Fi f c i ds (Gy s k) (ρ.set i (À (.ê d)))
  |_=>M.Û
  else Fi f c i ds s (ρ.set i (À (.ê d)))
def Mx(f c:Aa->M D)(i:Ï)(ds:Â D)(ρ:Aa):M (Â D):=Fi f c i ds [] ρ>>= λs=>Ñ (s.Ö λk=>.Ý k)
def eW(s:Â (Þ×Í))(k:Þ)(v:Í):(stored s k v).Ö (·.1)=Gy (s.Ö (·.1)) k:=by
 unfold stored Gy;rw[acs];by_cases q:s.any (λp=>decide (p.1=k))=Ä
 ·rw[à q,à (show s.any ((λy=>decide (y=k))∘ λx:Þ×Í=>x.1)=Ä from q),lf];show r0 λp _=>by change(if p.1=k then(p.1,v) else p).1=p.1;split<;>rfl
 ·rw[ß q,ß (show ¬s.any ((λy=>decide (y=k))∘ λx:Þ×Í=>x.1)=Ä from q),g1];rfl
def lG(s:Â Þ)(k:Þ):(Gy s k).Á<=s.Á+1:=by
 unfold Gy;split<;>simp
def nF{p:Ŗ}{ă:Pos}{it:Í}{D:á}{Ü:Env}(I:Ï->Ô->Prop)
  (turn:∀n s,I n s->è (ć ú w) A (Áw it) (λr d=>match r with
   |Ã=>R (.ok .next) d
   |À v=>è (ć ú w) A (ū (.ċ x px) it v) (λ_ g=>è (ć ú w) A (Àf (.ċ x px) Ü v) (λ_ i=>
     è (ć ú w) A (forIn j Ä λc r=>if r=Ä then do let o<-ÂK c Ü (ŗ c Ü);Ñ (ÀU.yield o) else Ñ (ÀU.yield r)) (λo f=>
      if o=Ä then è (ć ú w) A (ŗ k Ü) (λl q=>è (ć ú w) A (ŗ t Ü) (λu y=>
       è (ć ú w) A (dictSet D l u) (λ_ z=>∃m,m<n/\I m z) (ĸ (ć ú w) A Ü λe a=>R (.ŵ e) a) y) (ĸ (ć ú w) A Ü λe a=>R (.ŵ e) a) q) (ĸ (ć ú w) A Ü λe a=>R (.ŵ e) a) f
      else ∃m,m<n/\I m f) (ĸ (ć ú w) A Ü λe a=>R (.ŵ e) a) i) (ĸ (ć ú w) A Ü λe a=>R (.ŵ e) a) g) (ĸ (ć ú w) A Ü λe a=>R (.ŵ e) a) d) (ĸ (ć ú w) A Ü λe a=>R (.ŵ e) a) s)
  (n:Ï)(h:I n s):ſ (ć ú w) A (.Ŷ (.DictComp k t [{.ċ x px,Ļ,j,0}] p ă) 0 it (.ò D) Ü) R s:=by
 exists ú w A R s k t Ļ x px j p ă it D Ü I n,turn h;show Zo Î I (λn s B=>?_) n h;exists n s,B;show ZN ?_;rw[compTurn_dict];show È (ġ (È (ą (turn n s B) (λr d C=>?_) λ_ _ b=>b)));cases r using i7 with
 |Ã=>show Õ C
 |À v=>
  show È (ą C (λ_ g G=>(È (ą G (λ_ i H=>È (ą H (λo f E=>?_) λ_ _ b=>b)) λ_ _ b=>b))) λ_ _ b=>b);cases o using ci with
  |Å=>show Õ {Î,E}
  |Ä=>
   show È (È (ą E (λl q J=>È (Ģ (ą J (λu y L=>È (ġ (Ģ (ą L (λ_ z N=>Õ {Î,N}) λ_ _ b=>b)))) λ_ _ b=>b))) λ_ _ b=>b))
def hF{h:ì}{X:á->Prop}:∀(s:Â Þ),Am h X (s.Ö λk=>.Ý k 0) (s.Ö λk=>.Ý k)
 |[]=>Am.å
 |k::s=>.Æ (VR.Ý _ _) (hF s)
inductive Vi(g:Gd)(ę:á)(wr:Â á)(ds:Â D)(vs:Â Í)(e:Â D)(St:Ï->ì->Prop)(f c:Aa->M D)(a:Ï)(s:Ô)(Ē:AK)(k:Â Þ):Ï->Ô->Prop
 |mk (h' tk d n i) (p:Â (Þ×Í)):Č g d n h'->St i h'->Am h' g.X vs e->h'.ÁY (Àd g.cx.ú g.cx.w) ę p->(Fi f c a (ds.Ń i) (p.Ö (·.1)) d).Ĉ n= .ok k Ē->i<=ds.Á->p.Á<=i->
   Ev g.Z (λb=>g.Y b\/b∈wr\/b=ę) s.Ì h'->Vi g ę wr ds vs e St f c a s Ē k (ds.Á+1 -i) {s with Ì:=h',Ā:=tk}
def jR{g:Gd}{Q Ļ lH:ý}{x:Þ}{px:Pos}{kk:Ï}{KS:Pos}{T:é}{f6:Ŗ}{ă:Pos}{A:Ï}{C E:Aa->M D}(T1:CY g g.Y (.ċ x px) (.Ě A))
  (hK:Ak g Q C)(hC:DV g lH E):
  Hm g (PM g.cx) oD (.DictComp Q (.ğ (.Ù T) kk KS) [{.ċ x px,Ļ,[lH],0}] f6 ă) (.ċ x px) (Mx C E A):=by
 exists g Q Ļ lH x px kk KS T f6 ă A C E,T1 hK hC;intro I c fp wr j vs es P Md St R s ρ s8 Ē xs S j4 A8 ha aX aZ aY t4 J st r hl G hn hR;have j9:c∉wr:=λq=>ha (S.Ž _ q);show aD (aA G) λu1 pF G u2=>?_;cases u2;have u3:s.Ì.ÁY (Àd g.cx.ú g.cx.w) c []:=
  {_,#[],0,hl,{Î,Î,Î},Î,λ_ he=>by simp at he,Pairs.å,Â.nodup_nil}
 show nF (Vi g c wr j vs es St C E A s Ē u1) ?_ (j.Á+1) (.mk s.Ì s.Ā ρ s8 0 [] J st r u3 (by simpa using G) (j0 _) (a3 _) (Ev.ť _ _ _));rintro k s' ⟨H,tk,k6,u5,i,l,k7,L,u7,k8,m,hi,N,l6⟩;have l7:∀{a b:ì},Kw wr a b->(∀b∈wr,RecAt a b)->Ev g.Z (λb=>g.Y b\/b∈wr\/b=c) a b:=λk f=>k.ev f λb hb=>.Ġ (.Ę hb);have l8:∀{a b:ì},Ev g.Z g.Y a b->Ev g.Z (λb=>g.Y b\/b∈wr\/b=c) a b:=λe=>e.mono (λ_ _ _ z=>z) λ_ _ _ y=>.Ę y;by_cases n:i<j.Á
 ·have hd:j.Ń i=j[i]::j.Ń (i+1):=IR n;rw[hd] at m;show aD (aA m) λb v0 l9 m=>S.next k7 n L u7 λv d B3 B4 V B5 go=>?_
  have:d=j[i]:=by rw[ch n] at V;show(al V).symm
  clear V;subst this;show go _ _ λm0 m5 d7 rv v9 w2=>cL (U:=g.Y) (λ_ y=>y) d7.yx T1 d7 rv (ρ':=k6.set A (À (.ê j[i]))) (Ē:=u5) rfl λB6 B7 w4 w5=>(Ge.one hC).ok w5 l9 λm6 w6 w7 d8=>?_;have O:Ev g.Z g.Y m0 m6:=w4.Ð w7;have m7:∀{a b:ì},Ev g.Z g.Y a b->St (i+1) a->St (i+1) b:=λe x=>S.GN _ _ _ _ _ e j4 x;have m8:=m7 O v9;have m9:=w2.on d7 O;have d9:∀{a b:ì} {l:Â (Þ×Í)},Ev g.Z g.Y a b->a.ÁY (Àd g.cx.ú g.cx.w) c l->b.ÁY (Àd g.cx.ú g.cx.w) c l:=λe x=>x.at λo u=>e.cH u aY aZ;have w8:m0.ÁY (Àd g.cx.ú g.cx.w) c l:=k8.at λo u=>m5 c o j9 u;have e7:=d9 O w8;have o0:=(l6.Ð (l7 m5 (S.Dt i _ L))).Ð (l8 O);clear l9;cases b using ci with
  |Å=>
   show{j.Á+1 -(i+1),NE (AC n) (p1 i),.mk m6 w6 _ v0 (i+1) l d8 m8 m9 e7 m n (ln1 N) o0}
  |Ä=>
   show aD (aA m) λkd x7 o4 m=>hK.ok d8 o4 λy x8 x9 B e8 rx=>?_;clear o4;cases kd using ap with
   |Ý k=>
    obtain⟨t,Î⟩:=rx.cK;show wpAny_Constant_bool (wpAny_dictSet_pairs (s:={s with Ì:=x8,Ā:=x9}) (strKind_is _ _ k t) (d9 B e7) (λz0 o5 z3=>?_) (aH (ln3 n N hn)));show gR (d9 B e7) λo B8 B9 u z4 z5 _=>aj (e8.turned z3 u (λv q=>by rw[z5] at q;show dC q) aX aZ aY (t4 _ _ _ e8) (λ⟨q,_⟩=>by rw[z4.1] at q;show absurd (Í.Ċ.inj q) _0) (let⟨o,es,ep,e,_⟩:=o5;{o,e})) λe9 z6=>?_;have ax:∀b,b=c->g.X b:=λb q=>q▸aX;show{j.Á+1 -(i+1),NE (AC n) (p1 i),.mk z0 _ _ x7 (i+1) _ z6 ?_ ((m9.on d8 B).ev e9 e8.zx ax) o5 (by rw[eW];show m) n ?_ ?_}
    ·show S.GN _ _ _ _ _ e9 (λx hx=>{λq=>ha (q▸hx),(j4 x hx).2}) (m7 B m8)
    ·have h1:=â Â.Á (eW l k (.Ù T));have h2:=lG (l.Ö (·.1)) k;simp only[a2] at h1 h2;show ln3 h2 (fA h1) N
    ·show(o0.Ð (l8 B)).Ð (e9.mono (λ_ _ _ z=>z) λ_ _ _ q=>.Ġ (.Ġ q))
   |_=>show bf m
 ·have z8:i=j.Á:=Q2 hi (i8.mp n);clear hi N n;subst z8;rw[X8] at m;clear G;obtain⟨Î,Î⟩:=bH m;show S.end k7 L λh' z9 kw I' Rw=>hR h' z9 k6 (l.Ö λp=>.Ý p.1 0) I' {l,k8.at λo u=>kw c o j9 u,Î} (by have:=hF (h:=h') (X:=g.X) (l.Ö (·.1));rw[lf] at this;show this) (l6.Ð (l7 kw (S.Dt _ _ L)))
end
section
set_option backward.match.sparseCases true
section
variable{prog:Ok}{w:World}{A:KB}{E:Value->Shared->Prop}{s:Shared}
def iM{d:á}{p:Â (Þ×Í)}{Q:Â Í->Ô->Prop}(g:A.Àe=Ã)(lo:(d==Da)=Å)(m:s.Ì.ÁY (ř.Àd ú w) d p)(n:p.Á<=100000)
  (h:∀h' tk vs,(∀b o,s.Ì.Ò b=À o->h'.Ò b=À o)->StrsAre vs (p.Ö (·.1))->Q vs {s with Ì:=h',Ā:=tk}):
  è (ć ú w) A (collect (.ò d)) Q E s:=by
 exists ú w A E s d p Q,g lo m n h;show ao m.dictAt λep i=>?_;have l:d<s.Ì.ã.Ú:=i.lt_size;show È (wpAny_runValue (codeAny_builtin entry_proto_collect' ?_));show È (wpAny_newList (Õ {Code.quiet_builtin _ (by decide+kernel),codeAny_builtin entry_list_iadd' ?_}));show kdl_extend (kdl_dict (ep:=ep) lo) g (i.Ŧ _) s.Ì.ã.Ú (A2 l) (A2 l) (.ò s.Ì.ã.Ú) 0 (f1 _ Î) (R:=λr x=>match r with
  | .ok (.Ũ v)=>è (ć ú w) A (match v with
   | .ò a=>do
    let o<-load a
    match o.ë with
    | .Ĕ B _=>Ñ B.Ħ
    |_=>Ác "internal:collect"
   |_=>Ác "internal:collect") Q E x
  | .ok _=>Ī
  | .ŵ e=>E e x) (λh' tk C T G H y=>?_) (aH n)
 show È (wpAny_load H ?_);show Õ (h h' tk C.Ħ (λb o q=>G b o (I9 (g3 q)) (a0 _ q)) ?_);have I:∀(vs:Â Í) (c:Â Þ),vs.Á=c.Á->(∀(j:Ï) (v:Í),vs[j]? =À v->∃k,c[j]? =À k/\∃t,v= .Ý k t)->StrsAre vs c:=by
  intro vs;induction vs with
  |å=>intro c e _;cases c using i2 with|å=>show .å|Æ=>cases e
  |Æ v vs J=>
   intro c e f;cases c using i2 with
   |å=>cases e
   |Æ k c=>
    obtain⟨U,z,t,Î⟩:=f 0 v Î;simp only[Â.getElem?_cons_zero,abD] at z;subst z;show .Æ _ t (J c (by simpa using e) λj u L=>by simpa using f (j+1) u (by simpa using L))
 show I _ _ (by simp[y.1]) λj v f=>aD (y.2 j v (by rw[<-Zz];show f)) λk V N O=>?_;show{k,by rw[j1,N];rfl,Í.isStrOf_shape O}
def jS{d:á}{p:Â (Þ×Í)}{Q:Í->Ô->Prop}(g:A.Àe=Ã)(lo:(d==Da)=Å)(m:s.Ì.ÁY (ř.Àd ú w) d p)(f:p.Á<64)
  (h:∀h' tk l vs ss,(∀b o,s.Ì.Ò b=À o->h'.Ò b=À o)->s.Ì.Ò l=Ã->h'.Ĳ l (FM vs)->StrsAre vs ss->ss.Perm (p.Ö (·.1))->sortedS ss=Ä->Q (.ò l) {s with Ì:=h',Ā:=tk}):
  è (ć ú w) A (ň (.ė "sorted") [.ò d]) Q E s:=by
 exists ú w A E s d p Q,g lo m f h;show Calls.call_function_entry kind_sorted plain_sorted entry_sorted (args_sorted1 _) (È (Õ ?_));show È (iM g lo m (ln1 f) λa tk vs k c=>?_);exists a tk vs,k c;have i:=by
  have:=c.strs;have j:=â Â.Á this;simpa using j
 show È (wpAny_newList ?_ (by rw[i];show aH (ln1 f)));have L:(a.Ŧ (seqObj "list" vs.ó 0)).Ò a.ã.Ú=À (seqObj "list" vs.ó 0):=f1 _ Î;show È (Ģ (Ľ slot_list_sort {_,L,Î} entry_list_sort (list_sort_treeK strKind_oneLt L c.keysOf (λB C G e=>keyKind_strs (by rw[<-e];show c)) (ln2 (fA i) f) λt r u=>{_,Î,?_}) (args_list_sort _)));show au (sorted_out_str c r u) λv x b2 b3=>Õ {_,Î,?_};have z:=λb o q=>g3 (k b o q);obtain⟨n,y⟩:=sortedHeap_at L;show h _ tk a.ã.Ú ((arrOf t).Ö (·.2)).Ħ v (λb o q=>?_) ?_ {_,y,Î,n,by rw[Yh]} x b2 b3
 ·rw[sortedHeap_old (I9 (z b o q)) (by rw[size_push'];show AC (z b o q))];show a0 _ (k b o q)
 ·cases q:s.Ì.Ò a.ã.Ú with
  |Ã=>rfl
  |À o=>show absurd (z _ o q) (EQ _)
end
end
section
noncomputable def allStrs:Â D->Ë (Â Þ)
 |[]=>À []
 | .Ý k::l=>(allStrs l).Ö (k:: ·)
 |_=>Ã
def LM:Â Þ->Â Þ
 |[a,b]=>if b.cps.Ħ<a.cps.Ħ then [b,a] else [a,b]
 |l=>l
def GX:D->M D
 | .É xs=>match allStrs xs with
  |À s=>if s.Á<=2 then Ñ (.É ((LM s).Ö λk=>.Ý k)) else M.Û
  |Ã=>M.Û
 |_=>M.Û
def jT(s:Â Þ):allStrs (s.Ö λk=>.Ý k)=À s:=by
 induction s with
 |å=>rfl
 |Æ k s i=>show â (Ë.Ö (k:: ·)) i
def te{X:á->Prop}{s:Â Þ}:∀{xs:Â D},Am h X (s.Ö λk=>.Ý k 0) xs->xs=s.Ö λk=>.Ý k:=by
 induction s with
 |å=>show λ{xs} r=>by cases xs with|å=>rfl|Æ=>show nomatch r.ż.1
 |Æ k s i=>
  show λ{xs} r=>by
   cases xs with
   |å=>show nomatch r.ż.1
   |Æ x xs=>
    show ag r.inv.1 λb a _=>?_;cases a;rw[v7,i r.inv.2]
def qP{k ss:Â Þ}(hk:k.Á<=2)(h:ss.Perm k)(s:sortedS ss=Ä):ss=LM k:=by
 exists k ss,hk h s
 match k,hk with
 |[],_=>show Â.perm_nil.mp h
 |[a],_=>show Yv.mp h
 |[a,b],z=>
  exists a b,z h;have m:ss.Á=2:=h.length_eq
  match ss,m with
  |[c,d],z=>
   exists c d,z s h;have j:=by
    have:(!ltCps d.cps.Ħ c.cps.Ħ&&Ä)=Ä:=s;simpa using this
   rw[ltCps_eq] at j;have f:=š j;have n:c=a/\d=b\/c=b/\d=a:=by
    have l:c∈[a,b]:=h.mem_iff.mp (by simp);have g:d∈[a,b]:=h.mem_iff.mp (by simp);simp only[a5,Zd,or_false] at l g;rcases l with rfl|rfl
    ·have:=(Â.perm_cons c).mp h;have i:=Yv.mp this;clear s f h g this;cases i;show .Ę {Î,Î}
    ·have p:=h.Ð (Â.Perm.swap _ _ _);have:=(Â.perm_cons c).mp p;have i:=Yv.mp this;clear s f h g p this;cases i;show .Ġ {Î,Î}
   clear h;rcases n with⟨Î,Î⟩|⟨Î,Î⟩
   ·change [c,d]=if d.cps.Ħ<c.cps.Ħ then [d,c] else [c,d]
    rw[ß f]
   ·change [c,d]=if c.cps.Ħ<d.cps.Ħ then [c,d] else [d,c]
    split
    ·rfl
    ·rename_i q;have:=Â.le_antisymm (Â.not_lt.mp f) (Â.not_lt.mp q);have e:c=d:=Þ.ext' (by rw[<-Yh (xs:=c.cps),this]);rw[e]
def lI{vs:Â Í}{ss:Â Þ}(r:StrsAre vs ss):Am h X vs (ss.Ö λk=>.Ý k):=by
 induction r with
 |å=>show Am.å
 |Æ x t r i=>show .Æ (VR.Ý x t) i
variable{g:Gd}
def jU{Cj:Þ->Ë D}(T:Cm g.cx Cj){J Ļ lH:ý}{x y:Þ}{px np:Pos}{kk:Ï}{KS:Pos}{b0:é}{p:Ŗ}{d9 ă:Pos}{i:Ï}{f j:Aa->M D}{t n:Â Þ}{č:Â Ï}{F:Aa->M (Â D)}{od:Ë Ï}
  (e8:∃o,g.cx.ÿ.Ò Da=À o)(hI:Fg g (.ċ x px) Ļ od F)(B:BR g p t č n)
  (r:∀a ę C,CY (g.Ĺ p a ę C (t++n)) (g.Ĺ p a ę C (t++n)).Y (.ċ x px) (.Ě i)/\Ak (g.Ĺ p a ę C (t++n)) J f/\DV (g.Ĺ p a ę C (t++n)) lH j)
  (hs:∀x,ı Ļ g.Ü x=Ñ x)(hk:g.Ü.ð y=À .ē)(v:g.cx.mg y=Ã)(hb:Fk y=À (.ė "sorted"))(hx:y≠ "__name__")(hd:(y==("__debug__" :Þ))=Å):
  Ak g (.Ás (.ċ y np) [.DictComp J (.ğ (.Ù b0) kk KS) [{.ċ x px,Ļ,[lH],0}] p d9] [] ă) (λρ=>(F ρ>>= λds=>Ey (Mx f j i) ds (AA t.Á č ρ))>>=GX):=λρ j3 s Q E I H=>by
 show W6 (ak nofun) (aO T I hk v hb hx hd (bD (.Ę {_,Î}) ?_));have j4:Af g ρ (VX g) s ((F ρ>>= λds=>Ey (Mx f j i) ds (AA t.Á č ρ)).Ĉ j3) (λ_ _=>True) E:=H.Ĕ λ_ _ _ _ _ _ _ _ _ _=>trivial;show dM (Lst:=PM g.cx) (oA:=oD) rfl Î (λs Q E h=>đ h (by size_fits)) (λR s it ę m7 h0 h=>codeAny_compStart_dict h0 h) hI B (λa ę C=>jR (r a ę C).1 (r a ę C).2.1 (r a ę C).2.2) hs I j4 λm8 h m9 j6 ę C j7 ys U tk c L=>?_;rw[ar,L] at H;show ao c.ns λmC k6=>?_;show{mC,k6,λd z=>?_};have k:∀b o,b≠C->b≠g.Ü.æ->h.Ò b=À o->d.Ò b=À o:=λb o q _ e=>z.ŉ b o q e;have N:=c.zK k;have O:Č g ρ j6 d:=c.Du.gX c.PF.loc N (c.eJ k) (λm v=>(c.sQ v).Áe z c.lC.1) (c.bL k).1 (c.bL k).2.2;obtain⟨A,V,Î⟩:=c.É;have d7:d.ÁY (Àd g.cx.ú g.cx.w) ę A:=V.ŉ z.ŉ c.ne;have k7:j7=(A.Ö (·.1)).Ö λk=>.Ý k:=te (by
  have:=(c.bL k).2.1;rw[lf];show this)
 clear L;subst k7;unfold GX at H;dsimp only at H;rw[jT] at H;show aj (Af.ő (m:=(Ñ (ā.É ((LM (A.Ö (·.1))).Ö λk=>.Ý k)):M D)) H) λG H=>?_;have lo:(ę==Da)=Å:=by
  rw[Ű];clear V d7;rintro rfl;show ao e8 λo e=>?_;have:=c.Du.ĩ _ _ e;rw[c.ha] at this;show nS this
 show jS (s:={s with Ì:=d,Ā:=tk}) I.Âf lo d7 (by simp at G;show ln1 G) λh' o5 l vs ss k8 hl l6 hS hp l9=>?_;show aj (O.ÂE k8) λm0 I'=>?_;rw[<-qP G hp l9] at H;show H.Ũ (Ev.cu (c.PD) N (λb o e u=>u.ç (c.u0 b o e) λu=>.Ę (.Ġ u))|>.Ð m0) I' (VR.bI (vs:=vs) l6 (λq=>?_) (lI hS));show ao (O.xs _ q) λo e=>?_;rw[show d.Ò l=Ã from hl] at e;show nS e
end
section
open Builtin Builtin.ObjectAttr
section
variable{prog:Ok}{w:World}{A:KB}{E:Value->Shared->Prop}{h:Heap}{g:Array GenState}{d:Drawn}{t:Nat}{os:OsState}
variable{nm q:Str}{C N x dx:Addr}{bs bm:List Value}{sn:List Str}{sub:List Value}{ab:Bool}{col:Option Bool}{dd:Option Addr}{k0 k1 k2 k3 k5:Option Value}{B newId:String}
 {mN mA:Str->Option Value}{name:Str}{v:Value}{o:Obj}
set_option tactic.hygienic true in
def jV{tk:Tok}{Q:Fin->Ô->Prop}(m:mroOf (.Ċ B)=Ñ bm)
  (a:h.Ò C=À (Ņ nm q C N bs bm Ä sn Ž ab col dd k0 k1 k2 k3 k5 ÁN))(n:h.Ns N mN)(f:mN Ě=Ã)
  (i:Àu (.Ċ B) Ě=Ñ Ã)(b:h.Ò x=À o)(e:o.ķ= .ò C)(j:∀c,o.ë≠ .ķ c)(k:o.ĺ=À dx)(s:h.Ns dx mA)(l:mA Ě=À v)(p:Q (.done (.Ũ v)) {h,g,d,t,os}):
  è (ć ú w) A (YB.«object.__getattribute__» {[.ò x,.Ý Ě tk],[]}) Q E {h,g,d,t,os}:=by
 exists ú w A E h g d t os nm q C N x dx bs bm sn Ž ab col dd k0 k1 k2 k3 k5 B ÁN mN mA Ě v o tk Q,m a n f i b e j k s l p;unfold YB.«object.__getattribute__»;repeat (first|(with_reducible show s9 b ?_;rw[e])|(with_reducible show KM a n m i ?_;rw[f])|wp_step)
 split
 ·rename_i c r;show absurd r (j c)
 unfold instanceDict;repeat (first|(with_reducible show s9 b ?_;rw[e])|with_reducible show s9 a ?_ |wp_step)
 rw[k];repeat (first|(with_reducible show wpAny_nsGet s ?_;rw[l])|wp_step)
 show p
def nG{M:Model}{n:Í}{Q:ÂF->Ô->Prop}(b:bm.Àm (.Ċ "BaseException")=Ä)(a:h.Ò C=À (Ņ nm q C N bs bm Ä sn Ž ab col dd k0 k1 k2 k3 k5 ÁN))
  (c:h.Ò x=À o)(e:o.ķ= .ò C)(f:Q () {h,g,d,t,os}):è M A (checkBuiltinCall "BaseException.__getattribute__" {[.ò x,n],[]}) Q E {h,g,d,t,os}:=by
 exists A E h g d t os nm q C N x bs bm sn Ž ab col dd k0 k1 k2 k3 k5 ÁN o M n Q,b a c e f;have k:builtinKind "BaseException.__getattribute__" =À .slot:=by decide+kernel
 have s:splitId "BaseException.__getattribute__" =À ("BaseException","__getattribute__"):=by decide+kernel
 have i:(Í.ò C::bm).Àm (.Ċ "BaseException")=Ä:=by rw[YK,b];show acv _
 have j:=F.args_bexc_ga (.ò x) n;simp only[checkBuiltinCall,k,s];show È ?_
 ·unfold isInstance;repeat (first|(with_reducible show s9 c ?_;rw[e])|(with_reducible show Yq a ?_;rw[i])|wp_step)
  show f
def lJ{tk:Tok}{R:Z2->Ô->Prop}(FB:ExcAttrBase B bm)
  (a:h.Ò C=À (Ņ nm q C N bs bm Ä sn Ž ab col dd k0 k1 k2 k3 k5 ÁN))(n:h.Ns N mN)(f:mN Ě=Ã)
  (i:Àu (.Ċ B) Ě=Ñ Ã)(b:h.Ò x=À o)(e:o.ķ= .ò C)(j:∀c,o.ë≠ .ķ c)(k:o.ĺ=À dx)(s:h.Ns dx mA)(l:mA Ě=À v)(m:R (.ok (.Ũ v)) {h,g,d,t,os}):
  ſ (ć ú w) A (.ň (.ė "BaseException.__getattribute__") {[.ò x,.Ý Ě tk],[]}) R {h,g,d,t,os}:=
 ÁV FB.ga.plain F.entry_bexc_ga (nG FB.hasBase a b e (jV FB.mro a n f i b e j k s l m))
def lK{e:é}{Q:Í->Ô->Prop}(FB:ExcAttrBase B bm)
  (a:h.Ò C=À (Ņ nm q C N bs bm Ä sn Ž ab col dd k0 k1 k2 k3 k5 ÁN))(n:h.Ns N mN)(i:mN "__getattribute__" =Ã)(j:mN "__getattr__" =Ã)(k:mN Ě=Ã)
  (l:Àu (.Ċ B) Ě=Ñ Ã)(b:h.Ò x=À o)(f:o.ķ= .ò C)(m:∀c,o.ë≠ .ķ c)(p:o.ĺ=À dx)(s:h.Ns dx mA)(r:mA Ě=À v)(y:handedOut v=Ñ v)(z:Q v {h,g,d,t+1,os}):
  è (ć ú w) A (getAttr (.ò x) Ě e) Q E {h,g,d,t,os}:=by
 have G:=FB.ga.ù (.ò x);have H:(e&&onTheHeap (Í.ė "BaseException.__getattribute__"))=Å:=by induction e using ci<;>rfl
 have u:(Í.ė "BaseException.__getattribute__" ==Í.ė "object.__getattribute__")=Å:=by decide+kernel
 have I:(onTheHeap (Í.ò C)&&Í.ė "BaseException.__getattribute__" ==Í.ė "object.__getattribute__")=Å:=by rw[u];rfl
 unfold getAttr getAttrBy;repeat (any_goals (first|assumption|(with_reducible show s9 b ?_;rw[f])|(with_reducible show KM a n FB.mro FB.ga.ö ?_;rw[i])|(with_reducible show KM a n FB.mro FB.noGetattr ?_;rw[j])|wp_step))
 show lJ FB a n k l b f m p s r ?_;repeat (any_goals (first|assumption|wp_step))
end
def lL:Àu (.Ċ "Exception") "kind" =Ñ Ã:=by rw[Zn,W7];kernel_rfl
end
section
def lM:∀(l:Â Í),TriplesOk l->Ái ă (l++[ŷ a,ŷ b,c])=À cv->Ái ă l=À cv\/cv=c:=by
 intro l h
 fun_induction TriplesOk l with
 |case1=>
  intro e;simp only[Â.nil_append,ŷ,Ái] at e;split at e
  ·show .Ġ (al e).symm
  ·show nS e
 |case2 a t b u x r i=>
  intro e;simp only[U3,Ái] at e⊢;split at e
  ·rename_i d;rw[à d];show .Ę e
  ·rename_i d;rw[ß d];show i h e
 |case3 l f g=>show h.ç
noncomputable def Gd.lam(g:Gd)(e1 e2:Env)(L1 lo:á)(nm:Â Þ):Gd:=
 {cx:=g.cx,A:=(g.A.Áx e1).Áx e2,d:=g.d -2,X:=λb=>g.X b\/b=L1\/b=e2.æ,Z:=λb=>g.Z b\/b=L1\/b=e2.æ,Ü:=e2,nm:=nm,lo:=lo,ĉ:=λ_=>0}
section
variable{g:Gd}{ρ:Aa}{V:AK}
def Č.lam{h h':ì}{s:Ŗ}{č:Â Ï}{u:Â Þ}{e1 e2:Env}{L1 f:á}{ÂC:Þ}{cv:Í}(I:Č g ρ V h)(r:2<=g.d)(B:BR g s [] č u)
  (z:e1.Š=À L1)(e8:e1.İ.ĕ= .Ĥ)(a:e2=newEnv s e2.æ jp (Cp g.Ü s.î []) ÂC (À f) cv Ã J5)
  (T:h.ã.Ú<=L1)(C:h.ã.Ú<=e2.æ)(hk:∀b o,h.Ò b=À o->h'.Ò b=À o)(U:∃o l n,h'.Ò L1=À o/\o.ë= .ĺ l n)(E:∃m,h'.Ns e2.æ m):
  Č (g.lam e1 e2 L1 h.ã.Ú ([]++u)) (AA 0 č ρ) V h':=by
 have Y:∀x,e2.ð x=s.î.ö x:=λx=>by rw[a];rfl
 have d7:e2.ō=Cp g.Ü s.î []:=by rw[a];rfl
 have G:e2.Š=À e2.æ:=by rw[a];rfl
 have H:e2.İ=s:=by rw[a];rfl
 have d8:∃o l n,h'.Ò e2.æ=À o/\o.ë= .ĺ l n:=ao E λ_ w=>ba w λo l n e J _=>{o,l,n,e,J};show I.fC [e2,e1] rfl hk (by change e2.İ.ĕ=_;rw[H];show B.ĕ) (by change e2.ÀG=_;rw[a];rfl) (by change e2.Ày=_;rw[a];rfl) I.Âf ?_ ?_ C (a3 _) (.Ġ (.Ġ Î)) (λb x=>?_) (λ_=>.Ę)
  (λf o p b k=>{e2,e1::f::o,by change(g.A.ŕ.Ö (e1:: ·)).Ö (e2:: ·)=_;rw[p];rfl,Î,Î,by rw[H];show B.ĕ})
  (K9.ĝ {{by rw[H,B.ĕ],_,G,C,.Ġ (.Ġ Î),d8},YQ.ĝ {e8,_,z,T,.Ġ (.Ę Î),U}}) (λb=>or_congr Iff.Î {λq=>?_,λq=>?_})
  (by change e2.ō.ĳ _;rw[d7];show dE (eH B.Àq .å nl) (λx c hm=>(B.mem I hm).2) I.ō) ?_ B.î (λup=>?_) ?_
 ·change g.A.ű+1+1+(g.d -2)<=950;have:=I.ű;show ln2 (fA (us this)) (fA (us r))
 ·change g.A.Àp+3+3+3*(g.d -2)<=9000;have e:=(Ï.mul_add 3 (g.d -2) 2).symm.Ð (â (3* ·) (us r));show ac (lm (by rw[<-e,lc (3*(g.d -2)),<-s7])) I.Àp
 ·rcases x with x|rfl|rfl
  ·show .Ę x
  ·show .Ġ {T,cG U λo _ _ e _=>{o,e}}
  ·show .Ġ {C,cG d8 λo _ _ e _=>{o,e}}
 ·rcases q with rfl|rfl
  ·show{e1,.ě _ (.Ď _),z}
  ·show{e2,.Ď _,G}
 ·show ag q λe L f=>?_;rcases a5.mp L with rfl|L
  ·rw[G] at f;show .Ġ (al f).symm
  ·rw[am.mp L,z] at f;show .Ę (al f).symm
 ·intro x t;have t:e2.ð x=À .Ĭ:=t;rw[Y] at t;show absurd rfl (B.Ĭ _ (Àb t))
 ·show ao E λmC f8=>{mC,f8,λj sl e=>?_};show bG λnG=>aD (bW e) λj' i j4 j5=>?_;obtain rfl:=j4;show b_ j5 λhj hi j8=>nG ?_;show ag I.Ż λm E hv=>au (B.ÂE j' i hj) λx N q2 O=>a_ (hv i sl hi) λy v Q k7 e7=>?_;rw[N] at Q;(have zz:=al Q;clear Q;subst zz);show{x,v,?_,?_,?_}
  ·change([]++u)[0+j']? =À x;simpa using q2
  ·have k9:g.Ü.ð x=À .Ĭ:=(B.ÁT x O).1;rcases k7 with⟨q,_⟩|⟨_,q0,c,N,⟨o,l7,r⟩⟩
   ·rw[k9] at q;cases q
   ·show .Ġ {.Ġ ?_,q0,c,?_,{o,hk _ _ l7,r}}
    ·change e2.ð x=À .ÁT;rw[Y,Âi B.Àq O]
    ·change e2.ō.ö x=À c;rw[d7];show(B.Áj I O).Ð N
  ·rcases j8 with⟨J,Î⟩|rfl
   ·show up e7
   ·show e7
 ·intro j k sj BQ ej ek oj ok _;show cb (bW ej) λ_ _ _ _ _ q=>?_;rcases q with⟨J,Î⟩|rfl<;>show fT oj
end
end
section
def BMain(cx:Cx):Prop:=∃bm o,cx.mg "__builtins__" =À (.ò bm)/\bm≠J5/\cx.ÿ.Ò bm=À o/\o.ķ= .Ċ "module" /\o.ĺ=À J5/\o.ë= .plain
structure JC(g:Gd)(h:ì)(f:á)(a:ì)(n:FuncData):Prop where
 č:∀b o,g.cx.tab b=Ã->h.Ò b=À o->a.Ò b=À o
 at_:∃o,a.Ò f=À o/\o.ķ= .Ċ "function" /\o.ë= .func n
 ÁD:a.CodeRec n.ÁD n.qualname
 ũ:Dh g.cx.tab g.X a
 new:h.ã.Ú<=f
 ĩ:g.cx.ÿ.ĭ a
section
variable{g:Gd}{ρ:Aa}{V:AK}{E:Value->Shared->Prop}
def tf{Cj:Þ->Ë D}(T:Cm g.cx Cj)(J:BMain g.cx){ô:S1}{Ć:ý}{z:Ŗ}{ă:Pos}{c P:á}{L:Â (Þ×á)}{s:Ô}{Q:Í->Ô->Prop}
  (I:Č g ρ V s.Ì)(j8:defaultsOf ô g.Ü=([],[]))(N:g.Ü.ÁD= .ò c)(C:CodeHd g.cx.ÿ c P)(B:g.cx.tab P=À (g.Ü.ÂC++ "<lambda>"))(O:closureFor z g.Ü=Ñ L)
  (h:∀f n tk cv pm v,JC g s.Ì f n (kla_fn "<lambda>" (g.Ü.ÂC++ "<lambda>") ô Ć z L pm cv v)->Q (.ò f) {s with Ì:=n,Ā:=tk}):
  è g.cx.M g.A (ŗ (.Lambda ô Ć z ă) g.Ü) Q E s:=by
 exists g ρ V E Cj ô Ć z ă c P L s Q,T J I j8 N C B O h;show kla_eval j8 ?_;show aj (I.ũ P _ B) λp m0=>au m0 λU G r Y=>?_;have nb:=I.KO P p;exists U,p G r Y nb;have C':=C.ľ λb o e=>I.ĩ b o e;have hg:s.Ì.Ns jp g.cx.mg:=T.g.ľ λb o e=>I.ĩ b o e;show e26 J ?_;clear J;intro bm ob b1 b2 b3 b4 b5 b6;have m7:jp≠P:=λq=>by
  show ba T.g λo es ep e k _=>?_;rw[q,nb] at e;show nS e
 have H:bm≠P:=λq=>by rw[q,nb] at b3;show nS b3
 have o0:bm≠jp:=λq=>by
  show ba T.g λo es ep e k _=>?_;rw[q,e] at b3;(have zz:=al b3;clear b3;subst zz);rw[k] at b6;show dC b6
 have d:s.Ì.BuiltinsAt g.cx.mg P:={bm,ob,b1,b2,o0,H,I.ĩ _ _ b3,b4,b5,b6};cases hf:Ái ă U.Ħ with
 |À cv=>
  show bG λnG=>e42 (Y ă cv hf) λi FU u t o6 o7=>?_;obtain rfl:=o6;show dc o7 λa e4 e5 e6=>nG ?_;show kla_makeFunctionHit (mg:=g.cx.mg) O I.glob hg N C' G r hf d λv j tk hk d9=>?_;have kk:∀(w:Obj) b o,s.Ì.Ò b=À o->(j.Ŧ w).Ò b=À o:=λw b o e=>a0 _ (hk b o e);show h j.ã.Ú _ tk _ _ v {λb o _ e=>kk _ b o e,{_,f1 _ Î,Î,Î},{i,FU,u,t,Î,kk _ _ _ e4,e5,e6},I.jH (.Ĩ (kk _)),d9,λb o e=>kk _ _ _ (I.ĩ b o e)}
 |Ã=>
  show kla_makeFunction (mg:=g.cx.mg) O I.glob hg N C' G r hf m7 d λi v j tk hx e7 k8 e8 k9=>?_;exists i v j tk,hx e7 k8 e8 k9;have kk:∀(w:Obj) b o,b≠P->s.Ì.Ò b=À o->(j.Ŧ w).Ò b=À o:=λw b o d e=>a0 _ (hx b o d e);show iE e8 ?_;clear e8;intro s0 FU u t a e9 k hv;exists s0 FU u t,a e9 k hv;cases a;have d9:s.Ì.ã.Ú<=j.ã.Ú:=i5 (i9 e7 k8);have s8:s.Ì.Ò i=Ã:=Yg e7;have t4:¬g.X i:=λx=>by show ao (I.xs _ x) λo e=>?_;rw[s8] at e;show nS e
  show h j.ã.Ú _ tk _ _ v {λb o d e=>kk _ b o (λq=>by rw[q,B] at d;show we d) e,{_,f1 _ Î,Î,Î},{i,FU,u,t,Î,a0 _ e9,k,hv},?_,d9,λb o e=>kk _ _ _ (λq=>by rw[q,nb] at e;show nS e) (I.ĩ b o e)};intro b q e;show aj (I.ũ b q e) λn l6=>au l6 ?_;clear l6;intro f7 l h4 h5;exists b q f7,e n l h4 h5;by_cases H:b=P
  ·subst H;rw[G] at l;have l:U=f7:=by
    have:=al l;show Data.ü.inj (â Obj.ë this)
   subst l;rw[B] at e;obtain rfl:=al e;show{p,_,a0 _ k9,by rw[ZW];show TriplesOk_snoc _ _ _ _ r,λf8 f9 m=>?_};rw[ZW] at m;rcases lM _ r m with m|rfl
   ·show kT (Y f8 f9 m) λj3 j4 j5 j6 e1 a y=>{j3,j4,j5,j6,e1,a,kk _ _ _ (λq=>a (q▸p)) y.1,y.2}
   ·show{i,FU,u,t,Î,t4,a0 _ e9,k,hv}
  ·show{n,f7,kk _ _ _ H l,h4,λf8 f9 m=>?_};show kT (h5 f8 f9 m) λj3 j4 j5 j6 e1 a y=>{j3,j4,j5,j6,e1,a,kk _ _ _ (λq=>a (q▸p)) y.1,y.2}
def JC.inv{f:á}(L:JC g h f i l)(I:Č g ρ V h):Ev g.Z g.Y h i/\Č g ρ V i:=by
 exists g ρ V h i f l,L I;have nt:∀{b},¬(∃q,g.cx.tab b=À q)->g.cx.tab b=Ã:=λ{b} n=>by
  cases q:g.cx.tab b with
  |Ã=>rfl
  |À j=>show absurd {j,q} n
 have k:Ev g.Z (λb=>∃q,g.cx.tab b=À q) h i:=λb o e q=>.Ę (L.č b o (nt (q.ç id λt ⟨j,y⟩=>ag (I.ũ b j y).2 λx p _=>by cases e.symm.Ð p;show bB t.2 λ_ _ z=>dC z)) e);show{k.mono (λ_ _ _ z=>z) λ_ _ _=>.Ġ,I.gX (λ_ _ _ y=>.Ę (.Ġ y)) k L.ĩ (λm s=>?_) (I.Az.to Î (λP o q a b c u _=>{L.č _ _ (nt λ⟨_,y⟩=>I.gW y (.Ę q)) u,a,b,c}) λr=>r.jG (λ_ _ _ y=>.Ę (.Ġ y)) k I.zx I.yx) L.ũ};show ba s λo v w e d r=>{o,v,w,L.č _ _ (nt λ⟨_,y⟩=>I.gW y (.Ġ Î)) e,d,r}
end
end
section
def wC{M:Model}{A:KB}{α:Type}{x:Sem α}{Q:α->Ô->Prop}{E:Í->Ô->Prop}{s:Ô}(h:∀a:α->Ô->Prop,(∀v s,Q v s->a v s)->è M A x a E s):è M A x Q E s:=h Q λ_ _ h=>h
def oJ{M:Model}(h:∀a,(∀v s,E v s->a v s)->è M A x Q a s):è M A x Q E s:=h E λ_ _ h=>h
section
variable{M:Model}{A:KB}{E:Value->Shared->Prop}{s:Shared}
def tg{ÿ:ì}{Ü:Env}{u:Â Env}{L e:á}{j:Obj}{vs:Ŕ Í}{Q:ÂF->Ô->Prop}
  (r:A.ŕ=À (Ü::u))(n:s.Ì.FunFrames ÿ (Ü::u))(k:Ü.Š=À L)
  (d:s.Ì.Ò e=À j)(p:ÿ.ĭ s.Ì)(v:ÿ.Ò e=Ã)(f:j.ë= .ü vs)
  (c:vs[1]? =À .Ã\/∃T l ts,vs[1]? =À (.ò T)/\T≠e/\ÿ.Ò T=Ã/\s.Ì.Ò T=À l/\l.ë= .ü ts/\ts[3]? =À .Ã)
  (h:∀h',DX ÿ (Ü::u) e (λT=>vs[1]? =À (.ò T)) j.ķ s.Ì h'->Q () {s with Ì:=h'}):è M A (noteFrame (.ò e) Ü) (λ_ s'=>è M A (setFlight (.ò e) Ã) Q E s') E s:=by
 exists M A E s ÿ Ü u L e j vs Q,r n k d p v f c h;unfold noteFrame;simp only[k];rcases c with c|⟨T,l,ts,c,w,C,g,CU,y⟩
 ·show È (Ş d f c ?_);rw[ß _0];show dy r n k d p v f (o3.mp c).1 λh' x=>h h' {x.ĩ,λb o a _ e=>x.rest b o a id e,x.exc}
 ·exists T l ts,c w C g CU y;show È (Ş d f c ?_);rw[à (show(Í.ò T !=Í.Ã)=Ä from by simp)];show È (Ş g CU y ?_);rw[ß (show ¬((Í.Ã==ŷ L)=Ä) from by simp[ŷ])];show È (ÀS g CU (o3.mp y).1 ?_);have t:∀b,b≠T->(s.Ì.Às T (w1 (·.ģ 3 Í.Ã))).Ò b=s.Ì.Ò b:=λb a=>w0 _ _ (S4 a);have e7:∀b o,s.Ì.Ò b=À o->(∀vs,o.ë≠ .ü vs)->b≠T:=λb o a z q=>by
   rw[q,g] at a;injection a with a;subst a;show z ts CU
  show dy r (n.Ĩ λb o a z=>{o,(t b (e7 b o a z)).Ð a,Î}) k ((t e (S4 w)).Ð d)
   (λb o B=>(t b λq=>by rw[q,C] at B;show nS B).Ð (p b o B)) v f (o3.mp c).1 λh' x=>h h' {x.ĩ,λb o a ho eb=>x.rest b o a id ((t b λq=>ho (q▸c)).Ð eb),?_}
  obtain⟨G,H,m,I,J,a1,N,GD,O,i,U,V,Y,a9,d8⟩:=x.exc;exists h' G H m I J,x a1 N GD O i U V Y a9 d8;show{G,H,m,I,J,a1,N,GD,O,?_,U,V,Y,a9,λf6 q=>d8 f6 ((t e (S4 w)).Ð q)};show{?_,by have:=i.2;rwa [Zj] at this};by_cases q:m=T
  ·subst q;rw[xz _ g (O3 (J6 CU _))] at i;cases i.1
  ·rw[<-t m q];show i.1
end
section
variable{prog:Ok}{w:World}{A:KB}{E:Value->Shared->Prop}{s:Shared}{env:Env}
variable{nm q:Str}{C N:Addr}{bs bm:List Value}{hdct:Bool}{sn:List Str}{sub:List Value}{ab:Bool}{col:Option Bool}{dd:Option Addr}{k0 k1 k2 k3 k5:Option Value}{newId:String}
def th{e:á}{t:ý}{n:Þ}{b:Ĵ}{u:Â Ĵ}{ă:Pos}{r:Â ExceptHandler}{Q:Flow->Ô->Prop}
  (j:bm.Àm (.Ċ "BaseException")=Ä)
  (h:∀i k:Í->Ô->Prop,è (ć ú w) (A.mark (À (.ò e))) (ŗ t Ü) (λc a=>c= .ò C/\a.Ì.Ò C=À (Ņ nm q C N bs bm hdct sn Ž ab col dd k0 k1 k2 k3 k5 ÁN)/\(∃o,a.Ì.Ò e=À o/\o.ķ= .ò C)/\
   è (ć ú w) (A.mark (À (.ò e))) (setFlight (.ò e) Ã) (λ_ l=>
     è (ć ú w) (A.mark (À (.ò e))) (ÁM Ü n (.ò e)) (λ_ m=>
      è (ć ú w) (A.mark (À (.ò e))) (Ák (b::u) Ü)
       (λf p=>è (ć ú w) A (do bindName Ü n .Ã;unbindBehindTheSuite Ü n ă) (λ_ v=>Q f v) E p)
       k m) i l) i a) i s):
  è (ć ú w) A (handleBy (.ò e) Ü (.ExceptHandler (À t) (À n) (b::u) ă::r)) Q E s:=by
 exists ú w A E s Ü nm q C N bs bm hdct sn Ž ab col dd k0 k1 k2 k3 k5 ÁN e t n b u ă r Q,j h;show wpAny_handleBy_cons (codeAny_handlers_test (ą (h (ĸ (ć ú w) (A.mark (À (.ò e))) Ü (cameBackBy (ć ú w) A Ü E)) (AsSuiteRaised (ć ú w) (A.mark (À (.ò e))) Ü n ă (ĸ (ć ú w) (A.mark (À (.ò e))) Ü (cameBackBy (ć ú w) A Ü E)))) (λc a x=>?_) λ_ _ y=>y)) (by intro q;show vC q);obtain⟨Î,z,⟨o,B,G⟩,H⟩:=x;obtain⟨I,g,d,J,os⟩:=a;show wpAny_excMatches_sub_self z B G j (codeAny_handlers_suite_as H)
end
end
section
def Eu(Bp p2 p a b c d e f g h i j:Pos)(k1 k2 k3 k:Ï):Â Ĵ:=
 [.Try [.Return (À (.Ů [.ğ (.Ý "told") k1 Bp,.Ás (.ċ "work" p2) [] [] p] k2 a)) b]
  [.ExceptHandler (À (.ċ "CasFail" c)) (À "refusal") [.Return (À (.Ů [.ğ (.Ý "refused") k3 d,.Ŋ (.ċ "refusal" e) "kind" f] k g)) h] i] [] [] j]
def E_(m:M D):M D:=⟨λp=>match m.Ĉ p with
 | .ok d p'=>.ok (.Ç [.Ý "told",d]) p'
 | .exc k p'=>.ok (.Ç [.Ý "refused",.Ý k]) p'
 | .Û=>.Û⟩
section
variable{g:Gd}{ρ ρ':Aa}{V pen':AK}
def jc{h L l j:ì}{e1 e2:Env}{L1:á}{m:Â Þ}{N U:á->Prop}(I:Č g ρ V h)(T:h.ã.Ú<=L1)(d7:h.ã.Ú<=e2.æ)
  (k3:∀b o,h.Ò b=À o->L.Ò b=À o)(d8:Ev (g.lam e1 e2 L1 h.ã.Ú m).Z (g.lam e1 e2 L1 h.ã.Ú m).Y L l)(p:Č (g.lam e1 e2 L1 h.ã.Ú m) ρ' Ē l)
  (E:Ev N U l j)(t:∀b,b<h.ã.Ú->¬U b)(A:∀b,N b->(g.lam e1 e2 L1 h.ã.Ú m).Z b)(O:∀b o,l.Ò b=À o->U b->(g.lam e1 e2 L1 h.ã.Ú m).X b\/∃s,o.ë= .ü s/\EY s)(S:g.cx.ÿ.ĭ j):
  Ev g.Z g.Y h j/\Č g ρ Ē j:=by
 have d9:Ev g.Z g.cx.K h j:=by
  intro b o Q q;have v:=g3 Q;have n1:b≠L1:=λz=>absurd v (i8.ĝ (z▸T));have n2:b≠e2.æ:=λz=>absurd v (i8.ĝ (z▸d7));have B:∀{P:Prop},(g.lam e1 e2 L1 h.ã.Ú m).Z b->(g.Z b->P)->P:=λz k=>z.ç k λz=>z.ç (λz=>absurd z n1) λz=>absurd z n2;rcases d8 b o (k3 b o Q) (q.imp (λn w=>w.ç (λw=>w.ç (λw=>n (.Ę w)) n2) λw=>n (.Ġ w)) id) with C|⟨z,y,G,C⟩
  ·rcases E b o C (.Ę (t b v)) with i|⟨z,y,G,i⟩
   ·show .Ę i
   ·show .Ġ {B (A b z) id,y,G,i}
  ·rcases E b _ C (.Ę (t b v)) with i|⟨_,_,e7,i⟩
   ·show .Ġ {B z id,y,G,i}
   ·show .Ġ {B z id,y,e7,i}
 have R:PK g h j (g.lam e1 e2 L1 h.ã.Ú m).X:={d9,λb x=>.Ę x,S,p.ũ.ÁX E (λb q ht u=>ag (I.ũ b q ht).2 λps e _=>t b (g3 e) u) (λb o s e d n u=>(O b o e u).ç (λx=>(n x).ç) λf=>ag f λj4 d' w=>by cases d.symm.Ð d';show w) (λ_ _ _ x=>x) λb q e=>(p.ũ b q e).1};show R.inv (gf:=g.lam e1 e2 L1 h.ã.Ú m) (ÁG:=λ_=>0) I Î ?_;show p.Az.to Î (λP o q a b c ho _=>{E.cH ho (t P ?_) λz=>b (A P z),a,b,c}) λr=>ag r λas r H=>{as,aT E r λx J=>{λu=>?_,λz=>H x J (p.zx x (A x z))},H}
 ·show ba (I.Az.Ĕ q) λo _ _ e _ _=>g3 e
 ·show ag (bJ r x J) λox ex nf=>(O x ox ex u).ç (H x J) λf=>f.ç λs f=>nf s f.1
end
end
section
noncomputable def Án:S1:={Àg:=[],Ū:=[],vararg:=Ã,ÀO:=[],ÂP:=[],kwarg:=Ã,Ál:=[]}
def Ed(p:Pos):S1:={Àg:=[],Ū:=[{arg:="work",annotation:=Ã,ă:=p}],vararg:=Ã,ÀO:=[],ÂP:=[],kwarg:=Ã,Ál:=[]}
inductive RC(cx:Cx)(a:á):Prop
 |mk (p Bp p2 b c d e f g h i j k l k1 k2 k3 m s o n q r) (F:KR cx "_law_told" (Ed p) (Eu Bp p2 b c d e f g h i j k l k1 k2 k3 m) s a o n q r)
  (w:s.î.ö ("work" :Þ)=À .local) (t:s.î.ö ("refusal" :Þ)=À .local) (u:s.î.ö ("CasFail" :Þ)=À .ē)
structure Jh(cx:Cx)(a:á):Prop where
 fn:RC cx a
 ķ:∃C N GG m,Fh cx C N GG m/\cx.exc= .ò C/\cx.mg "CasFail" =À (.ò C)/\m "__getattr__" =Ã
def DX.ë{ÿ:ì}{l:Â Env}{e:á}{d:á->Prop}{c:Í}{h h':ì}(L:DX ÿ l e d c h h'){b:á}{o:Obj}(f:b≠e)(g:¬d b)(i:h.Ò b=À o):∃a,h'.Ò b=À a/\a.ë=o.ë/\a.ķ=o.ķ/\a.ĺ=o.ĺ:=by
 rcases L.rest b o f g i with q|⟨_,s,q⟩
 ·show{o,q,Î,Î,Î}
 ·show{_,q,Î,Î,Î}
section
variable{base:Heap}{l l':List Env}{e:Addr}{old:Addr->Prop}{cls:Value}{h h':Heap}{oe:Obj}{vs:Array Value}
def DX.ff(L:DX ÿ l e old ķ h h')(i:h.Ò e=À oe)(j:oe.ë= .ü vs)(k:∀b,old b->∃T ts,h.Ò b=À T/\T.ë= .ü ts)(F:Nn h ÿ l'):Nn h' ÿ l':=λev v=>by
 show aj (F ev v) λm w=>iE w λA o s n f nb a d=>au (L.ë (b:=A) (o:=o) (λq=>by subst q;rw[i] at a;(have z:=al a;clear a;subst z);rw[j] at d;show dC d) (λq=>by show aD (k A q) λT ts c g=>?_;rw[a] at c;(have z:=al c;clear c;subst z);rw[d] at g;show dC g) a) λp r t _=>?_;show{m,A,p,s,n,f,nb,r,t.Ð d}
def DX.ns(L:DX ÿ l e old ķ h h')(j:h.Ò e=À oe)(k:oe.ë= .ü vs)(n:∀b,old b->∃T ts,h.Ò b=À T/\T.ë= .ü ts){a:á}{m:Þ->Ë Í}(x:h.Ns a m):h'.Ns a m:=bK x λo q=>by
 show ba x ?_;clear x;intro _ t u d f _;rw[q] at d;(have c:=al d;clear d;subst c);show au (L.ë (λz=>by subst z;rw[j] at q;(have c:=al q;clear q;subst c);rw[k] at f;show dC f) (λz=>by show aD (n _ z) λT ts g i=>?_;rw[q] at g;(have c:=al g;clear g;subst c);rw[f] at i;show dC i) q) λp r s _=>?_;show{p,r,s}
def DX.zb(L:DX ÿ l e old ķ h h')(i:h.Ò e=À oe)(j:oe.ë= .ü vs)(k:∀b,old b->∃T ts,h.Ò b=À T/\T.ë= .ü ts)(F:Nn h ÿ l):Ev (λb=>b∈l.Ų (·.Š)) (λb=>b=e\/old b) h h':=by
 exists ÿ l e old ķ h h' oe vs,L i j k F;intro b o a q;exists b o,a q;by_cases m:b=e
 ·subst m;rcases q with q|⟨_,v,n,q⟩
  ·show absurd (.Ę Î) q
  ·rw[i] at a;(have z:=al a;clear a;subst z);rw[j] at q;show dC q
 ·by_cases c:old b
  ·show aD (k b c) λT ts r CU=>?_;rcases q with q|⟨_,v,n,q⟩
   ·show absurd (.Ġ c) q
   ·rw[r] at a;(have z:=al a;clear a;subst z);rw[CU] at q;show dC q
  ·rcases L.rest b o m c a with d|⟨p,s,d⟩
   ·show .Ę d
   ·show ag (J7.mp p) λev t u=>aj (F ev t) λ_ w=>iE w λA B x n f _ g y=>?_;rw[u] at f;(have z:=al f;clear f;subst z);rw[a] at g;(have z:=al g;clear g;subst z);show .Ġ {p,{x,n,y},s,d}
end
section
variable{g:Gd}{ρ:Aa}{V:AK}
def nH{Cj:Þ->Ë D}(TO:Cm g.cx Cj){a f:á}(K:Jh g.cx a){ÂC:Þ}{Ć:ý}{r:Ŗ}{pm cv m5:Í}{of:Obj}{č:Â Ï}{kn:Â Þ}{fb:Aa->M D}{s:Ô}{Q:Í->Ô->Prop}{E:Í->Ô->Prop}
  (I:Č g ρ V s.Ì)(hd:2<=g.d)(hf:s.Ì.Ò f=À of)(w4:of.ë= .func (kla_fn "<lambda>" ÂC Án Ć r (Cp g.Ü r.î []) pm cv m5))(C7:s.Ì.CodeRec cv ÂC)
  (B:BR g r [] č kn)(C8:r.Àh=Å)(C9:r.Ài=Å)
  (hb:∀e1 e2 L1 lo,e2.İ=r->Ak (g.lam e1 e2 L1 lo ([]++kn)) Ć fb)
  (H:Af g ρ (VX g) s ((E_ (fb (AA 0 č ρ))).Ĉ V) Q E):è g.cx.M g.A (ň (.ò a) [.ò f]) Q E s:=by
 exists g ρ V Cj a f ÂC Ć r pm cv m5 of č kn fb s Q E,TO K I hd hf w4 C7 B C8 C9 hb H;obtain⟨p0,Bp,p2,p3,p4,p5,p6,p7,p8,p9,x9,y0,z0,z3,k1,k2,s0,k4,m7,ot,z6,z7,z8,F,hw,hr,D0⟩:=K.fn;show iE K.ķ λC N GG mN KC hC D2 D3=>?_;exists p0 Bp p2 p3 p4 p5 p6 p7 p8 p9 x9 y0 z0 z3 k1 k2 s0 k4 m7 ot z6 z7 z8 C N GG mN,F hw hr D0 KC hC D2 D3;have D4:=I.ű;have t7:=I.ĩ;show Ym (Àl (o:=ot) (fd:=Áb "_law_told" (Ed p0) (Eu Bp p2 p3 p4 p5 p6 p7 p8 p9 x9 y0 z0 z3 k1 k2 s0 k4) m7 z6 z7 z8) (binds:=[("work",.ò f)]) ?_ (t7 a ot F.at_) F.ë ?_ ?_ rfl
  (cw (ÁF:=[.ò f]) rfl Î Î Î Î F.pn Î) rfl ?_ (λI5 X=>?_) F.co F.gen F.ĕ)
 ·change g.A.ű<1000;show ln1 D4
 ·show TO.Âp.ľ λb o e=>t7 b o e
 ·show F.ÁD.ľ λb o e=>t7 b o e
 ·intro x hx;obtain rfl:=am.mp hx;show .Ę hw
 generalize j8:ZY (Áb "_law_told" (Ed p0) (Eu Bp p2 p3 p4 p5 p6 p7 p8 p9 x9 y0 z0 z3 k1 k2 s0 k4) m7 z6 z7 z8) s.Ì.ã.Ú a=Ü at*;exists I5 Ü,j8 X;have eL:Ü.æ=s.Ì.ã.Ú:=by rw[<-j8];rfl
 have I6:Ü.İ=m7:=by rw[<-j8];rfl
 have A0:Ü.Š=À s.Ì.ã.Ú:=by rw[<-j8];rfl
 have I7:Ü.ÀG=jp:=by rw[<-j8];rfl
 have k6:∀x,Ü.ð x=m7.î.ö x:=λx=>by rw[<-j8];rfl
 have k7:Ü.İ.ĕ= .Ĥ:=by rw[I6];show F.ĕ
 have up:=X.ŭ.č;show bB X.ŭ.Âl λO D5 D6=>?_;exists O D5,D6;subst D6;have up:∀b o,s.Ì.Ò b=À o->O.Ò b=À o:=up;have I8:bindL Ü.ð [(("work" :Þ),Í.ò f)] (λ_=>Ã) "work" =À (.ò f):=
  bQ (ns:=[("work" :Þ)]) (vs:=[Í.ò f]) (i:=0) (by simp) rfl Î Î ((k6 "work").Ð hw)
 have t8:O.Ns Ü.æ (bindL Ü.ð [(("work" :Þ),Í.ò f)] λ_=>Ã):=X.ŭ.ns;have t9:∃o u n,O.Ò s.Ì.ã.Ú=À o/\o.ë= .ĺ u n:=by
  show ba t8 ?_;clear t8;intro o u ep e j3 zq;exists o u ep,e j3 zq;show{o,u,_,eL▸e,j3}
 unfold Eu;show Fa ?_;show wC λQ1 A5=>wpAny_Try_except ?_;show oJ λE1 D7=>?_;exists Q1 E1,A5 D7;show Fa (Át (Tuple_ ?_));rw[ak (λ_ _ q=>by cases q),ak (λ_ _ q=>by cases q)];show ŝ (ÁL (ă:=Bp) (k:=k1) (Ü:=Ü) ?_);show ŝ (Call_Name0 (ÀD (ħ k7 ((k6 "work").Ð hw) t8 I8 ?_) (by decide+kernel)));have D8:O.Ò f=À of:=up f of hf;show ÁU (o:=of) (fd:=kla_fn "<lambda>" ÂC Án Ć r (Cp g.Ü r.î []) pm cv m5) (Ân.Rows.evalArgs_none {{D8,w4},?_});show Ym (kla_callFunE (o:=of) (fd:=kla_fn "<lambda>" ÂC Án Ć r (Cp g.Ü r.î []) pm cv m5) (by change g.A.ű+1<1000;show ln1 D4) D8 w4 C8 C9 Î (C7.ľ up) ?_);rw[show bindArgs (kla_fn "<lambda>" ÂC Án Ć r (Cp g.Ü r.î []) pm cv m5) {[]++[],[]}=Ñ [] from rfl];show Õ (wpAny_newFunctionEnv B.Ĭ (λ_ q=>nomatch q) (λh3 D9 A6=>{?_,?_}) B.ĕ)
 ·have k3:∀b o,O.Ò b=À o->h3.Ò b=À o:=λb o e=>A6.ŉ b o (I9 (g3 e)) (a0 _ e);show TO.Âp.ľ λb o e=>k3 b o (up b o (t7 b o e))
 exists h3,D9 A6;have k3:∀b o,O.Ò b=À o->h3.Ò b=À o:=λb o e=>A6.ŉ b o (I9 (g3 e)) (a0 _ e);have A7:∀b o,s.Ì.Ò b=À o->h3.Ò b=À o:=λb o e=>k3 b o (up b o e);have A8:s.Ì.ã.Ú<O.ã.Ú:=by show cG t9 ?_;clear t9;intro o _ _ e _;show g3 e
 have J2:∃o u n,h3.Ò s.Ì.ã.Ú=À o/\o.ë= .ĺ u n:=by show cG t9 ?_;clear t9;intro o u n e j3;show{o,u,n,k3 _ _ e,j3}
 have J:=I.lam (h':=h3) (e1:=Ü) (e2:=newEnv r O.ã.Ú jp (Cp g.Ü r.î []) (ÂC++ ".<locals>.") (À f) cv Ã J5) (L1:=s.Ì.ã.Ú) (ÂC:=ÂC++ ".<locals>.") (f:=f) (cv:=cv) hd B A0 k7 Î (a3 _) (i5 A8) A7 J2 {_,D9};have E0:s.Ì.ã.Ú<=O.ã.Ú:=i5 A8;show kla_codeExpr ?_;show oJ λE4 A9=>?_;exists E4,A9;show(hb Ü _ s.Ì.ã.Ú s.Ì.ã.Ú Î (AA 0 č ρ) V _ _ _ J ?_);generalize B1:newEnv r O.ã.Ú jp (Cp g.Ü r.î []) (ÂC++ ".<locals>.") (À f) cv Ã J5=e2 at*;exists e2,B1 J A9;have u1:e2.æ=O.ã.Ú:=by rw[<-B1];rfl
 have E5:e2.Š=À O.ã.Ú:=by rw[<-B1];rfl
 have H':Af g ρ (VX g) s (match(fb (AA 0 č ρ)).Ĉ V with
  | .ok j3 p'=>.ok (.Ç [.Ý "told",j3]) p'
  | .exc k p'=>.ok (.Ç [.Ý "refused",.Ý k]) p'
  | .Û=>.Û) Q E:=H
 cases hm:(fb (AA 0 č ρ)).Ĉ V with
 |Û=>rw[hm] at H';show H'.ç
 |ok j3 p=>
  rw[hm] at H';intro v l u3 m9 I4 r4;show Tk (Ya ?_);have En:Ev (λ_=>Ī) (λ_=>Ī) l (l.Ŧ {ķ:=.Ċ "tuple",ë:=.Ĕ [Í.Ý "told" D5,v].ó}):=Ev.Ŧ _;show aj (jc (L1:=s.Ì.ã.Ú) I (a3 _) (by rw[u1];show E0) A7 m9 I4 En (λ_ _ q=>q) (λ_ q=>q.ç) (λ_ _ _ q=>q.ç) (λb o e=>a0 _ (I4.ĩ b o e))) λB3 B4=>?_;show A5 _ _ ?_;show H' _ _ _ B3 B4 (VR.dI (IsTup.new _ _) (Am.Æ (VR.Ý _ _) (Am.Æ ?_ Am.å)));show VR.less (VR.ev r4 En (λ_ q=>q.ç) λ_ q=>q.ç) λb o _ x=>.Ę x
 |exc k p=>
  exists k p,hm;rw[hm] at H';intro e l u3 m9 I4 xr;obtain⟨l7,xx,oe,vs,dx,he,E8,j4,E9,F0,⟨md,td,F5,F6⟩,t⟩:=xr;exists e l u3 oe vs dx md td,m9 I4 l7 xx he E8 j4 E9 F0 t F5 F6;have l7:s.Ì.ã.Ú<=e:=l7;have J8:g.cx.P≠À s.Ì.ã.Ú:=λq=>by
   show cG (I.Az.Ĕ q) λo Q5 n G _=>absurd (g3 G) (EQ _)
  show iD I.ŕ λe7 e8 J9 _ _ _ hz=>iD I4.ŕ λK1 K2 K3 _ _ u5 _=>?_;have F7:(g.A.Áx Ü).ŕ=À (Ü::e7::e8):=by change g.A.ŕ.Ö (Ü:: ·)=_;rw[J9];rfl
  have F8:((g.A.Áx Ü).Áx e2).ŕ=À (e2::Ü::e7::e8):=by change(g.A.Áx Ü).ŕ.Ö (e2:: ·)=_;rw[F7];rfl
  have K4:K1::K2=e2::Ü::e7::e8:=(al (F8.symm.Ð K3)).symm;rw[K4] at u5;have K5:Nn l g.cx.ÿ (Ü::e7::e8):=λx hx=>u5 x (.ě _ hx);have j5:∀{b:á},s.Ì.ã.Ú<=b->g.cx.ÿ.Ò b=Ã:=λ{b} h=>by
   cases q:g.cx.ÿ.Ò b with
   |Ã=>rfl
   |À o=>show absurd (g3 (I.ĩ b o q)) (i8.ĝ h)
  have K6:∀b,b∈(e2::Ü::e7::e8).Ų (·.Š)->(g.lam Ü e2 s.Ì.ã.Ú s.Ì.ã.Ú ([]++kn)).Z b:=λb hb=>by
   show ag (J7.mp hb) λev j6 hf=>?_;rcases a5.mp j6 with rfl|j6
   ·show .Ġ (.Ġ (by rw[u1];rw[E5] at hf;show(al hf).symm))
   ·rcases a5.mp j6 with rfl|j6
    ·rw[A0] at hf;show .Ġ (.Ę (al hf).symm)
    ·show .Ę ((hz b).ĝ {ev,j6,hf})
  have B6:∀{T:á},vs[1]? =À (.ò T)->s.Ì.ã.Ú<=T/\(∃L U,l.Ò T=À L/\L.ë= .ü U/\EY U):=λ{T} q=>by
   rcases t with t|⟨T',L,U,t,F9,B7,K7,hT,CU,h3⟩
   ·rw[q] at t;cases t
   ·rw[q] at t;cases t;show{B7,L,U,hT,CU,h3.2}
  have u7:∀b,vs[1]? =À (.ò b)->∃L U,l.Ò b=À L/\L.ë= .ü U:=λb q=>aD (B6 q).2 λL U a w=>{L,U,a,w.1};show A9 _ _ ?_;show iY (ÿ:=g.cx.ÿ) (s:={s with Ì:=l,Ā:=u3}) F8 u5.fun E5 he I4.ĩ (j5 l7) j4 ?_ λh5 L5=>?_
  ·rcases t with t|⟨T,L,U,t,F9,B7,K7,hT,CU,h3⟩
   ·show .Ę t
   ·show .Ġ {T,L,U,t,F9,j5 B7,hT,CU,h3.1}
  have L5:DX g.cx.ÿ (e2::Ü::e7::e8) e (λT=>vs[1]? =À (.ò T)) oe.ķ l h5:=L5;have K8:=L5.zb he j4 u7 u5;have G0:=L5.ff he j4 u7 K5;obtain⟨G1,G3,T5,G5,G6,o0,c5,d5,v5,⟨n5,v0⟩,L0,v4,G7,t5,L4⟩:=L5.exc;have B9:s.Ì.ã.Ú<l.ã.Ú:=g3 (I4.xs s.Ì.ã.Ú (.Ġ (.Ę Î))).ż;have L7:s.Ì.ã.Ú<=T5:=ac (i5 B9) v0;show D7 _ _ ?_;show tg (ÿ:=g.cx.ÿ) (s:={s with Ì:=h5,Ā:=u3}) F7 G0.fun A0 o0 L5.ĩ (j5 l7) d5 (.Ġ {T5,G5,G6,v5,L0,j5 L7,v4,G7,t5.1}) λh6 L6=>?_
  have L6:DX g.cx.ÿ (Ü::e7::e8) e (λT=>G3[1]? =À (.ò T)) G1.ķ h5 h6:=L6;have C0:∀b,G3[1]? =À (.ò b)->∃L U,h5.Ò b=À L/\L.ë= .ü U:=λb q=>by rw[v5] at q;cases q;show{G5,G6,v4,G7}
  have L8:=L6.zb o0 d5 C0 G0;obtain⟨o4,Q7,T6,Q8,Q9,C1,c6,d6,v6,⟨n6,G8⟩,M0,C3,C4,t6,M2⟩:=L6.exc;obtain⟨M3,cq,M5,M6,M7,M8,M9,N0,N1,Ub,N2,N3,N4,G9⟩:=KC.ķ;show th (C:=C) (nm:=M3) (q:=cq) (N:=N) (bs:=M5) (bm:=ES) (hdct:=Ä) (sn:=M6) (Ž:=M7) (ab:=M8) (col:=M9) (dd:=N0) (k0:=N1) (k1:=Ub) (k2:=N2) (k3:=N3) (k5:=N4) (ÁN:="Exception.__new__") (by simp[YK]) λE2 E3=>?_;have N5:l.Ns Ü.æ (bindL Ü.ð [(("work" :Þ),Í.ò f)] λ_=>Ã):=by
   show bK (bK t8 λo e=>{o,k3 _ _ e,Î}) λo e=>?_;rw[eL] at e⊢;show au (m9.ë e (λy=>by
    rcases y with(y|y)|⟨q,y⟩
    ·show J8 y
    ·have y:s.Ì.ã.Ú=e2.æ:=y;rw[u1] at y;show I9 A8 y
    ·show ag (I.ũ _ q y).2 λ_ z _=>EQ _ (g3 z))) λo' e' d' _=>?_
   show{o',e',d'}
  have l9:=L6.ns o0 d5 C0 (L5.ns he j4 u7 N5);have N9:=L6.ns o0 d5 C0 (L5.ns he j4 u7 F5);show ŀ k7 ((k6 "CasFail").Ð D0) (Ŭ (by rw[I7];show TO.g.ľ λb o q=>L6.ĩ b o q) D2 ?_) (by decide+kernel);have H0:o4.ķ= .ò C:=c6.Ð (c5.Ð (E8.Ð hC));show{Î,L6.ĩ _ _ G9,{o4,C1,H0},?_};show ř.wpAny_setFlight_none C1 d6 v6 C3 C4 (o3.mp t6.1).1 ?_;have O0:s.Ì.ã.Ú<=T6:=ac (i5 B9) (ac (by
   show cG l9 ?_;clear l9;intro _ u ep q4 _;show i5 (i9 v0 (g3 v4))) G8)
  have o5:∀b,b≠T6->(h6.Às T6 (w1 (·.ģ 3 Í.Ã))).Ò b=h6.Ò b:=λb hb=>w0 _ _ (S4 hb);have O1:∀{b:á} {o:Obj},h6.Ò b=À o->(∀fs,o.ë≠ .ü fs)->b≠T6:=λj nf z=>by subst z;rw[C3] at j;(have Y:=al j;clear j;subst Y);show nf _ C4
  generalize R3:h6.Às T6 (w1 (·.ģ 3 Í.Ã))=h7 at o5;have C5:∀{a:á} {m:Þ->Ë Í},h6.Ns a m->h7.Ns a m:=λx=>bK x λo q=>by
   show ba x ?_;clear x;intro _ u ep G dq _;rw[q] at G;(have Y:=al G;clear G;subst Y);show{o,(o5 _ (O1 q λfs z=>by rw[dq] at z;show dC z)).Ð q,Î}
  have H4:h7.Ò e=À o4:=(o5 e (S4 M0)).Ð C1;have S7:g.cx.ÿ.ĭ h7:=λb o q=>(o5 b λz=>by rw[z,j5 O0] at q;show nS q).Ð (L6.ĩ b o q);show ţ ((k6 "refusal").Ð hr) (C5 l9) (λh8 v8 v9=>?_) (by rw[k7];rfl);have O2:∀{b:á} {o:Obj},h7.Ò b=À o->(∀u n,o.ë≠ .ĺ u n)->b≠Ü.æ:=λj nd z=>by
   show ba (C5 l9) λ_ u ep G dq _=>?_;subst z;rw[j] at G;(have Y:=al G;clear G;subst Y);show nd _ _ dq
  have O4:h8.Ò e=À o4:=(v9.2 e (O2 H4 λu n q=>by rw[d6] at q;show dC q)).Ð H4;have O5:dx≠Ü.æ:=λz=>F0 (.Ġ (.Ę (z.Ð eL)));have O6:h8.Ns dx md:=(C5 N9).Áe v9 O5;have O7:o4.ĺ=À dx:=(M2 G1 o0).Ð ((L4 oe he).Ð E9);have S8:g.cx.ÿ.ĭ h8:=λb o q=>(v9.2 b λz=>by rw[z,eL,j5 (a3 _)] at q;show nS q).Ð (S7 b o q);show Fa (Át (Tuple_ ?_));rw[ak (λ_ _ q=>by cases q),ak (λ_ _ q=>by cases q)];show ŝ (ÁL (ă:=p7) (k:=s0) (Ü:=Ü) ?_);show ŝ (Attribute_name (ÀD (ħ k7 ((k6 "refusal").Ð hr) v8 (à Î) ?_) (by decide+kernel)));show lK (B:="Exception") ř.F.attrBase_Exception (S8 _ _ G9) (KC.ns.ľ S8) KC.T_ D3 KC.Om lL O4 H0 (λc q=>by rw[d6] at q;show dC q) O7 O6 F6 Î ?_;show Tk (Ya ?_);show ř.wpAny_nameGoes ((k6 "refusal").Ð hr) (v8.ľ λb o q=>a0 _ q) (by rw[k7];rfl) λH7 R4 R5 H8=>?_;have O8:h8.ã.Ú≠Ü.æ:=λz=>by
   show cG v8 ?_;clear v8;intro _ u ep G _;show EQ _ (z▸g3 G)
  have O9:=(H8.2 h8.ã.Ú O8).Ð (f1 _ Î);have H9:∀b o,b≠Ü.æ->h7.Ò b=À o->H7.Ò b=À o:=λb o hb q=>(H8.2 b hb).Ð (a0 _ ((v9.2 b hb).Ð q));have P4:Ev (λb=>b∈(e2::Ü::e7::e8).Ų (·.Š)) (λb=>b=e\/vs[1]? =À (.ò b)\/b=s.Ì.ã.Ú\/l.ã.Ú<=b) l H7:=by
   have E6:Ev (λb=>b∈(e2::Ü::e7::e8).Ų (·.Š)) (λb=>b=e\/vs[1]? =À (.ò b)\/b=s.Ì.ã.Ú\/l.ã.Ú<=b) l h6:=
    (K8.mono (λ_ _ _ z=>z) λb _ _ y=>y.ç .Ę λy=>.Ġ (.Ę y)).Ð (L8.mono (λb _ _ z=>by
     show ag (J7.mp z) λev j6 hf=>J7.ĝ {ev,.ě _ j6,hf}) λb _ _ y=>y.ç .Ę λy=>.Ġ (.Ġ (.Ġ (by rw[v5] at y;cases y;show v0))))
   show E6.Ð λb o j q=>.Ę ?_;have P6:b≠T6:=λz=>by
    subst z;rcases q with q|⟨_,v',n,q⟩
    ·show q (.Ġ (.Ġ (.Ġ (ac (i5 (i9 v0 (g3 v4))) G8))))
    ·rw[C3] at j;(have Y:=al j;clear j;subst Y);rw[C4] at q;show dC q
   show H9 b o (λz=>?_) ((o5 b P6).Ð j);rcases q with q|⟨_,v',n,q⟩
   ·show q (.Ġ (.Ġ (.Ę (z.Ð eL))))
   ·show ba l9 ?_;clear l9;intro _ u ep G dq _;subst z;rw[j] at G;(have Y:=al G;clear G;subst Y);rw[dq] at q;show dC q
  have hU:∀b,b<s.Ì.ã.Ú->¬(b=e\/vs[1]? =À (.ò b)\/b=s.Ì.ã.Ú\/l.ã.Ú<=b):=by
   rintro b lt (z|z|z|z)
   ·show absurd lt (i8.ĝ (z▸l7))
   ·show absurd lt (i8.ĝ (B6 z).1)
   ·show absurd lt (i8.ĝ (lm z.symm))
   ·show absurd lt (i8.ĝ (ac (i5 B9) z))
  have P9:∀b o,l.Ò b=À o->(b=e\/vs[1]? =À (.ò b)\/b=s.Ì.ã.Ú\/l.ã.Ú<=b)->(g.lam Ü e2 s.Ì.ã.Ú s.Ì.ã.Ú ([]++kn)).X b\/∃fs,o.ë= .ü fs/\EY fs:=by
   rintro b o j (z|z|z|z)
   ·subst z;rw[he] at j;(have Y:=al j;clear j;subst Y);show .Ġ {_,j4,by rcases t with t|⟨_,_,_,t,_⟩<;>show bz t nofun}
   ·show aj (B6 z) λ_ Q0=>aD Q0 λL U q1 q2=>?_;rw[q1] at j;(have Y:=al j;clear j;subst Y);show .Ġ {_,q2}
   ·show .Ę (.Ġ (.Ę z))
   ·show absurd (g3 j) (i8.ĝ z)
  show aj (jc (L1:=s.Ì.ã.Ú) I (a3 _) (by rw[u1];show E0) A7 m9 I4 P4 hU K6 P9 λb o q=>H9 b o (λz=>by rw[z,eL,j5 (a3 _)] at q;show nS q) (S7 b o q)) λB3 B4=>A5 _ _ ?_;show H' _ _ _ B3 B4 (VR.dI {_,O9,Î,_,Î} (Am.Æ (VR.Ý _ _) (Am.Æ (VR.Ý _ _) Am.å)))
end
end
section
section
variable{g:Gd}
def qQ{Cj:Þ->Ë D}(T:Cm g.cx Cj)(b:BMain g.cx){a:á}(K:Jh g.cx a){np l ă:Pos}{c P:á}{Ć:ý}{p:Ŗ}{č:Â Ï}{k:Â Þ}{fb:Aa->M D}
  (h:g.Ü.ÁD= .ò c)(C:CodeHd g.cx.ÿ c P)(e:g.cx.tab P=À (g.Ü.ÂC++ "<lambda>"))(i:2<=g.d)(B:BR g p [] č k)(j:p.Àh=Å)(n:p.Ài=Å)
  (m:∀e1 e2 L1 lo,e2.İ=p->Ak (g.lam e1 e2 L1 lo ([]++k)) Ć fb)(hk:g.Ü.ð "_law_told" =À .ē):
  Ak g (.Ás (.ċ "_law_told" np) [.Lambda Án Ć p l] [] ă) (λρ=>E_ (fb (AA 0 č ρ))):=λρ f8 s Q E I H=>by
 have q:=K;obtain⟨r,Bp,p2,t,u,v,w,x,y,z,A,G,J,N,O,U,V,Y,d7,ot,d9,e7,e8,F,hw,hr,j4⟩:=K.fn;show Call_Name Î (ŀ I.ĕ hk (Ŭ (I.ns T).1 F.mg ?_) (by decide+kernel));show ÁU (o:=ot) (fd:=Áb "_law_told" (Ed r) (Eu Bp p2 t u v w x y z A G J N O U V Y) d7 d9 e7 e8) ?_;show L3 (ŝ (tf (ô:=Án) T b I Î h C e (B.za I) λf h1 tk cv pm j9 L=>?_));show Tk {{L.ĩ _ _ F.at_,F.ë},?_};show au L.at_ λof hf _ f6=>aj (L.inv I) λe1 I1=>nH T q I1 i hf f6 L.ÁD B j n m (H.later e1)
end
end
section
mutual
inductive XE where
 |stuck
 |none
 |bool(b:Bool)
 |int(i:Int)
 |str(s:Str)
 |var(i:Nat)
 |glob(x:Str)
 |bin(op:DO)(a b:XE)
 |neg(a:XE)
 |not(a:XE)
 |cmp(op:Fd)(a b:XE)
 |isNone(a:XE)(y:Bool)
 |JD(a b:XE)
 |PN(a:XE)(i:Nat)
 |and(l:EL)
 |or(l:EL)
 |ite(c a b:XE)
 |tup(l:EL)
 |list(l:EL)
 |idx(a:XO)(i:XE)
 |My(i:Nat)(k:XE)
 |Ec(i k:Nat)
 |rank(i:XE)
 |KU(a:XO)(n:XE)
 |Bn(a:XO)(n:XE)
 |rev(a:XO)
 |rep(a n:XE)
 |call(f:Str)(l:GH)
 |IP(b:Bi)(a:XO)
 |PO(b:Bi)(a c:XE)
 |JE(i:Nat)
 |Mz(i:Nat)
 |MA(i:Nat)(k d:XE)
 |comp(e:XE)(t:List Str)(keep:List Nat)(g:Tg)(it:XI)
 |Fv(e:XE)(t:List Str)(keep:List Nat)(g:Tg)(it:XI)(c:XE)
 |JF(e:XE)(t:List Str)(keep:List Nat)(h:Nat)(j:XI)(m:Nat)(o:XI)
 |ED(k:XE)(t:List Str)(keep:List Nat)(p:Nat)(it:XI)(c:XE)
 |told(keep:List Nat)(f:Str)(l:GH)
inductive EL where
 |nil
 |cons(e:XE)(l:EL)
inductive XO where
 |var(i:Nat)
 |ex(e:XE)
inductive XA where
 |var(i:Nat)
 |ex(e:XE)
inductive GH where
 |nil
 |cons(e:XA)(l:GH)
inductive XI where
 |seq(e:XE)
 |range(e:XE)
 |enum(e:XE)
 |items(i:Nat)
end
inductive XH where
 |ê(e:XE)
 |É(l:EL)
 |rep(x n:XE)
 |copy(e:XO)
 |sd
 |td
mutual
inductive XS where
 |stuck
 |Bk(i:Nat)(e:XE)
 |EE(l:EX)(e:XE)
 |hold(i:Nat)(h:XH)
 |par(r:Bool)(l:List XH)(s:List Nat)
 |Hu(i:Nat)(k e:XE)
 |Gg(i:Nat)(k e:XE)
 |Gh(i:Nat)(k e:XE)
 |Hv(i k:Nat)(e:XE)
 |aug(i:Nat)(op:DO)(e:XE)
 |append(i:Nat)(e:XE)
 |extend(i:Nat)(e:XE)
 |IA(y i:Nat)
 |KV(y i:Nat)(k d:XE)
 |drop(e:XE)
 |ret(e:XE)
 |ite(c:XE)(a b:Bc)
 |while(c:XE)(b:Bc)
 |for(g:Tg)(it:XI)(b:Bc)
 |raise(k t:XE)
inductive Bc where
 |nil
 |cons(s:XS)(l:Bc)
 |freeze(i:Nat)(l:Bc)
end
abbrev Vj:=(Aa->M é)->(Aa->M (Aa×Ë D))->Aa->M (Aa×Ë D)
structure Cz where
 Cj:Þ->Ë D
 DT:Þ->Ë ä
 F:Þ->Â Ą->M D
 wh:Vj
 G:Ë (Þ->Â Ą->M D)
instance:í XE:={.Û}
instance:í EL:={.å}
instance:í XO:={.Đ 0}
instance:í XA:={.Đ 0}
instance:í GH:={.å}
instance:í XI:={.items 0}
instance:í XH:={.sd}
instance:í XS:={.Û}
instance:í Bc:={.å}
instance:í Cz:={{λ_=>Ã,λ_=>Ã,λ_ _=>M.Û,λ_ _ _=>M.Û,Ã}}
def KW(i:Ï)(ρ:Aa):M Ą:=match ρ.ĵ i with
 |À .Az=>Ñ .Az
 |À (.ê d)=>Ñ (.ê d)
 |_=>M.Û
mutual
noncomputable def XE.ev(w:Cz):XE->Aa->M D
 | .stuck=>λ_=>M.stuck
 | .none=>λ_=>pure .none
 | .bool b=>λ_=>pure (.bool b)
 | .int i=>λ_=>pure (.int i)
 | .str s=>λ_=>pure (.str s)
 | .var i=>Js i
 | .glob x=>λ_=>Jt w.Cj x
 | .bin op a b=>λρ=>a.ev w ρ>>= λx=>b.ev w ρ>>= λy=>Fe op x y
 | .neg a=>λρ=>a.ev w ρ>>=Oe
 | .not a=>λρ=>a.ev w ρ>>=Aw>>= λb=>pure (.bool (!b))
 | .cmp op a b=>λρ=>a.ev w ρ>>= λx=>b.ev w ρ>>= λy=>B_ op x y
 | .isNone a m=>λρ=>a.ev w ρ>>= λx=>pure (.bool (CW x==m))
 | .JD a b=>λρ=>a.ev w ρ>>= λx=>b.ev w ρ>>= λy=>Gw x y
 | .PN a i=>Iz i (a.ev w)
 | .and l=>λρ=>Ew .And ((l.ev w).map λf=>f ρ)>>=Gb
 | .or l=>λρ=>Ew .Or ((l.ev w).map λf=>f ρ)>>=Gb
 | .ite c a b=>λρ=>c.ev w ρ>>=Aw>>= λt=>if t then a.ev w ρ else b.ev w ρ
 | .tup l=>λρ=>Di ((l.ev w).map λf=>f ρ)>>=Mq
 | .list l=>λρ=>Di ((l.ev w).map λf=>f ρ)>>=EZ
 | .idx a i=>λρ=>a.ev w ρ>>= λx=>i.ev w ρ>>= λy=>Jp x y
 | .My i k=>λρ=>DC i ρ>>= λv=>k.ev w ρ>>= λx=>Jz v x
 | .Ec i k=>LK i k
 | .rank i=>λρ=>i.ev w ρ>>=Ia w.DT
 | .KU a n=>λρ=>a.ev w ρ>>= λx=>n.ev w ρ>>= λy=>HU x y
 | .Bn a n=>λρ=>a.ev w ρ>>= λx=>n.ev w ρ>>= λy=>LD x y
 | .rev a=>λρ=>a.ev w ρ>>= λx=>Mm x
 | .rep a n=>λρ=>a.ev w ρ>>= λx=>n.ev w ρ>>= λy=>Od x y
 | .call f l=>λρ=>CF ((l.ev w).map λf=>f ρ)>>= λh=>w.F f h
 | .IP b a=>λρ=>a.ev w ρ>>= λx=>Kx b [x]
 | .PO b a c=>λρ=>a.ev w ρ>>= λx=>c.ev w ρ>>= λy=>Kx b [x,y]
 | .JE i=>LJ i
 | .Mz i=>Nv i
 | .MA i k d=>EB i (k.ev w) (d.ev w)
 | .comp g e keep j it=>λρ=>it.ev w ρ>>= λds=>CJ (g.ev w) Option.none j ds (AA e.length keep ρ)
 | .Fv g e keep j it c=>λρ=>it.ev w ρ>>= λds=>CJ (g.ev w) (some (c.ev w)) j ds (AA e.length keep ρ)
 | .JF g e keep o p q r=>λρ=>p.ev w ρ>>= λds=>Ey (LL (r.ev w) (g.ev w) o q) ds (AA e.length keep ρ)
 | .ED k e keep u it c=>λρ=>(it.ev w ρ>>= λds=>Ey (Mx (k.ev w) (c.ev w) u) ds (AA e.length keep ρ))>>=GX
 | .told keep f l=>λρ=>w.G.elim M.stuck λF=>E_ (CF ((l.ev w).map λf=>f (AA 0 keep ρ))>>= λh=>F f h)
noncomputable def EL.ev(w:Cz):EL->List (Aa->M D)
 | .nil=>[]
 | .cons e l=>e.ev w::l.ev w
noncomputable def XO.ev(w:Cz):XO->Aa->M D
 | .var i=>KQ i
 | .ex e=>e.ev w
noncomputable def XA.ev(w:Cz):XA->Aa->M Slot
 | .var i=>KW i
 | .ex e=>λρ=>e.ev w ρ>>=Ju
noncomputable def GH.ev(w:Cz):GH->List (Aa->M Slot)
 | .nil=>[]
 | .cons e l=>e.ev w::l.ev w
noncomputable def XI.ev(w:Cz):XI->Aa->M (List D)
 | .seq e=>PG (e.ev w)
 | .range e=>LG (e.ev w)
 | .enum e=>Nt (e.ev w)
 | .items i=>JA i
end
def XI.PR:XI->Ë Ï
 | .items i=>À i
 |_=>Ã
noncomputable def XH.ev(w:Cz):XH->Aa->M Ą
 | .ê e=>λρ=>e.ev w ρ>>=Ju
 | .É l=>λρ=>Di ((l.ev w).Ö λf=>f ρ)>>= λds=>EZ ds>>=Mr
 | .rep x n=>λρ=>x.ev w ρ>>= λa=>n.ev w ρ>>= λb=>Oi a b
 | .copy e=>λρ=>e.ev w ρ>>=LH
 | .sd=>λ_=>Ñ (.sd [])
 | .td=>λ_=>Ñ (.td [])
mutual
noncomputable def XS.ex(w:Cz):XS->Aa->M (Aa×Option D)
 | .stuck=>λ_=>M.stuck
 | .Bk i e=>Ho (e.ev w) (.name i)
 | .EE l e=>Ho (e.ev w) (.tup l)
 | .hold i h=>Jv (h.ev w) i
 | .par r l s=>Ol r (l.map λh=>h.ev w) s
 | .Hu i k e=>Jx i (k.ev w) (e.ev w)
 | .Gg i k e=>DY i (k.ev w) (e.ev w)
 | .Gh i k e=>H_ i (k.ev w) (e.ev w)
 | .Hv i k e=>Mw i k (e.ev w)
 | .aug i op e=>PJ i op (e.ev w)
 | .append i e=>Jw i (e.ev w)
 | .extend i e=>Jy i (e.ev w)
 | .IA y i=>PI y i
 | .KV y i k d=>GW y i (k.ev w) (d.ev w)
 | .drop e=>Nw (e.ev w)
 | .ret e=>λρ=>e.ev w ρ>>= λd=>pure (ρ,some d)
 | .ite c a b=>λρ=>(c.ev w ρ>>=Aw)>>= λt=>if t then a.ex w ρ else b.ex w ρ
 | .while c b=>Ry w.wh (c.ev w) (b.ex w)
 | .for g it b=>Ms (it.ev w) it.PR g (b.ex w)
 | .raise k t=>Jg (k.ev w) (t.ev w)
noncomputable def Bc.ex(w:Cz):Bc->Aa->M (Aa×Option D)
 | .nil=>λρ=>pure (ρ,none)
 | .cons s l=>Gf (s.ex w) (l.ex w)
 | .freeze i l=>λρ=>Hq i ρ>>=l.ex w
end
end
section
structure Ck where
 ĕ:Þ->Ë R6
 nm:Â Þ
 AG:Þ->Ë Ï
 tl:é
instance:í Ck:={{λ_=>Ã,[],λ_=>Ã,Å}}
noncomputable def Ck.Ĺ(c:Ck)(s:Ŗ)(nm:Â Þ):Ck:={λx=>(s.î.ö x).Ö λk=>if(k== .ÁT&&c.ĕ x==À .Ĭ)=Ä then .Ĭ else k,nm,c.AG,Å}
structure CB(cx:Cx)(d:Ï)(AG:Þ->Ë Ï)(c:Ck)(g:Gd):Prop where
 cx:g.cx=cx
 ĕ:∀x,g.Ü.ð x=c.ĕ x
 fn:g.Ü.İ.ĕ= .Ĥ
 nm:g.nm=c.nm
 AG:∀f n,c.AG f=À n->AG f=À n/\g.d=d
 ÁD:c.tl=Ä->g.d=d/\∃c P,g.Ü.ÁD= .ò c/\CodeHd g.cx.ÿ c P/\g.cx.tab P=À (g.Ü.ÂC++ "<lambda>")
def DK:Â Þ:=["len","abs","max","min","list","tuple","sum","range","enumerate","sorted","Exception"]
def PS(cx:Cx)(AG:Þ->Ë Ï)(d:Ï)(F:Þ->Â Ą->M D):Prop:=∀f n,AG f=À n->∃a o fd,cx.mg f=À (.ò a)/\cx.ÿ.Ò a=À o/\o.ë= .func fd/\∀g,g.cx=cx->g.d=d->Tj g a n (F f)
structure BI(cx:Cx)(w:Cz)(d:Ï)(AG:Þ->Ë Ï):Prop where
 top:Cm cx w.Cj
 rank:∃a,LI cx "RANKS" a w.DT
 sys:∃o,cx.ÿ.Ò Da=À o
 ķ:∃C N GG m,Fh cx C N GG m/\cx.exc= .ò C/\cx.mg "CasFail" =À (.ò C)
 blt:∀x∈DK,cx.mg x=Ã
 Ág:BMain cx/\∃a,Jh cx a
 fns:PS cx AG d w.F
 Ž:∀F,w.G=À F->2<=d/\PS cx AG (d -2) F
def KX(t:é)(g:Gd)(e:ý)(f:Aa->M D):Prop:=match t with
 |Ä=>DV g e f
 |Å=>Ak g e f
def KX.of{g:Gd}{t:é}{e:ý}{f:Aa->M D}(h:Ak g e f)(a:∀w,ÂK e g.Ü w=(do let v<-w;Âo e.ă;holding [v] (truthy v))):KX t g e f:=by
 cases t using ci with
 |Ä=>show h.test a
 |Å=>show h
def hG{g:Gd}{t:é}{e:ý}:KX t g e (λ_=>M.Û):=by
 cases t using ci with
 |Ä=>show λa p s w Q E I H=>H.ç
 |Å=>show λa p s Q E I H=>H.ç
def FI(c:Ck)(i:Ï)(x:Þ):é:=decide (c.nm[i]? =À x)
def OV(x:Þ):é:= !(x==("__debug__" :Þ))
def Gi(c:Ck)(x:Þ):é:=decide (c.ĕ x=À .ē)&&OV x
def Ww:ý->Ï×Ï×Ŗ×Â ý
 | .BoolOp _ e _| .Â e _=>(0,0,Ķ,e)
 | .Ů e k _=>(6,k,Ķ,e)
 | .ÂY l _ r _=>(0,0,Ķ,[l,r])
 | .Ád _ x _| .Ŋ x _ _=>(0,0,Ķ,[x])
 | .IfExp x y z _=>(0,0,Ķ,[x,y,z])
 | .Į x d s _=>(1,0,s,x::d.ĥ λg=>g.target::g.Ļ::g.ifs)
 | .DictComp k v d s _=>(2,0,s,k::v::d.ĥ λg=>g.target::g.Ļ::g.ifs)
 | .Áq l _ h _=>(0,0,Ķ,l::h)
 | .Ás f e _ _=>(0,0,Ķ,f::e)
 | .ń v s _=>(0,0,Ķ,[v,s])
 | .Slice a b c _=>(4,0,Ķ,a.Ħ++b.Ħ++c.Ħ)
 | .ğ _ k _=>(0,k,Ķ,[])
 | .Lambda _ b s _=>(0,0,s,[b])
 | .SetComp .. =>(2,0,Ķ,[])
 | .ņ .. =>(3,0,Ķ,[])
 | .Set .. =>(5,0,Ķ,[])
 | .ċ .. =>(7,0,Ķ,[])
 |_=>(0,0,Ķ,[])
abbrev tag(e:ý):Ï:=(Ww e).1
abbrev kk(e:ý):Ï:=(Ww e).2.1
abbrev GY(e:ý):Ŗ:=(Ww e).2.2.1
abbrev kids(e:ý):Â ý:=(Ww e).2.2.2
abbrev Ji(e:ý):é:=tag e==1||tag e==2
abbrev Áo(e:ý):é:=tag e==3
abbrev isSlice(e:ý):é:=tag e==4
abbrev isSet(e:ý):é:=tag e==5
def dp{v:ý}{t:Ë ý}{l:Ï}{Ü:Env}(h:(!Ji v)=Ä):K0 v t l Ü=Ñ Å:=by
 induction v using No<;>first|rfl|show fT h
def aF{e:ý}(h:(!Áo e)=Ä):∀y q,e≠ .ņ y q:=by
 rintro y q Î;show fT h
def fF{e:ý}(h:(!isSlice e)=Ä):∀o i,ÀL e Å o i=ZP [o,i] (Ár o i):=by
 intro o i;induction e using No<;>first|rfl|show fT h
def cU{e:ý}{Ü:Env}(h:(!isSet e)=Ä):∀x,ı e Ü x=Ñ x:=by
 intro x;induction e using No<;>first|rfl|show fT h
def jW{x:Þ}(h:OV x=Ä):(x==("__debug__" :Þ))=Å:=
 wP _|>.mp h
def bj{cx:Cx}{d:Ï}{AG}{c:Ck}{g:Gd}(G:CB cx d AG c g){i:Ï}{x:Þ}(h:FI c i x=Ä):g.nm[i]? =À x:=by
 rw[G.nm];show Ø h
def aX{cx:Cx}{d:Ï}{AG}{c:Ck}{g:Gd}(G:CB cx d AG c g){x:Þ}(h:Gi c x=Ä):g.Ü.ð x=À .ē/\(x==("__debug__" :Þ))=Å:=by
 unfold Gi at h;rw[KF] at h;show{(G.ĕ x).Ð (Ø h.1),jW h.2}
def Ck.aE{cx:Cx}{d:Ï}{AG}{c:Ck}{g:Gd}{i:Ï}(G:CB cx d AG c g)(h:(FI c i (c.nm[i]?.ø "")&&OV (c.nm[i]?.ø ""))=Ä):g.nm[i]? =À (c.nm[i]?.ø "")/\(c.nm[i]?.ø "" ==("__debug__" :Þ))=Å:={bj G (im.mp h).1,jW (im.mp h).2}
def bF{cx:Cx}{d:Ï}{AG}{c:Ck}{g:Gd}(G:CB cx d AG c g){x:Þ}{k:R6}(h:decide (c.ĕ x=À k)=Ä):g.Ü.ð x=À k:=(G.ĕ x).Ð (Ø h)
def Ah(i:Ï)(e:ý):ý:=(kids e)[i]?.ø e
noncomputable def Ck.at(c:Ck)(i:Ï):Þ:=c.nm[i]?.ø ""
def Ck.EM(c:Ck)(i:Ï)(e:ý):ý:=.ċ (c.at i) e.ă
noncomputable def Ck.ok(c:Ck)(i:Ï):é:=FI c i (c.at i)&&OV (c.at i)
def Bp{α a:Type}(f:α->a)(x:α×é):a×é:=(f x.1,x.2)
def CK{α a b:Type}(f:α->a->b)(x:α×é)(y:a×é):b×é:=(f x.1 y.1,x.2&&y.2)
noncomputable def px{α:Type}(b:é)(x:α×é):α×é:=(x.1,b&&x.2)
section
variable{a b c d e f g h i j k l m:Bool}{G:Prop}
def b2(q:(a&&b)=Ä)(r:a=Ä->b=Ä->G):G:=r (im.mp q).1 (im.mp q).2
def b3(q:(a&&b&&c)=Ä)(r:a=Ä->b=Ä->c=Ä->G):G:=b2 q λx z=>b2 x λa b=>r a b z
def b4(q:(a&&b&&c&&d)=Ä)(r:a=Ä->b=Ä->c=Ä->d=Ä->G):G:=b2 q λx z=>b3 x λa b c=>r a b c z
def b5(q:(a&&b&&c&&d&&e)=Ä)(r:a=Ä->b=Ä->c=Ä->d=Ä->e=Ä->G):G:=b2 q λx z=>b4 x λa b c d=>r a b c d z
def b6(q:(a&&b&&c&&d&&e&&f)=Ä)(r:a=Ä->b=Ä->c=Ä->d=Ä->e=Ä->f=Ä->G):G:=b2 q λx z=>b5 x λa b c d e=>r a b c d e z
def b7(q:(a&&b&&c&&d&&e&&f&&g)=Ä)(r:a=Ä->b=Ä->c=Ä->d=Ä->e=Ä->f=Ä->g=Ä->G):G:=b2 q λx z=>b6 x λa b c d e f=>r a b c d e f z
def b8(q:(a&&b&&c&&d&&e&&f&&g&&h)=Ä)(r:a=Ä->b=Ä->c=Ä->d=Ä->e=Ä->f=Ä->g=Ä->h=Ä->G):G:=b2 q λx z=>b7 x λa b c d e f g=>r a b c d e f g z
def b9(q:(a&&b&&c&&d&&e&&f&&g&&h&&i)=Ä)(r:a=Ä->b=Ä->c=Ä->d=Ä->e=Ä->f=Ä->g=Ä->h=Ä->i=Ä->G):G:=b2 q λx z=>b8 x λa b c d e f g h=>r a b c d e f g h z
def wy(q:(a&&b&&c&&d&&e&&f&&g&&h&&i&&j)=Ä)(r:a=Ä->b=Ä->c=Ä->d=Ä->e=Ä->f=Ä->g=Ä->h=Ä->i=Ä->j=Ä->G):G:=b2 q λx z=>b9 x λa b c d e f g h i=>r a b c d e f g h i z
def b11(q:(a&&b&&c&&d&&e&&f&&g&&h&&i&&j&&k)=Ä)(r:a=Ä->b=Ä->c=Ä->d=Ä->e=Ä->f=Ä->g=Ä->h=Ä->i=Ä->j=Ä->k=Ä->G):G:=b2 q λx z=>wy x λa b c d e f g h i j=>r a b c d e f g h i j z
def b12(q:(a&&b&&c&&d&&e&&f&&g&&h&&i&&j&&k&&l)=Ä)(r:a=Ä->b=Ä->c=Ä->d=Ä->e=Ä->f=Ä->g=Ä->h=Ä->i=Ä->j=Ä->k=Ä->l=Ä->G):G:=b2 q λx z=>b11 x λa b c d e f g h i j k=>r a b c d e f g h i j k z
def b13(q:(a&&b&&c&&d&&e&&f&&g&&h&&i&&j&&k&&l&&m)=Ä)(r:a=Ä->b=Ä->c=Ä->d=Ä->e=Ä->f=Ä->g=Ä->h=Ä->i=Ä->j=Ä->k=Ä->l=Ä->m=Ä->G):G:=b2 q λx z=>b12 x λa b c d e f g h i j k l=>r a b c d e f g h i j k l z
end
def ax{a b:é}(h:(a&&b)=Ä):a=Ä/\b=Ä:=im.mp h
def nI{x:Þ}(h:(!(x==("__classdict__" :Þ)))=Ä):(x==("__classdict__" :Þ))=Å:=wP _|>.mp h
mutual
noncomputable def Tg.AL(c:Ck)(s:Bool):Tg->Expr->Expr×Bool
 | .name i,e=>(c.EM i e,FI c i (c.at i)&&(decide (c.kind (c.at i)=some .local)||(s&&decide (c.kind (c.at i)=some .cell)&& !(c.at i==("__classdict__" :Str)))))
 | .tup l,e=>Bp (.Tuple · (kk e) e.pos) (l.AL c s (kids e))
noncomputable def EX.AL(c:Ck)(e:Bool):EX->List Expr->List Expr×Bool
 | .nil,_=>([],true)
 | .cons t l,s=>CK .cons (t.AL c e (s.headD (.Constant .none 0 default))) (l.AL c e s.tail)
end
section
variable{cx:Cx}{d:Nat}{AG:Str->Option Nat}{c:Ck}{g:Gd}{U:Addr->Prop}
def wD(G:CB cx d AG c g){x:Þ}{b:é}(h:(decide (c.ĕ x=À .local)||(b&&decide (c.ĕ x=À .Ĭ)&& !(x==("__classdict__" :Þ))))=Ä):g.Ü.ð x=À .local\/(b=Ä/\g.Ü.ð x=À .Ĭ/\(x==("__classdict__" :Þ))=Å):=
 (g4.mp h).imp (bF G) λq=>{(ax (ax q).1).1,bF G (ax (ax q).1).2,nI (ax q).2}
def Tg.bA(G:CB cx d AG c g){s:é}(f:s=Ä->∀b,g.W b->U b)(t:Tg):∀e,(t.AL c s e).2=Ä->CY g U (t.AL c s e).1 t:=
 Tg.rec (ÁO:=λt=>∀e,(t.AL c s e).2=Ä->CY g U (t.AL c s e).1 t) (ÂD:=λl=>∀a,(EX.AL c s l a).2=Ä->DQ g U (EX.AL c s l a).1 l)
  (λi e h=>(wD G (ax h).2).ç (λq=>.loc (bj G (ax h).1) q) λq=>.Ve (bj G (ax h).1) q.2.1 q.2.2 (f q.1))
  (λl j e h=>.tup (j _ h)) (λ_ _=>.å) (λt l k m a h=>.Æ (k _ (ax h).1) (m _ (ax h).2)) t
end
def JG(c:Ck)(č:Â Ï):Â Þ:=č.Ö λi=>(c.nm[i]?).ø ""
def EF(c:Ck)(s:Ŗ)(t:Â Þ)(č:Â Ï):é:=
 decide (s.ĕ= .Ĥ)&&decide ((s.î.Ö (·.1)).Ŀ)&&s.î.ş (λy=> !decide (y.2= .Ĭ))&&
 s.î.ş (λy=> !decide (y.2= .ÁT)||(decide (c.ĕ y.1=À .Ĭ)&& !(y.1==("__classdict__" :Þ))))&&decide ((t++JG c č).Ŀ)&&
 č.ş (λi=>match c.nm[i]? with|À x=>s.î.Àm (x,.ÁT)|Ã=>Å)
def bR{cx:Cx}{d:Ï}{AG:Þ->Ë Ï}{c:Ck}{g:Gd}(G:CB cx d AG c g){s:Ŗ}{t:Â Þ}{č:Â Ï}(h:EF c s t č=Ä):BR g s t č (JG c č):=by
 unfold EF at h;simp only[KF,Àr,an,é.or_eq_true,wP,decide_eq_false_iff_not] at h;obtain⟨⟨⟨⟨⟨b,e⟩,f⟩,k⟩,l⟩,o⟩:=h;show{b,e,λy p=>f y p,λx r=>?_,l,λj i a=>?_}
 ·rcases k _ r with q|q
  ·show absurd rfl q
  ·show{(G.ĕ x).Ð q.1,q.2}
 ·have m:=o i (wS a);cases n:c.nm[i]? with
  |Ã=>rw[n] at m;show fT m
  |À x=>
   rw[n] at m;show{x,by rw[G.nm,n],?_,?_}
   ·unfold JG;rw[j1,a];simp[n]
   ·simpa using m
def CB.Ĺ{cx:Cx}{d:Ï}{AG:Þ->Ë Ï}{c:Ck}{g:Gd}(G:CB cx d AG c g)(s:Ŗ)(l:Â (Þ×á))(ę C:á)(nm:Â Þ)(hk:s.ĕ= .Ĥ):CB cx d AG (c.Ĺ s nm) (g.Ĺ s l ę C nm) where
 cx:=G.cx
 ĕ:=λx=>by
  change(relabel s g.Ü).î.ö x=_;rw[cp];change _=(s.î.ö x).Ö _;congr 1;funext k;rw[G.fn,G.ĕ x];simp
 fn:=hk
 nm:=rfl
 AG:=G.AG
 ÁD:=λz=>fT z
def CB.re{cx:Cx}{d:Ï}{AG:Þ->Ë Ï}{c:Ck}{g:Gd}(G:CB cx d AG c g)(X:á->Prop)(ĉ:Ï->á):CB cx d AG c (g.re X ĉ):={G.cx,G.ĕ,G.fn,G.nm,G.AG,G.ÁD}
def CB.on{cx:Cx}{d:Ï}{AG:Þ->Ë Ï}{c:Ck}{g:Gd}(G:CB cx d AG c g)(X:á->Prop):CB cx d AG c (g.on X):={G.cx,G.ĕ,G.fn,G.nm,G.AG,G.ÁD}
end
section
set_option maxHeartbeats 400000
def PU:Bi->é
 | .ŏ| .abs| .É| .Ç=>Ä
 |_=>Å
def PV:Bi->é
 | .max| .min=>Ä
 |_=>Å
noncomputable def Bi.Ě:Bi->Þ
 | .ŏ=>"len" | .abs=>"abs" | .É=>"list" | .Ç=>"tuple" | .max=>"max" | .min=>"min" | .sum=>"sum"
noncomputable def Bi.ê:Bi->Í
 | .ŏ=>.ė "len" | .abs=>.ė "abs" | .É=>.Ċ "list" | .Ç=>.Ċ "tuple" | .max=>.ė "max" | .min=>.ė "min" | .sum=>.ė "sum"
def Bi.boot(b:Bi):Fk b.Ě=À b.ê:=by cases b<;>kernel_rfl
def Bi.eX(b:Bi):b.Ě∈DK:=by cases b<;>decide
def Bi.dQ(b:Bi):b.Ě≠ "__name__":=by cases b<;>decide
def jd{x:Þ}(h:g.nm[i]? =À x)(b:(x==("__debug__"))=Å):Mt g (.ċ x ă) (KW i):=λa Az s Q E I H=>by
 unfold KW at H;cases e:a.ĵ i with
 |Ã=>rw[e] at H;show H.ç
 |À l=>
  rw[e] at H;cases l using Ą.ď with
  |ê d=>show(kZ h b).arg a Az s Q E I (by unfold Js DU;dsimp only;rw[e];show H)
  |Az=>show lz h b a Az s Q E I (by unfold Fu;rw[e];show H)
  |_=>show H.ç
def Tg.Nx:Tg->é
 | .Ě _=>Ä
 | .tup _=>Å
def PW:é->ý->Prop
 |Ä,e=>∃x p,e= .ċ x p
 |Å,e=>∃s k p,e= .Ů s k p
def eY(c:Ck)(l:é)(t:Tg)(e:ý):PW t.Nx (t.AL c l e).1:=by
 cases t with
 |Ě=>show{_,_,Î}
 |tup=>show{_,_,_,Î}
abbrev Ck.Hw(c:Ck)(e:ý)(t:Â Þ)(č:Â Ï):Ck:=c.Ĺ (GY e) (t++JG c č)
abbrev m1(e:ý):ý:=.Ád .USub (.ğ (.Ê 1) (kk (Ah 0 e)) (Ah 0 e).ă) e.ă
abbrev Ck.lam(c:Ck)(e:ý)(č:Â Ï):Ck:={λx=>(GY e).î.ö x,JG c č,λ_=>Ã,Å}
noncomputable def XI.plain:XI->é
 | .items _=>Å
 |_=>Ä
mutual
noncomputable def XE.AL(c:Ck)(t:Bool):XE->Expr->Expr×Bool
 | .stuck,e=>(e,true)
 | .none,e=>(.Constant .none (kk e) e.pos,true)
 | .bool b,e=>(.Constant (.bool b) (kk e) e.pos,true)
 | .int i,e=>(.Constant (.int i) (kk e) e.pos,true)
 | .str s,e=>(.Constant (.str s) (kk e) e.pos,true)
 | .var i,e=>(c.EM i e,c.ok i)
 | .glob x,e=>(.Name x e.pos,Gi c x)
 | .bin op a b,e=>CK (.BinOp · op.op · e.pos) (a.AL c false (Ah 0 e)) (b.AL c false (Ah 1 e))
 | .neg a,e=>Bp (.UnaryOp .USub · e.pos) (a.AL c false (Ah 0 e))
 | .not a,e=>Bp (.UnaryOp .Not · e.pos) (a.AL c t (Ah 0 e))
 | .cmp op a b,e=>px (!behindInMarks op.op (b.AL c false (Ah 1 e)).1) (CK (λx y=>.Compare x [op.op] [y] e.pos) (a.AL c false (Ah 0 e)) (b.AL c false (Ah 1 e)))
 | .isNone a p,e=>Bp (.Compare · [if p then .Is else .IsNot] [.Constant .none (kk (Ah 1 e)) (Ah 1 e).pos] e.pos) (a.AL c false (Ah 0 e))
 | .JD a b,e=>px (!behindInMarks .In (b.AL c false (Ah 1 e)).1) (CK (λx y=>.Compare x [.In] [y] e.pos) (a.AL c false (Ah 0 e)) (b.AL c false (Ah 1 e)))
 | .PN a i,e=>px (t&&c.ok i) (Bp (.Compare · [.In] [c.EM i (Ah 1 e)] e.pos) (a.AL c false (Ah 0 e)))
 | .and l,e=>px (!(l.AL c t (kids e)).1.isEmpty) (Bp (.BoolOp .And · e.pos) (l.AL c t (kids e)))
 | .or l,e=>px (!(l.AL c t (kids e)).1.isEmpty) (Bp (.BoolOp .Or · e.pos) (l.AL c t (kids e)))
 | .ite q a b,e=>px (!t) (CK (λx y=>.IfExp x y.1 y.2 e.pos) (q.AL c true (Ah 0 e)) (CK Prod.mk (a.AL c false (Ah 1 e)) (b.AL c false (Ah 2 e))))
 | .tup l,e=>Bp (.Tuple · (kk e) e.pos) (l.AL c false (kids e))
 | .list l,e=>Bp (.List · e.pos) (l.AL c false (kids e))
 | .idx a i,e=>px (!isSlice (i.AL c false (Ah 1 e)).1) (CK (.Subscript · · e.pos) (a.AL c (Ah 0 e)) (i.AL c false (Ah 1 e)))
 | .My i k,e=>px (c.ok i&& !isSlice (k.AL c false (Ah 1 e)).1) (Bp (.Subscript (c.EM i (Ah 0 e)) · e.pos) (k.AL c false (Ah 1 e)))
 | .Ec i k,e=>(.Subscript (c.EM i (Ah 0 e)) (.Constant (.int k) (kk (Ah 1 e)) (Ah 1 e).pos) e.pos,c.ok i)
 | .rank i,e=>px (Gi c "RANKS" && !isSlice (i.AL c false (Ah 1 e)).1) (Bp (.Subscript (.Name "RANKS" (Ah 0 e).pos) · e.pos) (i.AL c false (Ah 1 e)))
 | .KU a n,e=>CK (λx y=>.Subscript x (.Slice none (some y) none (Ah 1 e).pos) e.pos) (a.AL c (Ah 0 e)) (n.AL c false (Ah 0 (Ah 1 e)))
 | .Bn a n,e=>CK (λx y=>.Subscript x (.Slice (some y) none none (Ah 1 e).pos) e.pos) (a.AL c (Ah 0 e)) (n.AL c false (Ah 0 (Ah 1 e)))
 | .rev a,e=>Bp (.Subscript · (.Slice none none (some (m1 (Ah 0 (Ah 1 e)))) (Ah 1 e).pos) e.pos) (a.AL c (Ah 0 e))
 | .rep a n,e=>px (!isStar (a.AL c false (Ah 0 (Ah 0 e))).1) (CK (λx y=>.BinOp (.List [x] (Ah 0 e).pos) .Mult y e.pos) (a.AL c false (Ah 0 (Ah 0 e))) (n.AL c false (Ah 1 e)))
 | .call f l,e=>px (Gi c f&& !(l.AL c (kids e).tail).1.isEmpty&&decide (c.AG f=some (l.AL c (kids e).tail).1.length)) (Bp (.Call (.Name f (Ah 0 e).pos) · [] e.pos) (l.AL c (kids e).tail))
 | .IP b a,e=>px (Gi c b.name&&PU b&& !isStar (a.AL c (Ah 1 e)).1) (Bp (λx=>.Call (.Name b.name (Ah 0 e).pos) [x] [] e.pos) (a.AL c (Ah 1 e)))
 | .PO b a m,e=>px (Gi c b.name&&PV b&& !isStar (a.AL c false (Ah 1 e)).1&& !isStar (m.AL c false (Ah 2 e)).1) (CK (λx y=>.Call (.Name b.name (Ah 0 e).pos) [x,y] [] e.pos) (a.AL c false (Ah 1 e)) (m.AL c false (Ah 2 e)))
 | .JE i,e=>(.Call (.Name "list" (Ah 0 e).pos) [c.EM i (Ah 1 e)] [] e.pos,Gi c "list" &&c.ok i)
 | .Mz i,e=>(.Call (.Name "len" (Ah 0 e).pos) [c.EM i (Ah 1 e)] [] e.pos,Gi c "len" &&c.ok i)
 | .MA i k m,e=>px (c.ok i&&((Ah 0 e).pos.endLine==e.pos.line)&& !isStar (k.AL c false (Ah 1 e)).1&& !isStar (m.AL c false (Ah 2 e)).1) (CK (λx y=>.Call (.Attribute (c.EM i (Ah 0 (Ah 0 e))) "get" (Ah 0 e).pos) [x,y] [] e.pos) (k.AL c false (Ah 1 e)) (m.AL c false (Ah 2 e)))
 | .comp h d keep g it,e=>px (EF c (GY e) d keep&& !isSet (it.AL c g.Nx (Ah 2 e)).1) (CK (λx y=>.ListComp x [⟨y.1,y.2,[],0⟩] (GY e) e.pos) (h.AL (c.Hw e d keep) false (Ah 0 e)) (CK Prod.mk (g.AL (c.Hw e d keep) false (Ah 1 e)) (it.AL c g.Nx (Ah 2 e))))
 | .Fv h d keep g it q,e=>px (EF c (GY e) d keep&& !isSet (it.AL c g.Nx (Ah 2 e)).1) (CK (λx y=>.ListComp x.1 [⟨y.1,y.2,[x.2],0⟩] (GY e) e.pos) (CK Prod.mk (h.AL (c.Hw e d keep) false (Ah 0 e)) (q.AL (c.Hw e d keep) true (Ah 3 e))) (CK Prod.mk (g.AL (c.Hw e d keep) false (Ah 1 e)) (it.AL c g.Nx (Ah 2 e))))
 | .JF h d keep r o u j,e=>px (EF c (GY e) d keep&&j.plain&& !isSet (o.AL c true (Ah 2 e)).1&& !isSet (j.AL (c.Hw e d keep) true (Ah 4 e)).1)
   (CK (λx y=>.ListComp x [⟨y.1.1,y.2.1,[],0⟩,⟨y.1.2,y.2.2,[],0⟩] (GY e) e.pos) (h.AL (c.Hw e d keep) false (Ah 0 e)) (CK Prod.mk (CK Prod.mk ((Tg.name r).AL (c.Hw e d keep) false (Ah 1 e)) ((Tg.name u).AL (c.Hw e d keep) false (Ah 3 e))) (CK Prod.mk (o.AL c true (Ah 2 e)) (j.AL (c.Hw e d keep) true (Ah 4 e)))))
 | .ED k d keep v it q,f=>let e:=Ah 1 f;px (Gi c "sorted" &&EF c (GY e) d keep&& !isSet (it.AL c true (Ah 3 e)).1)
   (CK (λx y=>.Call (.Name "sorted" (Ah 0 f).pos) [.DictComp x.1 (.Constant (.bool true) (kk (Ah 1 e)) (Ah 1 e).pos) [⟨y.1,y.2,[x.2],0⟩] (GY e) e.pos] [] f.pos) (CK Prod.mk (k.AL (c.Hw e d keep) false (Ah 0 e)) (q.AL (c.Hw e d keep) true (Ah 4 e))) (CK Prod.mk ((Tg.name v).AL (c.Hw e d keep) false (Ah 2 e)) (it.AL c true (Ah 3 e))))
 | .told keep f l,e=>px (c.tl&&Gi c "_law_told" &&EF c (GY (Ah 1 e)) [] keep&& !(GY (Ah 1 e)).isCoroutine&& !(GY (Ah 1 e)).isGenerator&&Gi (c.lam (Ah 1 e) keep) f&& !(l.AL (c.lam (Ah 1 e) keep) (kids (Ah 0 (Ah 1 e))).tail).1.isEmpty&&decide (c.AG f=some (l.AL (c.lam (Ah 1 e) keep) (kids (Ah 0 (Ah 1 e))).tail).1.length))
   (Bp (λx=>.Call (.Name "_law_told" (Ah 0 e).pos) [.Lambda noParams (.Call (.Name f (Ah 0 (Ah 0 (Ah 1 e))).pos) x [] (Ah 0 (Ah 1 e)).pos) (GY (Ah 1 e)) (Ah 1 e).pos] [] e.pos) (l.AL (c.lam (Ah 1 e) keep) (kids (Ah 0 (Ah 1 e))).tail))
noncomputable def EL.AL(c:Ck)(t:Bool):EL->List Expr->List Expr×Bool
 | .nil,_=>([],true)
 | .cons a l,e=>px (!isStar (a.AL c t (e.headD (.Constant .none 0 default))).1) (CK .cons (a.AL c t (e.headD (.Constant .none 0 default))) (l.AL c t e.tail))
noncomputable def XO.AL(c:Ck):XO->Expr->Expr×Bool
 | .var i,e=>(c.EM i e,c.ok i)
 | .ex a,e=>a.AL c false e
noncomputable def XA.AL(c:Ck):XA->Expr->Expr×Bool
 | .var i,e=>(c.EM i e,c.ok i)
 | .ex a,e=>a.AL c false e
noncomputable def GH.AL(c:Ck):GH->List Expr->List Expr×Bool
 | .nil,_=>([],true)
 | .cons a l,e=>px (!isStar (a.AL c (e.headD (.Constant .none 0 default))).1) (CK .cons (a.AL c (e.headD (.Constant .none 0 default))) (l.AL c e.tail))
noncomputable def XI.AL(c:Ck)(n:Bool):XI->Expr->Expr×Bool
 | .seq a,e=>px n (a.AL c false e)
 | .range a,e=>px (n&&Gi c "range" && !isStar (a.AL c false (Ah 1 e)).1) (Bp (λx=>.Call (.Name "range" (Ah 0 e).pos) [x] [] e.pos) (a.AL c false (Ah 1 e)))
 | .enum a,e=>px (!n&&Gi c "enumerate" && !isStar (a.AL c false (Ah 1 e)).1) (Bp (λx=>.Call (.Name "enumerate" (Ah 0 e).pos) [x] [] e.pos) (a.AL c false (Ah 1 e)))
 | .items i,e=>(.Call (.Attribute (c.EM i (Ah 0 (Ah 0 e))) "items" (Ah 0 e).pos) [] [] e.pos,!n&&((Ah 0 e).pos.endLine==e.pos.line)&&c.ok i)
end
end
section
set_option maxHeartbeats 400000
def Uc(t:é)(g:Gd)(e:Â ý)(f:Â (Aa->M D)):Prop:=match t with
 |Ä=>GR g e f
 |Å=>Ex g e f
section
variable{cx:Cx}{d:Nat}{AG:Str->Option Nat}{w:Cz}{g:Gd}{c:Ck}
def cV(W:BI cx w d AG)(G:CB cx d AG c g)(h:x∈DK):g.cx.mg x=Ã:=by rw[G.cx];show W.blt x h
def bb(W:BI cx w d AG)(G:CB cx d AG c g):Cm g.cx w.Cj:=by rw[G.cx];show W.top
def dz(W:BI cx w d AG)(G:CB cx d AG c g):∃o,g.cx.ÿ.Ò Da=À o:=by rw[G.cx];show W.sys
abbrev Ci(cx:Cx)(w:Cz)(d:Ï)(AG:Þ->Ë Ï)(x:XE):Prop:=∀(c:Ck) (g:Gd) (t:é) (e:ý),CB cx d AG c g->(x.AL c t e).2=Ä->KX t g (x.AL c t e).1 (x.ev w)
abbrev MB(cx:Cx)(w:Cz)(d:Ï)(AG:Þ->Ë Ï)(l:EL):Prop:=∀(c:Ck) (g:Gd) (t:é) (e:Â ý),CB cx d AG c g->(l.AL c t e).2=Ä->Uc t g (l.AL c t e).1 (l.ev w)
abbrev RD(cx:Cx)(w:Cz)(d:Ï)(AG:Þ->Ë Ï)(x:XO):Prop:=∀(c:Ck) (g:Gd) (e:ý),CB cx d AG c g->(x.AL c e).2=Ä->Hl g (x.AL c e).1 (x.ev w)
abbrev Ud(cx:Cx)(w:Cz)(d:Ï)(AG:Þ->Ë Ï)(x:XA):Prop:=∀(c:Ck) (g:Gd) (e:ý),CB cx d AG c g->(x.AL c e).2=Ä->Mt g (x.AL c e).1 (x.ev w)
abbrev KY(cx:Cx)(w:Cz)(d:Ï)(AG:Þ->Ë Ï)(l:GH):Prop:=∀(c:Ck) (g:Gd) (e:Â ý),CB cx d AG c g->(l.AL c e).2=Ä->HZ g (l.AL c e).1 (l.ev w)/\(l.ev w).Á=(l.AL c e).1.Á
abbrev JH(cx:Cx)(w:Cz)(d:Ï)(AG:Þ->Ë Ï)(x:XI):Prop:=∀(c:Ck) (g:Gd) (n:é) (t e:ý),CB cx d AG c g->PW n t->(x.AL c n e).2=Ä->Fg g t (x.AL c n e).1 x.PR (x.ev w)
def nb(h:(!b)=Ä):b=Å:=wP _|>.mp h
def wF(W:BI cx w d AG)(i:Ci cx w d AG a):Ci cx w d AG (.not a):=λc g t e G h=>by
 induction t using ci
 ·show sv (i c g Å _ G h)
 ·show qn (i c g Ä _ G h)
def wG(W:BI cx w d AG)(i:Ci cx w d AG a)(j:Ci cx w d AG b):Ci cx w d AG (.cmp op a b):=λc g t e G h=>by
 show b2 h λk f=>b2 f λf l=>?_;induction t using ci
 ·show su (i c g Å _ G f) (j c g Å _ G l) rfl (nb k)
 ·show qm (i c g Å _ G f) (j c g Å _ G l) rfl (nb k)
def nJ(W:BI cx w d AG)(i:Ci cx w d AG a):Ci cx w d AG (.Áa a y):=λc g t e G h=>by
 induction t using ci
 ·show lh (i c g Å _ G h) rfl
 ·show jJ (i c g Å _ G h) rfl
def qR(W:BI cx w d AG)(i:Ci cx w d AG a)(j:Ci cx w d AG b):Ci cx w d AG (.JD a b):=λc g t e G h=>by
 show b2 h λk f=>b2 f λf l=>?_;induction t using ci
 ·show wo (i c g Å _ G f) (j c g Å _ G l) (nb k)
 ·show sH (i c g Å _ G f) (j c g Å _ G l) (nb k)
def wH(W:BI cx w d AG)(f:Ci cx w d AG a):Ci cx w d AG (.PN a i):=λc g t e G h=>by
 show b3 h λj b k=>?_;subst j;show qH (dz W G) (Ck.aE G b).1 (Ck.aE G b).2 (f c g Å _ G k) rfl
def nK(h:(!l.Ť)=Ä):l≠[]:=by rintro rfl;show fT h
def lN(W:BI cx w d AG){op:BoolOp}{x:XE}(i:MB cx w d AG l)(G:CB cx d AG c g)(h:(!(l.AL c t (kids e)).1.Ť)=Ä)(a:(l.AL c t (kids e)).2=Ä):
  KX t g (.BoolOp op (l.AL c t (kids e)).1 p) λρ=>Ew op ((l.ev w).Ö λf=>f ρ)>>=Gb:=by
 induction t using ci
 ·show jK (i c g Å _ G a) (nK h)
 ·show m_ (i c g Ä _ G a)
def wI(W:BI cx w d AG)(f:RD cx w d AG a)(j:Ci cx w d AG i):Ci cx w d AG (.idx a i):=λc g t e G h=>by
 show b2 h λk b=>b2 b λb l=>.of (sA (f c g _ G b) (j c g Å _ G l) (fF k)) λ_=>rfl
def ti(W:BI cx w d AG)(b:Ci cx w d AG k):Ci cx w d AG (.My i k):=λc g t e G h=>by
 show b3 h λa f j=>.of (qG (Ck.aE G a).1 (Ck.aE G a).2 (b c g Å _ G j) (fF f)) λ_=>rfl
def tj(W:BI cx w d AG)(b:Ci cx w d AG i):Ci cx w d AG (.rank i):=λc g t e G h=>by
 show b3 h λf j k=>aj (aX G f) λl m=>ao W.rank λa n=>.of (qK (bb W G) (by rw[G.cx];show n) l m (b c g Å _ G k) (fF j)) λ_=>rfl
def wJ(W:BI cx w d AG)(i:Ci cx w d AG a)(f:Ci cx w d AG n):Ci cx w d AG (.rep a n):=λc g t e G h=>by
 show b2 h λj b=>b2 b λb k=>.of (sD (i c g Å _ G b) (aF j) (f c g Å _ G k)) λ_=>rfl
def tn(W:BI cx w d AG)(i:KY cx w d AG l):Ci cx w d AG (.ň f l):=λc g t e G h=>by
 show b4 h λb j k m=>aj (aX G b) λn p=>aj (G.AG f _ (Ø k)) λr q=>gR (W.fns f _ r) λa o u m1 m2 m3 m4=>aj (i c g _ G m) λS s=>.of (iZ (bb W G) S (nK j) n p (by rw[G.cx];show m1) (by rw[G.cx];show m2) m3 (m4 g G.cx q) s) λ_=>rfl
def tp(W:BI cx w d AG)(p:KY cx w d AG l):Ci cx w d AG (.told č f l):=λc g t e b h=>by
 show b9 h λq r u v y A C E H=>?_;have B:=bR b u;change KX t g _ λi=>w.G.ç M.Û λF=>E_ (CF ((l.ev w).Ö λf=>f (AA 0 č i))>>= λs=>F f s);cases I:w.G with
 |Ã=>show hG
 |À F=>
  show aj (b.ÁD q) λm K=>a_ K λcc P J L N=>aj (W.Ž F I) λO Q=>gR (Q f _ (b.AG f _ (Ø E)).1) λa o fd m1 m2 m3 m4=>ao W.Ág.2 λaT KT=>?_;show .of (qQ (fb:=λi=>CF ((l.ev w).Ö λf=>f i)>>= λs=>F f s) (bb W b) (by rw[b.cx];show W.Ág.1) (by rw[b.cx];show KT) J L N (m▸O) B (nb v) (nb y) (λT j U lo n=>?_) (aX b r).1) λ_=>rfl;have k:CB cx d AG (c.lam (Ah 1 e) č) (g.lam T j U lo ([]++JG c č)):={b.cx,λx=>by change j.İ.î.ö x=_;rw[n],by change j.İ.ĕ= .Ĥ;rw[n];show B.ĕ,Î,λ_ _ z=>nS z,λz=>fT z};show aj (p _ _ _ k H) λS V=>aj (aX k A) λY q2=>iZ (bb W k) S (nK C) Y q2 (by rw[<-b.cx] at m1;show m1) (by rw[<-b.cx] at m2;show m2) m3 (m4 _ b.cx (â (· -2) m)) V
def aa3(h:PU b=Ä):(b= .ŏ/\b.ê= .ė "len")\/(b= .abs/\b.ê= .ė "abs")\/(b= .É/\b.ê= .Ċ "list")\/(b= .Ç/\b.ê= .Ċ "tuple"):=
 match b,h with
 | .ŏ,_=>.Ę {Î,Î}
 | .abs,_=>.Ġ (.Ę {Î,Î})
 | .É,_=>.Ġ (.Ġ (.Ę {Î,Î}))
 | .Ç,_=>.Ġ (.Ġ (.Ġ {Î,Î}))
def aa4(h:PV b=Ä):(b= .max/\b.ê= .ė "max")\/(b= .min/\b.ê= .ė "min"):=
 match b,h with
 | .max,_=>.Ę {Î,Î}
 | .min,_=>.Ġ {Î,Î}
def wK(W:BI cx w d AG)(i:RD cx w d AG a):Ci cx w d AG (.IP b a):=λc g t e G h=>by
 show b4 h λf j k l=>aj (aX G f) λm n=>.of (sE (bb W G) (i c g _ G l) (aF k) (aa3 j) m (cV W G b.eX) b.boot b.dQ n) λ_=>rfl
def wL(W:BI cx w d AG)(i:Ci cx w d AG a)(j:Ci cx w d AG m):Ci cx w d AG (.PO b a m):=λc g t e G h=>by
 show b5 h λk l n o f=>b2 f λf p=>aj (aX G k) λq r=>.of (sF (bb W G) (i c g Å _ G f) (aF n) (j c g Å _ G p) (aF o) (aa4 l) q (cV W G b.eX) b.boot b.dQ r) λ_=>rfl
def qS(W:BI cx w d AG):Ci cx w d AG (.JE i):=λc g t e G h=>by
 show b2 h λb a=>aj (aX G b) λk f=>.of (nz (bb W G) (dz W G) (Ck.aE G a).1 (Ck.aE G a).2 k (cV W G (Bi.eX .É)) (Bi.boot .É) (Bi.dQ .É) f) λ_=>rfl
def tq(W:BI cx w d AG):Ci cx w d AG (.Mz i):=λc g t e G h=>by
 show b2 h λb a=>aj (aX G b) λk f=>.of (qM (bb W G) (dz W G) (Ck.aE G a).1 (Ck.aE G a).2 k (cV W G (Bi.eX .ŏ)) (Bi.boot .ŏ) (Bi.dQ .ŏ) f) λ_=>rfl
def tr(W:BI cx w d AG)(f:Ci cx w d AG k)(j:Ci cx w d AG m):Ci cx w d AG (.MA i k m):=λc g t e G h=>by
 show b5 h λb l n o a=>b2 a λa p=>.of (tb (dz W G) (Ck.aE G b).1 (Ck.aE G b).2 (f c g Å _ G a) (aF n) (j c g Å _ G p) (aF o) rfl l) λ_=>rfl
def tu(W:BI cx w d AG)(i:Ci cx w d AG j)(k:JH cx w d AG it):Ci cx w d AG (.comp j r č m it):=λc g t e G h=>by
 show b3 h λn o a=>b2 a λa b=>b2 b λb p=>?_;have B:=bR G n;show .of (iV (k c g _ _ _ G (eY ..) p) B (λl f C=>{Tg.bA (G.Ĺ _ l f C _ B.ĕ) (λq=>by show fT q) m _ b,i _ _ Å _ (G.Ĺ _ l f C _ B.ĕ) a,.Ã}) (cU o)) λ_=>rfl
def nL(W:BI cx w d AG)(i:Ci cx w d AG j)(k:JH cx w d AG it)(m:Ci cx w d AG q):Ci cx w d AG (.Fv j u č n it q):=λc g t e G h=>by
 show b3 h λo p a=>b3 a λa r b=>b2 b λb s=>?_;have B:=bR G o;show .of (iV (k c g _ _ _ G (eY ..) s) B (λl f C=>{Tg.bA (G.Ĺ _ l f C _ B.ĕ) (λq=>by show fT q) n _ b,i _ _ Å _ (G.Ĺ _ l f C _ B.ĕ) a,.one (m _ _ Ä _ (G.Ĺ _ l f C _ B.ĕ) r)}) (cU p)) λ_=>rfl
def qT(W:BI cx w d AG)(o:Ci cx w d AG p)(r:JH cx w d AG s)(u:JH cx w d AG i):Ci cx w d AG (.JF p n č v s k i):=λc g t e G h=>by
 show b5 h λx y z A b=>b2 b λb f=>b3 f λf E j=>b2 j λj H=>?_;have B:=bR G x;have J:i.PR=Ã:=by cases i<;>first|rfl|show fT y
 show .of (hi (r c g Ä _ _ G {_,_,Î} j) B (λL l C=>?_) (cU z)) λ_=>rfl;have a:=G.Ĺ (GY e) L l C (n++JG c č) B.ĕ;have m:=u _ _ Ä ((c.Hw e n č).EM k (Ah 3 e)) (Ah 4 e) a {_,_,Î} H;rw[J] at m;intro I l N wr O Q T P U St R V Y d7 d8 xs;show lF (Tg.bA a (λq=>by show fT q) (.Ě v) _ f) (Tg.bA a (λq=>by show fT q) (.Ě k) _ E) (o _ _ Å _ a b) m (cU A)
def lO(W:BI cx w d AG)(i:Ci cx w d AG k)(j:JH cx w d AG it)(m:Ci cx w d AG q):Ci cx w d AG (.ED k y č n it q):=λc g t e G h=>by
 show b4 h λo p r a=>b3 a λa s b=>b2 b λb u=>aj (aX G o) λv x=>?_;have B:=bR G p;show .of (jU (bb W G) (dz W G) (j c g Ä _ _ G {_,_,Î} u) B (λl f C=>{Tg.bA (G.Ĺ _ l f C _ B.ĕ) (λq=>by show fT q) (.Ě n) _ b,i _ _ Å _ (G.Ĺ _ l f C _ B.ĕ) a,m _ _ Ä _ (G.Ĺ _ l f C _ B.ĕ) s}) (cU r) v (cV W G (show("sorted" :Þ)∈DK by decide)) Ân.Rows.boot_sorted (show("sorted" :Þ)≠ "__name__" by decide) x) λ_=>rfl
def lP(W:BI cx w d AG)(i:Ci cx w d AG a)(e:MB cx w d AG l):MB cx w d AG (.Æ a l):=λc g t s G h=>by
 show b2 h λj b=>b2 b λb f=>?_;induction t using ci
 ·show Ex.Æ (i c g Å _ G b) (aF j) (e c g Å _ G f)
 ·show GR.Æ (i c g Ä _ G b) (e c g Ä _ G f)
def je(W:BI cx w d AG)(i:Ud cx w d AG a)(e:KY cx w d AG l):KY cx w d AG (.Æ a l):=λc g s G h=>by
 show b2 h λf b=>b2 b λb j=>aj (e c g _ G j) λx y=>{.Æ (i c g _ G b) (aF f) x,â (·+1) y}
def oK(W:BI cx w d AG)(i:Ci cx w d AG a):JH cx w d AG (.Ĕ a):=λc g n t e G T h=>by
 show b2 h λb f=>?_;subst b;obtain⟨x,p,Î⟩:=T;show sR (i c g Å _ G f)
def jf(W:BI cx w d AG)(i:Ci cx w d AG a):JH cx w d AG (.range a):=λc g n t e G T h=>by
 show b4 h λb f j k=>?_;subst b;obtain⟨x,p,Î⟩:=T;show aj (aX G f) λl m=>nj (bb W G) (i c g Å _ G k) (aF j) rfl l (cV W G _0) _2
def lQ(W:BI cx w d AG)(i:Ci cx w d AG a):JH cx w d AG (.enum a):=λc g n t e G T h=>by
 show b4 h λb f j l=>?_;obtain rfl:=nb b;obtain⟨x,k,p,Î⟩:=T;show aj (aX G f) λm o=>qC (bb W G) (i c g Å _ G l) (aF j) rfl m (cV W G _0) _2
def jg(W:BI cx w d AG):JH cx w d AG (.items i):=λc g n t e G T h=>by
 show b3 h λb f a=>?_;obtain rfl:=nb b;obtain⟨x,k,p,Î⟩:=T;show ny (dz W G) (Ck.aE G a).1 (Ck.aE G a).2 Î f
def XE.ok(W:BI cx w d AG)(x:XE):Ci cx w d AG x:=
 XE.rec (ÁO:=Ci cx w d AG) (ÂD:=MB cx w d AG) (motive_3:=RD cx w d AG) (motive_4:=Ud cx w d AG) (motive_5:=KY cx w d AG) (motive_6:=JH cx w d AG)
  (λ_ _ _ _ _ _=>hG) (λ_ _ _ _ _ _=>.of (qk _ _) λ_=>rfl) (λb _ _ _ _ _ _=>.of (qj b _ _) λ_=>rfl) (λi _ _ _ _ _ _=>.of (sj i _ _) λ_=>rfl) (λs _ _ _ _ _ _=>.of (sk s _ _) λ_=>rfl)
  (λi _ _ _ _ G h=>.of (kZ (Ck.aE G h).1 (Ck.aE G h).2) λ_=>rfl) (λx _ _ _ _ G h=>.of (qr (bb W G) (aX G h).1 (aX G h).2) λ_=>rfl)
  (λop a b f m c g _ _ G h=>.of (la (f c g Å _ G (ax h).1) (m c g Å _ G (ax h).2) rfl) λ_=>rfl) (λa f c g _ _ G h=>.of (sq (f c g Å _ G h)) λ_=>rfl) (λ_=>wF W) (λ_ _ _=>wG W) (λ_ _=>nJ W) (λ_ _=>qR W) (λ_ _=>wH W)
  (λl j c g _ e G h=>lN (op:=.And) W (x:=.Ã) j G (ax h).1 (ax h).2) (λl j c g _ e G h=>lN (op:=.Or) W (x:=.Ã) j G (ax h).1 (ax h).2)
  (λq a b u f m c g t _ G h=>by
   show b2 h λv p=>?_;obtain rfl:=nb v;show sy (u c g Ä _ G (ax p).1) (f c g Å _ G (ax (ax p).2).1) (m c g Å _ G (ax (ax p).2).2))
  (λl j c g _ _ G h=>.of (sz (j c g Å _ G h)) λ_=>rfl) (λl j c g _ _ G h=>.of (qo (j c g Å _ G h)) λ_=>rfl) (λ_ _=>wI W) (λ_ _=>ti W)
  (λi y _ _ _ _ G h=>.of (lD (Ck.aE G h).1 (Ck.aE G h).2 λ_ _=>rfl) λ_=>rfl) (λ_=>tj W)
  (λa n f r c g _ _ G h=>.of (qp (f c g _ G (ax h).1) (r c g Å _ G (ax h).2)) λ_=>rfl) (λa n f r c g _ _ G h=>.of (qq (f c g _ G (ax h).1) (r c g Å _ G (ax h).2)) λ_=>rfl)
  (λa f c g _ _ G h=>.of (sC (f c g _ G h) λo i=>{_,Î}) λ_=>rfl) (λ_ _=>wJ W) (λ_ _=>tn W) (λ_ _=>wK W) (λ_ _ _=>wL W) (λ_=>qS W) (λ_=>tq W) (λ_ _ _=>tr W) (λ_ _ _ _ _=>tu W) (λ_ _ _ _ _ _=>nL W)
  (λ_ _ _ _ _ _ _=>qT W) (λ_ _ _ _ _ _=>lO W) (λ_ _ _=>tp W) (λ_ _ t _ _ _=>by induction t using ci<;>show .å) (λ_ _=>lP W) (λi _ _ _ G h=>iR (Ck.aE G h).1 (Ck.aE G h).2) (λa f c g _ G h=>Ak.op (f c g Å _ G h))
  (λi _ _ _ G h=>jd (Ck.aE G h).1 (Ck.aE G h).2) (λa f c g _ G h=>Ak.arg (f c g Å _ G h)) (λ_ _ _ _ _=>{.å,Î}) (λ_ _=>je W) (λ_=>oK W) (λ_=>jf W) (λ_=>lQ W) (λ_=>jg W) x
end
end
section
def bk:K0 v (À (.ń x s q)) l Ü=Ñ Å:=by
 induction v using No<;>rfl
def hH{v:ý}{x:Â ý}{k:Ï}{q:Pos}{l:Ï}{Ü:Env}:K0 v (À (.Ů x k q)) l Ü=Ñ Å:=by
 induction v using No<;>rfl
def Vk(c:Ck)(x:Þ)(px:Pos):ý->é
 | .Į _ _ s p=>decide (c.ĕ x=À .local)&&px.Ÿ==p.Ÿ&& !(s.î.any λ(n,k)=>n==x&&(k== .local||k== .Ĭ))
 |_=>Å
def qU(h:(tag v==6)=Å):Yi [.Ů x k q] v Ü=Ñ Ã:=by
 induction v using No<;>first|rfl|show tF h
def LN(c:Ck)(x:Þ):é:=decide (c.ĕ x=À .local)||(decide (c.ĕ x=À .Ĭ)&& !(x==("__classdict__" :Þ)))
def RE(c:Ck)(l:Ï):ý->Ë Þ
 | .ċ id ă=>if c.ĕ id==À .local&&ă.Ÿ==l then À id else Ã
 |_=>Ã
def qV(vs:Â ý)(f:ý->é)(h:∀x,f x=Áo x):vs.any f=vs.any Áo:=by
 rw[show f=Áo from funext h]
def wM(c:Ck)(l:Ï)(ts:Â ý)(f:ý->Ë Þ)(h:∀x,f x=RE c l x):ts.Ų f=ts.Ų (RE c l):=by
 rw[show f=RE c l from funext h]
def Ue(c:Ck)(ts vs:Â ý):Ë (Ë (Â Þ)):=
 if !(ts.Á==2||ts.Á==3)||vs.Á !=ts.Á then À Ã
 else if vs.any Áo then À Ã
 else
  let î:=ts.Ų (RE c ((ts.head?.Ö (·.ă.Ÿ)).ø 0))
  if î.Á !=ts.Á||î.eraseDups.Á !=î.Á then À Ã
  else if vs.ş (foldedForSure 8) then À Ã
  else if vs.ş (constantsAlone 8) then Ã
  else À (À î)
def Ic(c:Ck):Â Ï->Â ý->Â ý×é
 |[],_=>([],Ä)
 |i::s,e=>CK .Æ (c.EM i (e.headD (.ğ .Ã 0 Ķ)),FI c i (c.at i)&&LN c (c.at i)) (Ic c s e.ě)
section
variable{cx:Cx}{d:Nat}{AG:Str->Option Nat}{c:Ck}{g:Gd}
def jh(G:CB cx d AG c g):g.Ü.blockKind= .Ĥ:=by
 unfold Env.blockKind;rw[G.fn];rfl
def qW(G:CB cx d AG c g){x:Þ}{px:Pos}{l:Ï}(h:(tag v==2)=Å):K0 v (À (.ċ x px)) l g.Ü=Ñ (Vk c x px v):=by
 cases v using No with
 |Į e f s p=>
  change(Ñ (g.Ü.blockKind== .Ĥ&&g.Ü.ð x==À .local&&px.Ÿ==p.Ÿ&& !(s.î.any λ(n,k)=>n==x&&(k== .local||k== .Ĭ))))=_;rw[jh G,G.ĕ x];have a:(ScopeKind.Ĥ==ScopeKind.Ĥ)=Ä:=_0
  have b:(c.ĕ x==À Ŵ.local)=decide (c.ĕ x=À .local):=by
   cases h:decide (c.ĕ x=À .local) with
   |Ä=>rw[Ø h];rfl
   |Å=>show Ű.ĝ (š h)
  rw[a,b,é.true_and];rfl
 |SetComp=>show tF h
 |DictComp=>show tF h
 |_=>rfl
def wN(G:CB cx d AG c g)(h:Ue c ts vs=À r):Yi [.Ů ts k t] (.Ů vs j v) g.Ü=Ñ r:=by
 unfold Yi;unfold Ue at h;dsimp only;rw[jh G,(funext G.ĕ)];have f:(ScopeKind.Ĥ !=ScopeKind.Ĥ)=Å:=_0
 rw[f,aaX,qV vs _ (by intro x;induction x using No<;>rfl),wM c ((ts.head?.Ö (·.ă.Ÿ)).ø 0) ts _ (by intro x;induction x using No<;>rfl)];split at h
 ·rename_i q;(have z:=al h;clear h;subst z);rw[à q]
 ·rename_i q;rw[ß q];split at h
  ·rename_i a;(have z:=al h;clear h;subst z);rw[à a]
  ·rename_i a;rw[ß a];dsimp only at h⊢;split at h
   ·rename_i b;(have z:=al h;clear h;subst z);rw[à b]
   ·rename_i b;rw[ß b];split at h
    ·rename_i e;(have z:=al h;clear h;subst z);rw[à e]
    ·rename_i e;rw[ß e];split at h
     ·show nS h
     ·rename_i i;(have z:=al h;clear h;subst z);rw[ß i]
def hI(G:CB cx d AG c g)(h:LN c x=Ä):g.Ü.ð x=À .local\/(g.Ü.ð x=À .Ĭ/\(x==("__classdict__"))=Å):=
 (g4.mp h).imp (bF G) λq=>{bF G (ax q).1,nI (ax q).2}
def wO(G:CB cx d AG c g)(s:Â Ï):∀e,(Ic c s e).2=Ä->Ez g (Ic c s e).1 (s.Ö c.at) s:=by
 induction s with
 |å=>show λ_ _=>.å
 |Æ i s a=>
  intro e h;show b3 h λb f j=>.Æ (bj G b) (hI G f) (a _ j)
end
end
section
set_option maxHeartbeats 400000
def JI:XE->é
 | .comp .. | .Fv .. =>Ä
 |_=>Å
def BS:Ĵ->Â ý×Â Ĵ×Â Ĵ
 | .Ř ts v _=>([ts.headD v,v],[],[])
 | .AugAssign t _ v _=>([t,v],[],[])
 | .ý v _=>([v],[],[])
 | .Return v _| .Raise v _ _=>(v.Ħ,[],[])
 | .If q b o _=>([q],b,o)
 | .While q b _ _=>([q],b,[])
 | .For t i b _ _=>([t,i],b,[])
 |_=>([],[],[])
def BQ(i:Ï)(st:Ĵ):ý:=(BS st).1[i]?.ø (.ğ .Ã 0 st.ă)
def XH.AL(c:Ck):XH->ý->ý×é
 | .ê a,e=>a.AL c Å e
 | .É l,e=>Bp (.Â · e.ă) (l.AL c Å (kids e))
 | .rep a n,e=>px (!Áo (a.AL c Å (Ah 0 (Ah 0 e))).1) (CK (λx y=>.ÂY (.Â [x] (Ah 0 e).ă) .Mult y e.ă) (a.AL c Å (Ah 0 (Ah 0 e))) (n.AL c Å (Ah 1 e)))
 | .copy a,e=>px (Gi c "list" && !Áo (a.AL c (Ah 1 e)).1) (Bp (λx=>.Ás (.ċ "list" (Ah 0 e).ă) [x] [] e.ă) (a.AL c (Ah 1 e)))
 | .sd,e=>(.Dict [] [] e.ă,Ä)
 | .td,e=>(.Dict [] [] e.ă,Ä)
def IB(c:Ck):Â XH->Â ý->Â ý×é
 |[],_=>([],Ä)
 |h::l,e=>px (!Áo (h.AL c (e.headD (.ğ .Ã 0 Ķ))).1) (CK .Æ (h.AL c (e.headD (.ğ .Ã 0 Ķ))) (IB c l e.ě))
def Ny(c:Ck)(i:Ï)(k e:XE)(st:Ĵ):Ĵ×é:=px (c.ok i) (CK (λx y=>.Ř [.ń (c.EM i (Ah 0 (BQ 0 st))) x (BQ 0 st).ă] y st.ă) (k.AL c Å (Ah 1 (BQ 0 st))) (e.AL c Å (BQ 1 st)))
def Nz(c:Ck)(i:Ï)(m:Þ)(e:XE)(st:Ĵ):Ĵ×é:=px (c.ok i&&((Ah 0 (BQ 0 st)).ă.Àn==(BQ 0 st).ă.Ÿ)&& !Áo (e.AL c Å (Ah 1 (BQ 0 st))).1)
 (Bp (λx=>.ý (.Ás (.Ŋ (c.EM i (Ah 0 (Ah 0 (BQ 0 st)))) m (Ah 0 (BQ 0 st)).ă) [x] [] (BQ 0 st).ă) st.ă) (e.AL c Å (Ah 1 (BQ 0 st))))
mutual
noncomputable def XS.AL(c:Ck):XS->Stmt->Stmt×Bool
 | .stuck,st=>(st,true)
 | .Bk i e,st=>px (!(tag (e.AL c false (BQ 1 st)).1==2)&&(!Vk c (c.at i) (BQ 0 st).pos (e.AL c false (BQ 1 st)).1||(JI e&&FI c i (c.at i)&&decide (c.kind (c.at i)=some .local)))) (CK (λx y=>.Assign [x] y st.pos) ((Tg.name i).AL c true (BQ 0 st)) (e.AL c false (BQ 1 st)))
 | .EE l e,st=>px (!(tag (e.AL c false (BQ 1 st)).1==6)) (CK (λx y=>.Assign [x] y st.pos) ((Tg.tup l).AL c true (BQ 0 st)) (e.AL c false (BQ 1 st)))
 | .hold i h,st=>px (!Ji (h.AL c (BQ 1 st)).1&&FI c i (c.at i)&&LN c (c.at i)) (Bp (.Assign [c.EM i (BQ 0 st)] · st.pos) (h.AL c (BQ 1 st)))
 | .par r l s,st=>px (decide ((IB c l (kids (BQ 1 st))).1.length=s.length)&&decide ((IB c l (kids (BQ 1 st))).1.length<=1000)&&decide (Ue c (Ic c s (kids (BQ 0 st))).1 (IB c l (kids (BQ 1 st))).1=some (if r then some (s.map c.at) else none)))
   (CK (λx y=>.Assign [.Tuple x (kk (BQ 0 st)) (BQ 0 st).pos] (.Tuple y (kk (BQ 1 st)) (BQ 1 st).pos) st.pos) (Ic c s (kids (BQ 0 st))) (IB c l (kids (BQ 1 st))))
 | .Hu i k e,st| .Gg i k e,st| .Gh i k e,st=>Ny c i k e st
 | .Hv i k e,st=>Ny c i (.int k) e st
 | .aug i op e,st=>px (FI c i (c.at i)&&decide (c.kind (c.at i)=some .local)) (Bp (.AugAssign (c.EM i (BQ 0 st)) op.op · st.pos) (e.AL c false (BQ 1 st)))
 | .append i e,st=>Nz c i "append" e st
 | .extend i e,st=>Nz c i "extend" e st
 | .IA y i,st=>(.Assign [c.EM y (BQ 0 st)] (.Call (.Attribute (c.EM i (Ah 0 (Ah 0 (BQ 1 st)))) "pop" (Ah 0 (BQ 1 st)).pos) [] [] (BQ 1 st).pos) st.pos,FI c y (c.at y)&&decide (c.kind (c.at y)=some .local)&&c.ok i&&((Ah 0 (BQ 1 st)).pos.endLine==(BQ 1 st).pos.line))
 | .KV y i k m,st=>px (FI c y (c.at y)&&decide (c.kind (c.at y)=some .local)&&c.ok i&&((Ah 0 (BQ 1 st)).pos.endLine==(BQ 1 st).pos.line)&& !isStar (k.AL c false (Ah 1 (BQ 1 st))).1&& !isStar (m.AL c false (Ah 2 (BQ 1 st))).1)
   (CK (λa b=>.Assign [c.EM y (BQ 0 st)] (.Call (.Attribute (c.EM i (Ah 0 (Ah 0 (BQ 1 st)))) "pop" (Ah 0 (BQ 1 st)).pos) [a,b] [] (BQ 1 st).pos) st.pos) (k.AL c false (Ah 1 (BQ 1 st))) (m.AL c false (Ah 2 (BQ 1 st))))
 | .drop e,st=>px (!Ji (e.AL c false (BQ 0 st)).1) (Bp (.Expr · st.pos) (e.AL c false (BQ 0 st)))
 | .ret e,st=>Bp (λx=>.Return (some x) st.pos) (e.AL c false (BQ 0 st))
 | .ite q a b,st=>CK (λx y=>.If x y.1 y.2 st.pos) (q.AL c true (BQ 0 st)) (CK Prod.mk (a.AL c (BS st).2.1) (b.AL c (BS st).2.2))
 | .while q b,st=>CK (.While · · [] st.pos) (q.AL c true (BQ 0 st)) (b.AL c (BS st).2.1)
 | .for t it b,st=>px (!isSet (it.AL c t.Nx (BQ 1 st)).1) (CK (λx y=>.For x y.1 y.2 [] st.pos) (t.AL c true (BQ 0 st)) (CK Prod.mk (it.AL c t.Nx (BQ 1 st)) (b.AL c (BS st).2.1)))
 | .raise k m,st=>px (Gi c "CasFail" && !isStar (k.AL c false (Ah 1 (BQ 0 st))).1&& !isStar (m.AL c false (Ah 2 (BQ 0 st))).1) (CK (λa b=>.Raise (some (.Call (.Name "CasFail" (Ah 0 (BQ 0 st)).pos) [a,b] [] (BQ 0 st).pos)) none st.pos) (k.AL c false (Ah 1 (BQ 0 st))) (m.AL c false (Ah 2 (BQ 0 st))))
noncomputable def Bc.AL(c:Ck):Bc->List Stmt->List Stmt×Bool
 | .nil,_=>([],true)
 | .cons s l,t=>CK .cons (s.AL c (t.headD (.Pass default))) (l.AL c t.tail)
 | .freeze i l,t=>l.AL c t
end
section
variable{cx:Cx}{d:Nat}{AG:Str->Option Nat}{w:Cz}
def EL.ok(W:BI cx w d AG):∀l,MB cx w d AG l
 | .å=>λ_ _ t _ _ _=>by induction t using ci<;>show .å
 | .Æ a l=>lP W (XE.ok W a) (EL.ok W l)
def XO.ok(W:BI cx w d AG):∀x,RD cx w d AG x
 | .Đ i=>λ_ _ _ G h=>iR (Ck.aE G h).1 (Ck.aE G h).2
 | .ex a=>λc g _ G h=>Ak.op (XE.ok W a c g Å _ G h)
def XA.ok(W:BI cx w d AG):∀x,Ud cx w d AG x
 | .Đ i=>λ_ _ _ G h=>jd (Ck.aE G h).1 (Ck.aE G h).2
 | .ex a=>λc g _ G h=>Ak.arg (XE.ok W a c g Å _ G h)
def GH.ok(W:BI cx w d AG):∀l,KY cx w d AG l
 | .å=>λ_ _ _ _ _=>{.å,Î}
 | .Æ a l=>je W (XA.ok W a) (GH.ok W l)
def XI.ok(W:BI cx w d AG):∀x,JH cx w d AG x
 | .Ĕ a=>oK W (XE.ok W a)
 | .range a=>jf W (XE.ok W a)
 | .enum a=>lQ W (XE.ok W a)
 | .items i=>jg W
def XH.ok(W:BI cx w d AG)(x:XH)(c:Ck)(g:Gd)(e:ý)(G:CB cx d AG c g)(h:(x.AL c e).2=Ä):Hp g (x.AL c e).1 (x.ev w):=by
 cases x with
 |ê a=>show qE (XE.ok W a c g Å _ G h)
 |É l=>show hl (EL.ok W l c g Å _ G h)
 |rep a n=>
  show b2 h λf b=>b2 b λb i=>qF (XE.ok W a c g Å _ G b) (aF f) (XE.ok W n c g Å _ G i)
 |copy a=>
  show b3 h λf i b=>aj (aX G f) λk j=>nu (bb W G) (XO.ok W a c g _ G b) (aF i) k (cV W G (Bi.eX .É)) (Bi.boot .É) (Bi.dQ .É) j
 |sd=>show sT
 |td=>show sU
def zO(W:BI cx w d AG)(c:Ck)(g:Gd)(G:CB cx d AG c g)(l:Â XH):∀e,(IB c l e).2=Ä->GU g (IB c l e).1 (l.Ö λh=>h.ev w):=by
 induction l with
 |å=>show λ_ _=>.å
 |Æ a l i=>
  intro e h;show b2 h λf b=>b2 b λb j=>.Æ (λX=>XH.ok W a c (g.on X) _ (G.on X) b) (aF f) (i _ j)
def qX(h:JI e=Ä):(∃l t č g it,e= .comp l t č g it)\/∃l t č g it q,e= .Fv l t č g it q:=by
 cases e<;>first|show .Ę {_,_,_,_,_,Î}|show .Ġ {_,_,_,_,_,_,Î}|show fT h
def gs(W:BI cx w d AG){e:XE}{c:Ck}{g:Gd}{v:ý}{x:Þ}{px ă:Pos}{i:Ï}(G:CB cx d AG c g)(r:JI e=Ä)(h:(e.AL c Å v).2=Ä)(p:FI c i x=Ä)(hk:decide (c.ĕ x=À .local)=Ä)
  (s:K0 (e.AL c Å v).1 (À (.ċ x px)) ă.Ÿ g.Ü=Ñ Ä):CZ g (.Ř [.ċ x px] (e.AL c Å v).1 ă) (Ho (e.ev w) (.Ě i)):=by
 rcases qX r with⟨t,u,č,j,k,Î⟩|⟨t,u,č,j,k,q,Î⟩
 ·show b3 h λm n a=>b2 a λa b=>b2 b λb o=>?_;have B:=bR G m;show dh (XI.ok W k c g _ _ _ G (eY ..) o) B (λl f C=>{Tg.bA (G.Ĺ _ l f C _ B.ĕ) (λq=>by show fT q) j _ b,XE.ok W t _ _ Å _ (G.Ĺ _ l f C _ B.ĕ) a,.Ã}) (cU n) (bj G p) (bF G hk) s
 ·show b3 h λm n a=>b3 a λa y b=>b2 b λb o=>?_;have B:=bR G m;show dh (XI.ok W k c g _ _ _ G (eY ..) o) B (λl f C=>{Tg.bA (G.Ĺ _ l f C _ B.ĕ) (λq=>by show fT q) j _ b,XE.ok W t _ _ Å _ (G.Ĺ _ l f C _ B.ĕ) a,.one (XE.ok W q _ _ Ä _ (G.Ĺ _ l f C _ B.ĕ) y)}) (cU n) (bj G p) (bF G hk) s
abbrev JJ(cx:Cx)(w:Cz)(d:Ï)(AG:Þ->Ë Ï)(s:XS):Prop:=∀(c:Ck) (g:Gd) (st:Ĵ),CB cx d AG c g->(s.AL c st).2=Ä->CZ g (s.AL c st).1 (s.ex w)
abbrev PX(cx:Cx)(w:Cz)(d:Ï)(AG:Þ->Ë Ï)(l:Bc):Prop:=∀(c:Ck) (g:Gd) (s:Â Ĵ),CB cx d AG c g->(l.AL c s).2=Ä->DW g (l.AL c s).1 (l.ex w)
def cC(G:CB cx d AG c g):Yr g.Ü=Å:=by
 unfold Yr;rw[G.fn];rfl
def qY(h:(!a||b)=Ä):a=Å\/(a=Ä/\b=Ä):=by
 induction a using ci
 ·show .Ę Î
 ·show .Ġ {Î,h}
def gc(W:BI cx w d AG):JJ cx w d AG (.Bk i e):=λc g st G h=>by
 show b3 h λk m a=>b2 a λa j=>?_;have s:=qW (px:=(BQ 0 st).ă) (x:=c.at i) (l:=st.ă.Ÿ) G (nb k);rcases qY m with q|⟨q,f⟩
 ·show fD (XE.ok W e c g Å _ G j) (Tg.bA G (λ_ b q=>q) (.Ě i) _ a) (s.Ð (â Ñ q))
 ·show b3 f λf n o=>gs W G f j n o (s.Ð (â Ñ q))
def gd(W:BI cx w d AG):JJ cx w d AG (.EE l e):=λc g st G h=>by
 show b2 h λf a=>b2 a λa i=>gm (XE.ok W e c g Å _ G i) (Tg.bA G (λ_ b q=>q) (.tup l) _ a) (hH (x:=(l.AL c Ä (kids (BQ 0 st))).1) (k:=kk (BQ 0 st)) (q:=(BQ 0 st).ă) (l:=st.ă.Ÿ) (Ü:=g.Ü)) (qU (nb f))
def lR(W:BI cx w d AG):JJ cx w d AG (.hold i e):=λc g st G h=>by
 show b4 h λa b f j=>iW (XH.ok W e c g _ G j) (bj G b) (hI G f) (dp a)
def oM(W:BI cx w d AG):JJ cx w d AG (.par r l i):=λc g st G h=>by
 show b4 h λb e f a=>b2 a λa j=>sW (zO W c g G l _ j) (wO G i _ a) (Ø b) (Ø e) (hH (v:=.Ů (IB c l (kids (BQ 1 st))).1 (kk (BQ 1 st)) (BQ 1 st).ă) (x:=(Ic c i (kids (BQ 0 st))).1) (k:=kk (BQ 0 st)) (q:=(BQ 0 st).ă) (l:=st.ă.Ÿ) (Ü:=g.Ü)) (wN G (Ø f))
def cW(W:BI cx w d AG){st:Ĵ}(G:CB cx d AG c g)(h:(Ny c i k e st).2=Ä):(g.nm[i]? =À (c.at i)/\(c.at i==("__debug__"))=Å)/\Ak g (e.AL c Å (BQ 1 st)).1 (e.ev w)/\Ak g (k.AL c Å (Ah 1 (BQ 0 st))).1 (k.ev w):=b2 h λb a=>b2 a λa f=>{Ck.aE G b,XE.ok W e c g Å _ G f,XE.ok W k c g Å _ G a}
def oN(W:BI cx w d AG):JJ cx w d AG (.aug i op e):=λc g st G h=>by
 show b3 h λa b f=>sZ (bj G a) (bF G b) (XE.ok W e c g Å _ G f) rfl
def gu(W:BI cx w d AG){st:Ĵ}(G:CB cx d AG c g)(h:(Nz c i m e st).2=Ä):((g.nm[i]? =À (c.at i)/\(c.at i==("__debug__"))=Å)/\((Ah 0 (BQ 0 st)).ă.Àn==(BQ 0 st).ă.Ÿ)=Ä)/\Ak g (e.AL c Å (Ah 1 (BQ 0 st))).1 (e.ev w)/\∀y q,(e.AL c Å (Ah 1 (BQ 0 st))).1≠ .ņ y q:=b4 h λa b f j=>{{Ck.aE G a,b},XE.ok W e c g Å _ G j,aF f}
def lS(W:BI cx w d AG):JJ cx w d AG (.IA y i):=λc g st G h=>by
 show b4 h λb e a f=>sY (Ck.aE G a).1 (Ck.aE G a).2 (bj G b) (bF G e) rfl f Î
def lT(W:BI cx w d AG):JJ cx w d AG (.KV y i k m):=λc g st G h=>by
 show b7 h λe f b j l n a=>b2 a λa o=>qI (dz W G) (Ck.aE G b).1 (Ck.aE G b).2 (bj G e) (bF G f) (XE.ok W k c g Å _ G a) (aF l) (XE.ok W m c g Å _ G o) (aF n) rfl j Î
def qZ{it:XI}(r:(it.ev w ρ).Ĉ p= .ok ds p')(j:Ï)(h:it.PR=À j):∃v,ρ.ĵ j=À (.td v):=by
 cases it with
 |items k=>
  obtain rfl:k=j:=al h;show a_ (fB (P:=λo=>o= .ok ds p') (λz=>oC z) r) λs v e q _=>{v,Ą.so q▸e}
 |_=>show nS h
def oO(W:BI cx w d AG)(i:PX cx w d AG b):JJ cx w d AG (.for t it b):=λc g st G h=>by
 show b2 h λf a=>b2 a λa e=>b2 e λe k=>sX (XI.ok W it c g _ _ _ G (eY ..) e) (λm p s n r j l=>qZ r j l) (λX o=>Tg.bA (G.re X o) (λ_ b q=>q) t _ a) (λX o=>i c (g.re X o) _ (G.re X o) k) (cU f)
def ji(W:BI cx w d AG):JJ cx w d AG (.Áp k m):=λc g st G h=>by
 show b4 h λb e f a=>b2 a λa i=>aj (aX G b) λn1 n2=>kT W.ķ λC N GG n K j l=>nB (bb W G) (by rw[G.cx];show K) (by rw[G.cx];show j) n1 n2 (by rw[G.cx];show l) (XE.ok W k c g Å _ G a) (aF e) (XE.ok W m c g Å _ G i) (aF f)
def jj(W:BI cx w d AG)(a:w.wh=GF)(i:PX cx w d AG b):JJ cx w d AG (.while q b):=λc g st G h=>by
 have s:=nv (ă:=st.ă) (λX o=>XE.ok W q c (g.re X o) Ä _ (G.re X o) (ax h).1) (λX o=>i c (g.re X o) _ (G.re X o) (ax h).2);rw[<-a] at s;show s
def Bc.ok(W:BI cx w d AG)(m:w.wh=GF)(x:Bc):PX cx w d AG x:=
 Bc.rec
  (λc g st G h r u s Q E I H=>H.ç) (λ_ _=>gc W) (λ_ _=>gd W) (λ_ _=>lR W) (λ_ _ _=>oM W)
  (λi k e c g st G h=>let⟨a,b,d⟩:=cW W G h;fY a.1 a.2 b d bk) (λi k e c g st G h=>let⟨a,b,d⟩:=cW W G h;eV a.1 a.2 b d bk) (λi k e c g st G h=>let⟨a,b,d⟩:=cW W G h;eU a.1 a.2 b d bk) (λi k e c g st G h=>let⟨a,b,d⟩:=cW W G h;f_ a.1 a.2 b bk)
  (λ_ _ _=>oN W) (λi e c g st G h=>let⟨a,b⟩:=gu W G h;fX a.1.1 a.1.2 b.1 b.2 Î a.2 (cC G) rfl) (λi e c g st G h=>let⟨a,b⟩:=gu W G h;fZ a.1.1 a.1.2 b.1 b.2 Î a.2 (cC G) rfl) (λ_ _=>lS W) (λ_ _ _ _=>lT W)
  (λe c g st G h=>i_ (XE.ok W e c g Å _ G (ax h).2) (cC G) (dp (ax h).1)) (λe c g st G h=>ll (XE.ok W e c g Å _ G h)) (λq a b n f c g st G h=>oH (XE.ok W q c g Ä _ G (ax h).1) (n c g _ G (ax (ax h).2).1) (f c g _ G (ax (ax h).2).2))
  (λ_ _ f=>jj W m f) (λ_ _ _ f=>oO W f)
  (λ_ _=>ji W) (λ_ _ _ _ _=>sS) (λs l p j c g t G h=>qD (p c g _ G (ax h).1) λX o=>j c (g.re X o) _ (G.re X o) (ax h).2) (λi l j c g t G h=>lq λX o=>j c (g.re X o) _ (G.re X o) h) x
def aco(W:BI cx w d AG)(f:w.wh=GF)(x:XS):JJ cx w d AG x:=by
 cases x with
 |Û=>show λc g st G h i p s Q E I H=>H.ç
 |Bk=>show gc W
 |EE=>show gd W
 |hold=>show lR W
 |par=>show oM W
 |Hu=>show λc g st G h=>let⟨a,b,d⟩:=cW W G h;fY a.1 a.2 b d bk
 |Gg=>show λc g st G h=>let⟨a,b,d⟩:=cW W G h;eV a.1 a.2 b d bk
 |Gh=>show λc g st G h=>let⟨a,b,d⟩:=cW W G h;eU a.1 a.2 b d bk
 |Hv=>show λc g st G h=>let⟨a,b,d⟩:=cW W G h;f_ a.1 a.2 b bk
 |aug=>show oN W
 |ÁE=>show λc g st G h=>let⟨a,b⟩:=gu W G h;fX a.1.1 a.1.2 b.1 b.2 Î a.2 (cC G) rfl
 |extend=>show λc g st G h=>let⟨a,b⟩:=gu W G h;fZ a.1.1 a.1.2 b.1 b.2 Î a.2 (cC G) rfl
 |IA=>show lS W
 |KV=>show lT W
 |Ń e=>show λc g st G h=>i_ (XE.ok W e c g Å _ G (ax h).2) (cC G) (dp (ax h).1)
 |Ũ e=>show λc g st G h=>ll (XE.ok W e c g Å _ G h)
 |ő q a b=>show λc g st G h=>oH (XE.ok W q c g Ä _ G (ax h).1) (Bc.ok W f a c g _ G (ax (ax h).2).1) (Bc.ok W f b c g _ G (ax (ax h).2).2)
 |«while» q b=>show jj W f (Bc.ok W f b)
 |«for» t j b=>show oO W (Bc.ok W f b)
 |Áp=>show ji W
end
end
section
structure AF where
 nm:Â Þ
 np:Ï
 Ć:Bc
instance:í AF:={{[],0,.å}}
abbrev NA:=Þ->Â Ą->M D
noncomputable def runs(C_:Þ->Ë AF)(Cj:Þ->Ë D)(DT:Þ->Ë ä):Ï->NA×Ë NA×Ë NA
 |0=>(λ_ _=>M.Û,Ã,Ã)
 |n+1=>(λf s=>match C_ f with
  |Ã=>M.Û
  |À t=>if s.Á=t.np then t.Ć.ex {Cj,DT,(runs C_ Cj DT n).1,GF,(runs C_ Cj DT n).2.1} (Bf s (t.nm.Á -t.np))>>=Cf else M.Û,(runs C_ Cj DT n).2.2,À (runs C_ Cj DT n).1)
abbrev RF(C_:Þ->Ë AF)(Cj:Þ->Ë D)(DT:Þ->Ë ä)(d:Ï):Cz:={Cj,DT,(runs C_ Cj DT d).1,GF,(runs C_ Cj DT d).2.1}
structure PY(cx:Cx)(Cj:Þ->Ë D)(DT:Þ->Ë ä):Prop where
 top:Cm cx Cj
 rank:∃a,LI cx "RANKS" a DT
 sys:∃o,cx.ÿ.Ò Da=À o
 ķ:∃C N GG m,Fh cx C N GG m/\cx.exc= .ò C/\cx.mg "CasFail" =À (.ò C)
 blt:∀x∈DK,cx.mg x=Ã
 Ág:BMain cx/\∃a,Jh cx a
def LO(cx:Cx)(f:Þ)(d:Í):Prop:=∃c P,d= .ò c/\CodeHd cx.ÿ c P/\cx.tab P=À ((f++ ".<locals>.")++ "<lambda>")
structure FnAt(cx:Cx)(C_:Þ->Ë AF)(AG:Þ->Ë Ï)(l:Þ->é)(f:Þ)(n:Ï)(t:AF)(ô:S1)(Ć:Â Ĵ)(s:Ŗ):Prop where
 C_:C_ f=À t
 np:t.np=n
 Àq:t.nm.Ŀ
 Vl:∀(i:Ï) (x:Þ),(ô.Ū.Ö (·.arg))[i]? =À x->t.nm[i]? =À x
 ŏ:(ô.Ū.Ö (·.arg)).Á=n
 ck:t.Ć.AL {λx=>s.î.ö x,t.nm,AG,l f} Ć=(Ć,Ä)
 fn:∃a o p c d,KR cx f ô Ć s a o p c d/\(l f=Ä->LO cx f c)
def jk{AG:Þ->Ë Ï}{l:Þ->é}(T:PY cx Cj DT)(Fs:∀f n,AG f=À n->∃t ô Ć p,FnAt cx C_ AG l f n t ô Ć p)(d:Ï):BI cx (RF C_ Cj DT d) d AG:=by
 cases d using Ï.strongRecOn with
 |_ d j=>
 show{T.top,T.rank,T.sys,T.ķ,T.blt,T.Ág,λf n h=>?_,λF i=>?_}
 ·show kS (Fs f n h) λt ô Ć p F=>sg F.fn λa o U V Y K v=>{a,o,_,K.mg,K.at_,K.ë,λg b k w y s ÁF m Q E I A B H=>?_};cases d using R1 with
  |ž=>show H.ç
  |ś d=>
  have H:Af g w (VX g) s ((match C_ f with
   |Ã=>M.Û
   |À t=>if m.Á=t.np then t.Ć.ex (RF C_ Cj DT d) (Bf m (t.nm.Á -t.np))>>=Cf else M.Û).Ĉ y) Q E:=H
  rw[F.C_] at H;show aj (Af.ő H) λd7 H=>?_;rw[<-b] at K;show jM K (by rw[b];show T.top) F.Àq F.Vl (ln1 (kV k)) I A (by rw[F.ŏ,B]) (λe h C q G J=>?_) H;have r:g.d -1=d:=â (· -1) k;have u:=Bc.ok (j d (p1 d)) rfl t.Ć {λx=>p.î.ö x,t.nm,AG,l f} (g.enter e h C t.nm) Ć {b,λx=>?_,?_,Î,λ_ _ z=>{z,r},λz=>{r,a_ (v z) λc P L N O=>{c,P,G.Ð L,b▸N,?_}}} (by rw[F.ck])
  ·rw[F.ck] at u;show u
  ·change e.İ.î.ö x=p.î.ö x;rw[q]
  ·change e.İ.ĕ= .Ĥ;rw[q];show K.ĕ
  ·change g.cx.tab P=À (e.ÂC++ "<lambda>");rw[b,J];show O
 ·cases d using R1 with
  |ž=>show nS i
  |ś d=>
  cases d using R1 with
  |ž=>show nS i
  |ś d=>
  obtain rfl:=al i;show{f3 2 d,(j d (AC (p1 d))).fns}
end
section
def DD:Þ:={#[103,99,100]}
def JK:Þ:={#[98,105,116,115,95,111,102]}
def JL:Þ:={#[103,99,100,95,97,108,108]}
def By:Þ:={#[114,97,116]}
def Dj:Þ:={#[114,97,100,100]}
def BP:Þ:={#[114,109,117,108]}
def Fw:Þ:={#[114,100,105,118]}
def Fx:Þ:={#[114,110,101,103]}
def Fy:Þ:={#[114,105,110,118]}
def Dq:Þ:={#[114,112,111,119,101,114]}
def Fj:Þ:={#[116,95,110,117,109]}
def MC:Þ:={#[116,95,115,121,109]}
def MD:Þ:={#[116,95,115,117,109]}
def KZ:Þ:={#[116,95,112,114,111,100]}
def ME:Þ:={#[116,95,112,111,119]}
def K_:Þ:={#[105,115,95,110,117,109]}
def La:Þ:={#[110,117,109,95,111,102]}
def AZ:Þ:={#[105,115,95,119,104,111,108,101,95,110,117,109]}
def AH:Þ:={#[105,110,110,101,114,95,116,101,114,109,115]}
def Cs:Þ:={#[97,108,108,95,116,101,114,109,115]}
def Ao:Þ:={#[102,114,101,101,95,108,101,116,116,101,114,115]}
def Cr:Þ:={#[115,105,103,110,95,98,101,116,119,101,101,110]}
def AO:Þ:={#[99,111,109,112,97,114,101,95,118,97,108,117,101,115]}
def FJ:Þ:={#[98,97,114,101,95,102,97,99,116,111,114,115]}
def Gj:Þ:={#[102,114,111,110,116,95,118,97,108,117,101]}
def Ee:Þ:={#[98,97,115,101,95,97,110,100,95,101,120,112,111,110,101,110,116]}
def FK:Þ:={#[99,111,109,112,97,114,101,95,114,111,119,115]}
def Ef:Þ:={#[99,111,109,112,97,114,101,95,101,120,112,111,110,101,110,116,115]}
def Fl:Þ:={#[99,111,109,112,97,114,101,95,98,97,115,101,115]}
def EG:Þ:={#[99,111,109,112,97,114,101,95,102,97,99,116,111,114,115]}
def Ab:Þ:={#[99,111,109,112,97,114,101,95,116,101,114,109,115]}
def FL:Þ:={#[109,101,114,103,101,100,95,116,101,114,109,115]}
def Ai:Þ:={#[115,111,114,116,95,116,101,114,109,115]}
def Gk:Þ:={#[110,117,109,98,101,114,95,116,101,114,109]}
def Au:Þ:={#[110,117,109,98,101,114,95,97,110,100,95,114,101,115,116]}
def Ar:Þ:={#[119,105,116,104,95,110,117,109,98,101,114]}
def Av:Þ:={#[102,108,97,116,95,112,97,114,116,115]}
def Ap:Þ:={#[103,97,116,104,101,114,101,100,95,115,117,109]}
def Gl:Þ:={#[105,115,95,111,110,101,95,99,97,108,108]}
def AP:Þ:={#[97,115,95,112,111,119,101,114]}
def As:Þ:={#[103,97,116,104,101,114,101,100,95,112,114,111,100,117,99,116]}
def A_:Þ:={#[112,111,119,101,114,95,111,102]}
def Ae:Þ:={#[115,105,109,112,108,105,102,121]}
def Hx:Þ:={#[115,117,109,95,112,97,114,116,115]}
def JM:Þ:={#[109,117,108,95,111,117,116]}
def Gm:Þ:={#[109,117,108,95,97,108,108,95,111,117,116]}
def CM:Þ:={#[101,120,112,97,110,100,95,111,110,99,101]}
def DL:Þ:={#[101,120,112,97,110,100]}
def EH:Þ:={#[122,116,114,105,109]}
def JN:Þ:={#[122,100,101,103,114,101,101]}
def MF:Þ:={#[122,108,101,97,100]}
def Oo:Þ:={#[122,97,100,100]}
def Oq:Þ:={#[122,110,101,103]}
def Hy:Þ:={#[122,115,117,98]}
def Fm:Þ:={#[122,115,99,97,108,101]}
def Lb:Þ:={#[122,114,97,105,115,101]}
def Bg:Þ:={#[122,99,111,110,116,101,110,116]}
def IC:Þ:={#[122,100,105,118,105,100,101,100]}
def CC:Þ:={#[122,112,114,105,109,105,116,105,118,101]}
def MG:Þ:={#[113,116,114,105,109]}
def JO:Þ:={#[113,100,101,103,114,101,101]}
def MH:Þ:={#[113,108,101,97,100]}
def Fz:Þ:={#[113,97,100,100]}
def Ot:Þ:={#[113,110,101,103]}
def Ou:Þ:={#[113,115,117,98]}
def Lc:Þ:={#[113,115,99,97,108,101]}
def Ld:Þ:={#[113,114,97,105,115,101]}
def Bl:Þ:={#[113,109,117,108]}
def DE:Þ:={#[113,100,105,118,109,111,100]}
def Le:Þ:={#[113,109,111,110,105,99]}
def ET:Þ:={#[113,103,99,100]}
def Ct:Þ:={#[116,111,95,122]}
def Dc:Þ:={#[102,114,111,109,95,122]}
def Bw:Þ:={#[102,109,97,107,101]}
def Dm:Þ:={#[102,110,117,109,98,101,114]}
def Ba:Þ:={#[102,97,100,100]}
def BC:Þ:={#[102,109,117,108]}
def Ov:Þ:={#[102,105,110,118]}
def Lg:Þ:={#[102,112,111,119,101,114]}
def EU:Þ:={#[119,104,111,108,101,95,101,120,112,111,110,101,110,116]}
def Ac:Þ:={#[102,114,111,109,95,116,101,114,109]}
def DM:Þ:={#[114,97,116,95,116,101,114,109]}
def AN:Þ:={#[112,111,108,121,95,116,101,114,109]}
def JP:Þ:={#[116,111,95,116,101,114,109]}
def Cc:Þ:={#[105,110,95,108,101,116,116,101,114]}
def FN:Þ:={#[99,104,101,99,107,95,98,111,116,116,111,109]}
def Lh:Þ:={#[112,115,101,117,100,111]}
def DZ:Þ:={#[100,105,118,105,100,101,100]}
def Hz:Þ:={#[102,117,108,108,95,114,101,115,116]}
def Fn:Þ:={#[114,111,119,95,114,101,115,117,108,116,97,110,116]}
def Cd:Þ:={#[114,101,115,117,108,116,97,110,116]}
def Cn:Þ:={#[111,110,108,121,95,108,101,116,116,101,114]}
def Gn:Þ:={#[114,97,116,105,111,110,97,108,95,105,110]}
def Bj:Þ:={#[112,111,108,121,95,105,110]}
def Cu:Þ:={#[99,111,109,109,111,110,95,100,105,118,105,115,111,114]}
def BD:Þ:={#[100,105,118,105,115,105,111,110,95,112,97,114,116,115]}
def BE:Þ:={#[114,101,115,117,108,116,97,110,116,95,116,101,114,109]}
def AM:Þ:={#[114,97,116,105,111,110,97,108,95,102,111,114,109]}
def BG:Þ:={#[95,108,97,119,95,112,105,99,107]}
def Aq:Þ:={#[95,108,97,119,95,114,97,116,105,111]}
def CR:Þ:={#[95,108,97,119,95,116,114,105,109]}
def ID:Þ:={#[95,108,97,119,95,108,101,115,115]}
def Br:Þ:={#[95,108,97,119,95,100,105,118,105,100,101,100]}
def Dd:Þ:={#[95,108,97,119,95,115,104,97,114,101,100]}
def AJ:Þ:={#[95,108,97,119,95,100,101,116,101,114,109,105,110,97,110,116]}
def BM:Þ:={#[95,108,97,119,95,114,101,115,117,108,116,97,110,116]}
def Bd:Þ:={#[95,108,97,119,95,116,101,114,109]}
def Ad:Þ:={#[95,108,97,119,95,118,97,108,117,101]}
def Bq:Þ:={#[95,108,97,119,95,102,114,97,99,116,105,111,110,95,114,105,103,104,116]}
def BJ:Þ:={#[95,108,97,119,95,100,105,118,105,115,105,111,110,95,114,105,103,104,116]}
def BF:Þ:={#[95,108,97,119,95,115,104,97,114,101,100,95,114,105,103,104,116]}
def Bu:Þ:={#[95,108,97,119,95,107,105,110,100,115,95,114,105,103,104,116]}
def Ow:Þ:={#[82,48]}
def Tn:Þ:={#[82,49]}
def HA:Þ:={#[77,79,83,84,95,66,73,84,83]}
def Li:Þ:={#[84,95,90,69,82,79]}
def MI:Þ:={#[84,95,79,78,69]}
def JQ:Þ:={#[84,95,77,73,78,85,83]}
def Ox:Þ:={#[90,69,82,79]}
def PZ:Þ:={#[79,78,69]}
def LP:Þ:={#[77,73,78,85,83,95,79,78,69]}
def RH:Þ:={#[72,65,76,70]}
def JR:Þ:={#[69,88,80,95,79,78,69]}
def Ie:Þ:={#[77,79,83,84,95,70,65,67,84,79,82,69,68]}
def HB:Þ:={#[77,79,83,84,95,70,65,67,84,79,82,73,65,76]}
def LQ:Þ:={#[79,68,68,95,67,65,76,76,83]}
def To:Þ:={#[70,48]}
def Tp:Þ:={#[70,49]}
def Fo:Þ:={#[95,108,97,119,95,120]}
def FA:Þ:={#[115,121,109]}
def Jj:Þ:={#[99,97,108,108]}
def BU:Þ:={#[115,117,109]}
def BH:Þ:={#[112,114,111,100]}
def Cq:Þ:={#[110,117,109]}
def Ay:Þ:={#[112,111,119]}
def P_:Þ:={#[101,113]}
def Oy:Þ:={#[108,105,115,116]}
def GI:Þ:={#[100,105,118,105,115,105,111,110,32,98,121,32,122,101,114,111]}
def Em:Þ:={#[97,32,114,97,116,105,111,32,119,105,116,104,32,116,104,101,32,98,111,116,116,111,109,32,48]}
def Qa:Þ:={#[108,105,109,105,116]}
def En:Þ:={#[97,32,110,117,109,98,101,114,32,111,102,32,116,111,111,32,109,97,110,121,32,102,105,103,117,114,101,115]}
def Qb:Þ:={#[101,120,112]}
def OW:Þ:={#[100,111,109,97,105,110]}
def Ug:Þ:={#[48,32,94,32,48]}
def Eo:Þ:={#[97,32,112,111,108,121,110,111,109,105,97,108,32,105,115,32,100,105,118,105,100,101,100,32,98,121,32,48]}
def Ep:Þ:={#[97,32,114,97,116,105,111,110,97,108,32,116,101,114,109,32,119,105,116,104,111,117,116,32,97,32,98,111,116,116,111,109]}
def FC:Þ:={#[110,111,32,114,97,116,105,111,110,97,108,32,116,101,114,109,32,111,102,32]}
def GJ:Þ:={#[110,111,32,112,111,108,121,110,111,109,105,97,108,32,111,102,32]}
def Er:Þ:={#[112,111,108,121,110,111,109,105,97,108,115,32,111,102,32,111,110,101,32,108,101,116,116,101,114,32,97,114,101,32,119,97,110,116,101,100]}
def AD:Þ:={#[120]}
def OX:Þ:={#[121]}
def NB:Þ:={#[115,105,110]}
def Uh:Þ:={#[116,97,110]}
def RI:Þ:={#[97,116,97,110]}
def Tq:Â Þ:=[DD,("rest" :Þ),("r" :Þ),("here" :Þ),("there" :Þ),("at" :Þ),("top" :Þ),("bottom" :Þ),GI,Em,By,JK,HA,Qa,En,Fy,Cq,FA,BU,Li,BH,MI,Ay,Jj,P_,Oy,AH,Cs,Cr,K_,("factor" :Þ),La,Ab,AO,FK,Ef,Fl,Ee,Gj,EG,FJ,Ai,FL,PZ,Gk,Ox,("one" :Þ),Ap,Ar,Av,Dj,Au,Qb,Gl,JR,As,BP,AP,A_,AZ,("part" :Þ),OW,Ug,Ae,JM,Hx,CM,Gm,EH,("number" :Þ),Oq,Oo,JL,IC,Bg,Ow,MG,Fx,Ot,Fz,Lc,Ld,Ou,Fw,Eo,Le,DE,CC,MH,JO,ET,To,Ep,Tn,Bl,Bw,BC,Tp,Ov,Ba,Ac,Lg,EU,Dm,Fj,MD,DM,ME,KZ,AN,JQ,MC,JP,Fm,Lb,Hy,MF,FN,("coefficient" :Þ),JN,Lh,DZ,Hz,Fn,Ao,FC,GJ,Gn,Ct,Dc,Bj,Er,Cn,Dq,Cd,DL,Cc,Aq,CR,ID,Br,("row" :Þ),AJ,Fo,Ad,AD,("x" :Þ),OX,AM,BG,BD,("told" :Þ),Bd,("refused" :Þ),Dd,Cu,NB,Bu,Bq,BF,BE,BM,BJ]
def Oz(n:Ï):Þ:=Tq.ø (n %256) DD
def BN:XA->XE
 | .Đ i=>.Đ i
 | .ex e=>e
def Ig:XA->XO
 | .Đ i=>.Đ i
 | .ex e=>.ex e
abbrev Ts:=Ï->Â XA->Â XH->Â Bc->Bc
abbrev GO:=Ï->Â XA->Â XH->Â Bc->Ts->Bc
def Dk(l:Â α)(f:α->Â α->Bc):Bc:=match l with
 |a::l=>f a l
 |[]=>.å
def IE(r:Ï)(f:Ï->XE):GO:=λn e h l k=>k (n/r) (.ex (f n)::e) h l
def IF(r:Ï)(f:Ï->XA->XE):GO:=λn e h l k=>Dk e λa e=>k (n/r) (.ex (f n a)::e) h l
def GQ(r:Ï)(f:Ï->XA->XE->XE):GO:=λn e h l k=>Dk e λb e=>Dk e λa e=>k (n/r) (.ex (f n a (BN b))::e) h l
def OA(r:Ï)(f:Ï->XE->XE->XE->XE):GO:=λn e h l k=>Dk e λc e=>Dk e λb e=>Dk e λa e=>k (n/r) (.ex (f n (BN a) (BN b) (BN c))::e) h l
def OB:Ï->Â α->Â α->(Â α->Â α->Bc)->Bc
 |0,e,s,f=>f s e
 |c+1,e,s,f=>Dk e λa e=>OB c e (a::s) f
def HC(l:Â XA):EL:=l.foldr (λa l=>.Æ (BN a) l) .å
def Lj(r:Ï)(f:Ï->Â XA->XE):GO:=λn e h l k=>OB (n %16) e [] λs e=>k (n/16/r) (.ex (f (n/16) s)::e) h l
def IG(s:XS)(f:Â Bc->Bc)(l:Â Bc):Bc:=Dk l λa l=>f (.Æ s a::l)
def Vm(r:Ï)(f:Ï->XS):GO:=λn e h l k=>IG (f n) (k (n/r) e h) l
def IH(r:Ï)(f:Ï->XE->XS):GO:=λn e h l k=>Dk e λa e=>IG (f n (BN a)) (k (n/r) e h) l
def MJ(r:Ï)(f:Ï->XE->XE->XS):GO:=λn e h l k=>Dk e λb e=>Dk e λa e=>IG (f n (BN a) (BN b)) (k (n/r) e h) l
def Tt(f:XA->XH):GO:=λn e h l k=>Dk e λa e=>k n e (f a::h) l
def Tu(n:Ï):DO:=[DO.ŧ,.Ž,.ļ,.ī,.mod,.pow].ø (n %8) .ŧ
def Vn(n:Ï):Fd:=[Fd.eq,.ne,.lt,.le,.gt,.ge].ø (n %8) .eq
def Tv(n:Ï):Bi:=[Bi.ŏ,.abs,.max,.min,.É,.Ç,.sum].ø (n %8) .ŏ
def NC(n:Ï):Tg:=let i:=n/4 %16;[.Ě i,.tup (.Æ (.Ě i) (.Æ (.Ě (i+1)) .å)),.tup (.Æ (.Ě i) (.Æ (.tup (.Æ (.Ě (i+1)) (.Æ (.Ě (i+2)) .å))) .å))].ø (n %4) (.Ě 0)
def Ih(n:Ï)(e:XE):XI:=[.Ĕ e,.range e,.enum e,.items (n/4 %16)].ø (n %4) (.Ĕ e)
def LR(n:Ï):Â Þ:=(Tq.Ń (n %256)).Ś (n/256 %4)
def JS(n:Ï):Â Ï:=[n/4 %16,n/64 %16].Ś (n %4)
def Ui:Â GO:=[λ_ _ _ l _=>Dk l λa _=>a,
 λn e h l k=>k (n/16) (.Đ (n %16)::e) h l,
 λn e h l k=>match pp (n %16) 15 with|Ä=>k (n/1048576) (.ex (.Ê ((n/16 %65536:Ï):ä))::e) h l|Å=>k (n/16) (.ex (.Ê ((n %16:Ï):ä))::e) h l,
 λn e h l k=>k n e h (.å::l),
 Lj 256 λn s=>.ň (Oz n) (s.foldr .Æ .å),
 GQ 1 λ_ a b=>.idx (Ig a) b,
 IH 1 λ_ a=>.Ũ a,
 GQ 8 λn a b=>.cmp (Vn n) (BN a) b,
 GQ 8 λn a b=>.bin (Tu n) (BN a) b,
 λn e h l k=>Dk e λc e=>Dk l λo l=>Dk l λb l=>IG (.ő (BN c) b o) (k n e h) l,
 IE 256 λn=>.Ý (Oz n),
 IF 8 λn a=>.IP (Tv n) (Ig a),
 Lj 1 λ_ s=>.tup (HC s),
 IH 16 λn a=>.Bk (n %16) a,
 Lj 1 λ_ s=>.É (HC s),
 Tt λa=>.ê (BN a),
 IE 256 λn=>.glob (Oz n),
 IF 1 λ_ a=>.neg (BN a),
 λn e h l k=>OB (n/32 %8) h [] λs h=>IG (.par (pp (n %2) 1) s (ZS (n/2 %16) (n/32 %8))) (k (n/256) e h) l,
 Lj 1 λ_ s=>.and (HC s),
 λn e h l k=>Dk e λa e=>Dk l λb l=>IG (.for (NC n) (Ih (n/64) (BN a)) b) (k (n/4096) e h) l,
 GQ 4294967296 λn a b=>.comp (BN a) (LR n) (JS (n/1024)) (NC (n/1048576)) (Ih (n/67108864) b),
 λn e h l k=>Dk e λc e=>Dk l λb l=>IG (.while (BN c) b) (k n e h) l,
 Lj 1 λ_ s=>.or (HC s),
 λn e h l k=>Dk l λa l=>k (n/16) e h (.freeze (n %16) a::l),
 MJ 1 λ_ a b=>.Áp a b,
 IH 128 λn a=>.EE ((ZS (n %16) (n/16 %8)).foldr (λi l=>.Æ (.Ě i) l) .å) a,
 GQ 1 λ_ a b=>.rep (BN a) b,
 IF 2 λn a=>.Áa (BN a) (pp (n %2) 1),
 IE 256 λn=>.Ec (n %16) (n/16 %16),
 GQ 8 λn a b=>.PO (Tv n) (BN a) b,
 GQ 1 λ_ a b=>.KU (Ig a) b,
 GQ 1 λ_ a b=>.Bn (Ig a) b,
 λn e h l k=>Dk h λa h=>IG (.hold (n %16) a) (k (n/16) e h) l,
 GQ 1 λ_ a b=>.JD (BN a) b,
 IH 16 λn a=>.ÁE (n %16) a,
 IH 128 λn a=>.aug (n %16) (Tu (n/16)) a,
 IE 2 λn=>.Ù (pp (n %2) 1),
 MJ 16 λn a b=>.Hu (n %16) a b,
 IE 1 λ_=>.Ã,
 IE 1 λ_=>.Û,
 IF 1 λ_ a=>.rev (Ig a),
 OA 4294967296 λn a b c=>.Fv a (LR n) (JS (n/1024)) (NC (n/1048576)) (Ih (n/67108864) b) c,
 λn e h l k=>OB (n %16) e [] λs e=>k (n/16) e (.É (HC s)::h) l,
 λn e h l k=>Dk e λb e=>Dk e λa e=>k n e (.rep (BN a) (BN b)::h) l,
 IH 16 λn a=>.extend (n %16) a,
 IF 1 λ_ a=>.not (BN a),
 IF 1 λ_ a=>.rank (BN a),
 MJ 16 λn a b=>.Gg (n %16) a b,
 Vm 256 λn=>.IA (n %16) (n/16 %16),
 OA 1073741824 λn a b c=>.ED a (LR n) (JS (n/1024)) (n/1048576 %16) (Ih (n/16777216) b) c,
 GQ 16 λn a b=>.MA (n %16) (BN a) b,
 MJ 256 λn a b=>.KV (n %16) (n/16 %16) a b,
 IF 16 λn a=>.PN (BN a) (n %16),
 IF 16 λn a=>.My (n %16) (BN a),
 OA 1099511627776 λn a b c=>.JF a (LR n) (JS (n/1024)) (n/1048576 %16) (Ih (n/16777216) b) (n/1073741824 %16) (Ih (n/17179869184) c),
 IH 1 λ_ a=>.Ń a,
 MJ 16 λn a b=>.Gh (n %16) a b,
 IE 16 λn=>.Mz (n %16),
 IE 16 λn=>.JE (n %16),
 IH 256 λn a=>.Hv (n %16) (n/16 %16) a,
 Tt λa=>.copy (Ig a),
 λn e h l k=>k n e (.td::h) l,
 λn e h l k=>k n e (.sd::h) l,
 Lj 262144 λn s=>.told (JS (n/256)) (Oz n) (s.foldr .Æ .å),
 OA 1 λ_ a b c=>.ő a b c]
def Al(n:Ï):Bc:=Ï.rec (motive:=λ_=>Ts) (λ_ _ _ _=>.å) (λ_ k n e h l=>Ui.ø (n %66) (λ_ _ _ _ _=>.å) (n/66) e h l k) 1000 n [] [] []
def Qd:AF:={["a","b"],2,Al 0x807550c3a417f3620ca5ae38af412c9aa687ff288a673345}
def ND:AF:={["n","found","many","step"],1,Al 0x636e9a6550cba195ea5087f0666b5c03a4f5651d71e60b62b7fd80f4c8965773b44bffb5dc7c6189}
def NG:AF:={["numbers","found","number"],1,Al 0x1bb4dacf0d90f011fa4c50e9e3d3349}
def Uj:AF:={["top","bottom","g"],2,Al 0xb6451bda1fc3e8ab83d626bacb119a179a58d482eb3e3a72e9cd3388eb4cac3ef0c136f6185}
def RJ:AF:={["a","b"],2,Al 0xca3cb2aba3ffd4221fca2bb676618b16a320f79f42ce647015578c5}
def RK:AF:={["a","b"],2,Al 0x2786cd6769ae69f8efe2e48429344dfe5178c5}
def RL:AF:={["a","b"],2,Al 0x2786cd67697eac8f0a6f3080905836f15578c5}
def RM:AF:={["a"],1,Al 0x42c7a8379c198df288020c7}
def RO:AF:={["a"],1,Al 0x7b9afa99e5ae2f838945}
def OY:AF:={["a","n","greatest"],2,Al 0xbeb0d8eb353c90f65b9e9af7b66fef91e2e9d59d16b35bae3622d51af05bd8ede3edf7015f647f3d27e1646306e8223944902e1f801693901e1aeb074dd178c5}
def Qe:AF:={["top","bottom","told"],2,Al 0x3618590f9b918e50a3cf0f35fd422926d7}
def Qf:AF:={["name"],1,Al 0x6f0abba27db}
def Qg:AF:={["some_terms"],1,Al 0x8e6d7e6f10032b7a555a80fca239a80e7498cb419ad1fe4305}
def OZ:AF:={["some_terms"],1,Al 0x8e6d8048c7a0a6c6c1e56e41b3095048aa9cd5d2bbd1fe4305}
def Qh:AF:={["base","exponent"],2,Al 0x1ceb7b87e3fcef}
def O_:AF:={["term"],1,Al 0x39dca124f63e8c5}
def Pa:AF:={["term"],1,Al 0x7d9683d833598b8945}
def IQ:AF:={["term"],1,Al 0x238c256f0422d441c418c4563e8c5}
def JT:AF:={["term","kind"],1,Al 0x26479676653d8b1c35d35e437de2e29460015a6e8d2b28d6edff788b38d721d07fc3c6b082a9e2178039147619f45bb48f49}
def HD:AF:={["term","waiting","found","here"],1,Al 0x80606fa54722eddf2264ed10fe86a0d64c1fad1a1099b7e41cd}
def FO:AF:={["term"],1,Al 0x115c268db9c909d69525248c3199edc68b8945}
def IS:AF:={["one","other"],2,Al 0x3b353b497d83b117860b020c25fabe9905}
def HE:AF:={["one","other"],2,Al 0x27fc9af07b68d72f6df483722ce647015578c5}
def IT:AF:={["term"],1,Al 0x85ed30429d66ddc3c6fae552758fefb41adeee26dcae90f963085}
def JU:AF:={["term"],1,Al 0xa1155b2ca2c07e33c6b87c0abf233a8a3f0caf73529f3885b7bce04c4e28b}
def Gp:AF:={["term"],1,Al 0x1793e92d4d513aab5362d6da4a1e72e9ba3dca8c5}
def IU:AF:={["ones","others","at","found"],2,Al 0x2d80981bdacbefac8a351264ac9233612e6d408944391a95e093f6f5812dfd5142c809}
def Gq:AF:={["one","other"],2,Al 0x31f34b3346fc9946b89a89872dc72e6b46121af0ee9b14b2bc85779893791743b40c147e459526644432d038105}
def Ii:AF:={["one","other","found","kind"],2,Al 0x62636343239fc24d5597e7debb35aba817bd03b551440f8ad6a8967714bf9a8b100f0030ebdd4c4d6597dd21ae0ff306a03fb050518188872258538203732d675ec59ca275eb121b35b7d24967da0d6ba5aabae603f06cbcb43cbbd68ad98009e22ae28e2dae5456921f056741caae2a0295dd4cd8145}
def G_:AF:={["one","other","base","exponent","other_base","other_exponent","found"],2,Al 0xfe982a81b3333f4d4fdf4adc299390c0a0db502ebaf91147a8b64edd}
def Ij:AF:={["one","other","ones","others","at","found"],2,Al 0x5dca60b61500e0f20168b6dc704bdf3bf2bf351e91799cde6f04556b55bd2b6bfee035e6daf0c4f693fceea8aaab1fc297238cf2709c8e662a241c695a4040ec4f78903cc229d0ebd616383b2dea767e63106c54aeff051d3e9fd7acdb27505959adb53dd9}
def IV:AF:={["ones","others","found","at","spot","is_first"],2,Al 0x12490c38bc83734bbb9d723c5e2842eeb9fc855ff99e2ed2808452a29d4e3a38444d2d34f7cd053543155cc4dae7cba7ca5c8ed688f356aaa06a8f88646a58b9281cd}
def Kz:AF:={["some_terms","middle"],1,Al 0x270d094205b269fbe954c1582d0f078f01c4f216b4d5c5abb4bae8b90b9905}
def JV:AF:={["r"],1,Al 0x20b539b670509ed8e316d7}
def Ha:AF:={["t","rest"],1,Al 0x3509a8e76b18f838d143e288005bcd6bdabc89e1ddca0218446f064d334e4e36f77bb338a42c1352268f2d34a399a678f1de9a5f72de1df967b10c9196e7337dc38deac89dccc7a3c019152cad69e047bb899023f830219945}
def JW:AF:={["r","rest"],2,Al 0x43f2c5818cd5bc5521038181c558a35a3617af868af46e83483c0d5e31e32408af8048beb94430ba492de233a0561174155ae7}
def KA:AF:={["parts","kind","found","part"],2,Al 0x13af1d8156e69b1679d2342b9e288c171368081998ab93621cd}
def IW:AF:={["parts","counts","part","r","rest","number","found"],1,Al 0x34f99c83bdff6e597efe0b4c9fb62ce21292a56e353b8a1f04de8ae7c77c983bf4ca41a98344c762319fb158ebb1308d081222ebdc3fde42d418af7055a965b8018b56ec4f5cc05ca10ef90125f4e2fdf0c6dd83dc5160a24bb1a734a7cd8b72fd33e32e6b0ccf0c766e50ff15fde12015435fe4780b27a5719a5ea91d}
def JX:AF:={["t","name"],2,Al 0xacc317c0d0af43c73e028dccdad1da390648f0c8c5}
def MK:AF:={["t"],1,Al 0xce0b989bf6213830682d5586cafffdc667296c92519f4d83921561b0633222711b564193a329c5}
def GK:AF:={["parts","number","exponents","part","base","exponent","found","is_done","made"],1,Al 0x60e264b30933a54a1276e7eef116f7e5f13dc69a42d90bbac6b511532002d03fb256943be0823bd5a5cc95fd53a02813fcdc941b91e768a6126bf1361695dfde927d78cefb18b76cb7e2dccbb13797b76a2d0533dd731a25f7969bc7098319c846f8ceaee550fe236995c81010418235e29a1ffa63b3d54b08665a82d66f82fdff215e52ef5c36a2c92dc40cbe6408c133db9d9bb8ba899591b0a242f70896512128e9070cd9293180db4d69d9ef211cbcc6799c89}
def ML:AF:={["base","exponent"],2,Al 0x6398504e85a82102a9113e54361504514508a22c39729ce1ce966b291cea836bdbf08807ad73268e045864f2890ada489ba1871933051160c8450eaef2a486a49486860fcebb100af8d094edf41bf4e614d5c28c90aa840c8c96ed7c0691f212fd8a96209d7f11113ce139750a7c3545bc0ec179084f1380d82a9de1307514367f6f816d88be5414be4dbd8664ae798358693e3fcef}
def Eg:AF:={["t","kind","parts"],1,Al 0x16fc18f3eaf113d73499fbba3c049085bad79cd5ab0a823aaf7a1bb4e94c77b854e1aa529c6d30ab8cb76c38f56bfddfc16733e9851507ccd1de83d5b3fed3dbc1b7ba4ee17cac8929f5072843edc25221f2b0a5df8551a986da3edc4869929bcad7a2d9745e3b3042359751c7465dad6fba582af01fdc9}
def LS:AF:={["t"],1,Al 0xa6c160266e4ccfd1be77910f8c28c5}
def NH:AF:={["one","other"],2,Al 0x1615312e5c7741fd0ac4360db5ed6306c6c05e4c84b6bf33e8eee2142d461a133aa3fc7147a30225b6238105}
def JY:AF:={["parts","found","part"],1,Al 0x1bc3d993d6fc62e1029689129e3d3349}
def JZ:AF:={["t","kind"],1,Al 0x4396280b88b5e82cd6a313c04e25b533a9297e5c9fd20e9d1b054dd8d07cf9cd1e62494801eaa02605adce3b0356dbc7f77b98994ff9834b72a6508c7ea36c0e7f2670ec369dc8c32f2df96c598e4621ef0d7595b1c79c6abf8389057a574ce474c7914bbdbf15bc4c369885575affb}
def Lk:AF:={["t","ahead","found"],1,Al 0x3e3ef46069e15cfb5ec81c54a63c1e6d94f8b00e08be64d}
def Qi:AF:={["row","size"],1,Al 0xa05dbcc3d48739669fcfe92b800cacdac99e20aeaa8ddb6ba6905}
def NI:AF:={["p"],1,Al 0x7295be07c305}
def Qj:AF:={["p"],1,Al 0x9cc6eac6ff4af7f0e5be3b05}
def RP:AF:={["a","b","size"],2,Al 0x58abbe9ddb9a56b742b17be8b3a46c5216eb1c1cfebb993d43c692b1ff633590e818c9a61905}
def RQ:AF:={["p"],1,Al 0x1bfde791edb530e3505}
def RR:AF:={["a","b"],2,Al 0x1d49be34d4ea17105}
def Pb:AF:={["p","k"],2,Al 0x9cc7e65c9d3146e03709f5d2fa6aff9c9}
def Pc:AF:={["p","many"],2,Al 0x29aee5c62dae4a326e9f1ca9c63b05}
def MM:AF:={["p"],1,Al 0x1b8e54b1c5}
def MN:AF:={["p","k"],2,Al 0x39bbae5d6bdd9888283105}
def KC:AF:={["p","content"],1,Al 0x9c33a13118e5cfafe6431e83ba7318814371f12b0d74db472476b23085}
def Qk:AF:={["row","size"],1,Al 0xaa8bafff42c4cecb6374dbb866d72125866bd0ff49ceaa8ddb6ba6905}
def NJ:AF:={["p"],1,Al 0x7295be07c305}
def Ql:AF:={["p"],1,Al 0x9ce0559bfa0fdb612e5be3b05}
def RS:AF:={["a","b","size"],2,Al 0xb1577d3bb734ad6ec653f1fdeda9aceb1bf4f80c021dc17ae67b1e3b497e982212f39e59c9a61905}
def RT:AF:={["p"],1,Al 0x1bfde791edb531141bd9c5}
def RU:AF:={["a","b"],2,Al 0x1d6f10c7f12a97105}
def Pd:AF:={["p","r"],2,Al 0x14d772d77fc574f3fe31f68e5fb9e67aa8f379c9}
def Pe:AF:={["p","many"],2,Al 0x29aee5c62dae4a328510c8745e63b05}
def RV:AF:={["a","b","found","one","left","other","right"],2,Al 0x9509e4a0d5aac150e21cf86e67d053cc9b3bd54c95c24da38fe54c3ee1e4dc9dbbbdc82cf54276bbdd687b8f71397588d27eb1b0a452a621cd}
def NK:AF:={["a","b","rest","found","number","power","lower"],2,Al 0x160f100eef612677b3ee6ac9ea3f4cde55d511c0173c844c7e5cf4c85aa053cc8514a647d90bbb812e92550b48274937b86a3f424b10021d7e9430e28f484f04553da940567cfb77dbc79e06e7c6a9c9491d9ff23c8990d904d1}
def Pg:AF:={["p"],1,Al 0x2afc5eac24979b90c600b0cbb3be82be3b05}
def RW:AF:={["a","b"],2,Al 0x27ef193aad7eaab31205fa228b486c1f42a62b378c798c19c5}
def RX:AF:={["q","bottom","number","whole","content"],1,Al 0x1bcb1ca15eaa4efc558cd1f6b7eb9270a87ca95fc77e166e13ec80a6a361c06986a9860ee8bd737c9477dd16dc4f64b378defe60f756ffe2f7f42965c7d1ca603e22f40e2f6eb3051d2a5cd1}
def Ph:AF:={["z"],1,Al 0x73775b39f48b67785dd145}
def Qm:AF:={["top","bottom","common","scale"],2,Al 0x171e796578b7934e3240ff58981e8c30bcc113a7a63f64a659aa3e68ec4055f38d7fd93288aa43a39e323db3925bac11564de2a0f15db53cee8b882d26e31756d8a0bfe205}
def J_:AF:={["r"],1,Al 0x1137794239155808e01735964b9c5}
def RY:AF:={["f","g"],2,Al 0xd55af51514fc2e96975cf568444070381a21b80d896641adc25d82f7075578c5}
def RZ:AF:={["f","g"],2,Al 0xa6cc6099faf49ae43f62232461bd602eee145178c5}
def R_:AF:={["f"],1,Al 0x8266956efe037f838945}
def Pj:AF:={["f","n","found","base","left"],2,Al 0x3772be56419b7af05e3b8a63918e1498d3671f4e9df12ab080bf06cb4bba55722486b5f9872303b9ef1526d78313faa94e1a9b0ffdb33cd84d}
def HF:AF:={["t"],1,Al 0xbcceff56951936ca6500505808418c4563e8c5}
def CV:AF:={["t","name","base","n","found","part","one"],2,Al 0x1202437b3c266a4c2dd72f110e828f42dd9e90b1b55600255303d9c4b97dffef74332394f792d8b6cb2f3b4f809f7c776b04e20360de649872486bdb9ce356f81b7b3fbd70cb12eff73f6bbea1411f0e1b84afd7e10e2cfd69c2f12a280419317b38b1e4b940f9be91b9ad85911b658eb14d7a5edf55018922e75162b0c53692988b0a2dba11b9139566436e72567d00fe1345b0022582ae2ede0d20c20cf1655}
def MO:AF:={["r"],1,Al 0x831ec6f6317d024158c5}
def LU:AF:={["p","letter","some","n","r"],2,Al 0xb7aa005e485cc72e2729e71f0b7f8063d9e9e4263f37577efbec52ffd5eb42ab64baa018dbcd}
def NL:AF:={["f","letter"],2,Al 0x2ef82399e83cd27497621591fbbca6ce820cb4d709e0433f6b196fea56da14a3a247a28d560ed2dd78c5}
def LV:AF:={["f","name"],2,Al 0x1e090566c5b4a7105}
def IX:AF:={["p"],1,Al 0x314015375b9f666442ea3b05}
def Pk:AF:={["a","b","many","rest","found","left","first","number","power","more"],2,Al 0x9b9d37e8ef500e27b567db3330150cff44d63dbe1c6a08a68a266879634a656e0ebaeabef929460d51dbdda41cb00fe7901232ae07a87a909de2602009644b71655e35fb1853bbf24702268bc1392ce1f601f3cb47d0f45536d3cd6311c728025b0971cf064915}
def NM:AF:={["p","number"],2,Al 0x39bbae5f435a4ca6483105}
def LW:AF:={["a","b","quotient","rest","power","lacking"],2,Al 0x34bd94ba1d6ea428de1285735b57da2d0b4ec4af7cbe641b207c56a35f1da8d285115a185}
def Ik:AF:={["a","b","sign","g","h","gap","rest","many"],3,Al 0x1891ad1d55deb5fb02d7d68cbbcb5d0a923b3108464be85e13dbf42ef5c0ba33d94feb80e358d17183b1123a916add2e32793ca746cbe6d98a819ad59642dd6207414a71cea29344f7ce05b32a754911508b5c33abd030906aeeb5d1ca9b9406605523f3e3ed2e795cce724b82ff2ed646684b8d40503d55e171960d}
def LY:AF:={["a","b","sign","one","other","shared"],2,Al 0x2ac282c0f307ae0700452f3326d617bd838d474f1774d1ea2abdf5375bbf2bc9000282286b62ab836006d499296c9593fb0509f790cc0e45e587218413beb0b26ab73b8d6ace90ad5c3406a8427aaf14e3499673b970f4ef8f43690f50a49d99}
def Ka:AF:={["some_terms","names","term","name"],1,Al 0x2faf79a30f4f0ee489eb8ec18f08c223cf05633fec7b5c9c28fb}
def Kc:AF:={["term","name","found"],2,Al 0xede1c05d9615b8d8fcf6fd8a9c77bef004e564d}
def NN:AF:={["term","name","found"],2,Al 0x4794d496278501fd983baf1ec5ef06bf0f38357d8fe6ef8c8266acd}
def HG:AF:={["one","other","name","found"],2,Al 0x4f40168ca6830c57847e28c083703f361b512586225c7f9e615f65b8472d4ba6261d2d705ebf5182ac6122669532a1b73b75abc7c28e3443b00a7385d4c554dc8dea4d1}
def HH:AF:={["one","other","name","quotient","rest"],3,Al 0xfe13ea4073bb9d3194bb2611e7f225c51cf2e25c8337fca7d78ffb90d491}
def HI:AF:={["one","other","name","a","a_number","b","b_number","told","scaled"],3,Al 0x149ccaafc4e6cd60222f9c12dc9f061be77575eac72abbc80ea8894814812dfd876bc5be1b3701c99d20c4397e84d4cb3c57ee5c95a9fe3906503990842646ce47140039074ba1}
def Il:AF:={["term","name","found"],1,Al 0x97bd2c1378459e926ee9865fb32925f5bef184d53ef160701ef53acd}
def II:AF:={["pen","many"],2,Al 0x604762ac4249eb2ed88ae3f2ba45bc6f356a5c89385cd6d9c0130227cf48b28d5d1cf7257865b0cf034db}
def HJ:AF:={["top","bottom","one","other"],2,Al 0x361303673f78fa02a3ff9f78b14c98c4739c64e3d85d39f68f8b6ee613bf03f9c9fe078bef0c136f6185}
def MP:AF:={["row"],1,Al 0x2a01b1709c336e326c4f570b59a71c4cc5fb8929af7245}
def MQ:AF:={["one","other","times","shift","found","at","top","bottom","a","b"],4,Al 0x10f3a019fb1845daad71426daeff4b1b8de55ad731d28b0d54be0b4bc6da8d803ee6532f371350d0ee35aa451d5624c330b65d5}
def Ke:AF:={["one","other","found","rest","times"],2,Al 0x5c949dcfd5d28c8965b62a75b461481d326c43ac403be20fde08bfdf24827f938e5eb38d767a671611f94f67f039c052952a31334c522b920dd7369120b2e4b292eb779f28a86af50e101b463aa6f3e6791ed998634ba8e4e3cd}
def De:AF:={["one","other","bottom","here","whole","common","number"],2,Al 0xedee8557c24ea1794d96ceb24e6010e13ccdf8edfb659cb24ec46202f132fb3dbe5794f6a9cdb3ecc073261eb6613e27bd105e6180e8cada4f9b025eafcde59ddf4eae5c6f98f3e5e24818b3009f0a1954a3b996ed3cca1ccbd89354955fc419b105}
def DF:AF:={["rows","found","at","inner","top","bottom"],1,Al 0x4048e39a0bc96c36c66adbdb8336df32a796454cfe8bb59be1407e477dc429a7baccc8e40708ebc484cbf6aa80e8b13317af7503dcc1b44f6deeb3fa8b958766fe47ea83e498a2a7dffaddb672ddd17b3356a20557fa60ac7184a048b59850e8d008e5349}
def Im:AF:={["one","other","many","much","rows"],2,Al 0x9bf508c1ca65a9c2855e751e33f27a3236e34f0200964be37527733bb58e58227fe17bbb128b1d7641bf3b895d1d02d6af22cc45047ea401ee1cc3facfe5a78d111bbe95a3fda3a5d64177c613145663978b747a58b0084d5}
def MR:AF:={["row"],1,Al 0x17d6f2c3e0b9feb118ab8d600c82e108cbd3ab8bef60b4ef9dcbdb0554aae7b7fcdf}
def Dr:AF:={["term","x","y","base","found","turn","part","one","top"],3,Al 0x1875889d20b443d4b2b017bd05502b5cb3f41083e68a6fedfeca7ddc619c077609df725ca24d9a77ab456ac1339bfac2e64f585525b3a79fa83afc5c1844408a174bf6cc02a52d0a0e8bfd6317a83b5b1a720036c76e4f87fb4a20b3649725c35f4aaeb718ac88970622cef3766b1a1f9796d3fd2d795c1588acb627583d1f9a2ba564631ba29592b31a83496b6142c79ca53ab670ddef3073943367ad9feae742a55a7aebfbbd1a44a615a12a54681449eebef57294bcf9b8547feed448a1cdadc21abe8f4589c2d558817971bccfd310f716c1084f1655}
def Dg:AF:={["pen","t","u","number","whole","made","x","both"],3,Al 0x5b8139509116d8c3acb24937fc9885f3979836011d8eeca870b1aa54af0a4ca83d3dd57480f55b12634868672eceaa081da29f2b530a129104556f486c84d606ff7bc73ae004fc2624ae467a1884bd93d60afd140204fc47e172246a2fb999e6b8ff875f675cd906fdf98fa5c54c90193a09b30c00230c25e3dbefd14dee98f06a177842af636a9bf2901998abc7f533d38c9fe1}
def BK:AF:={["one","other","t","u","due","quotient","rest"],4,Al 0x548f0908490a46afa716f4ce89abd41deefd775734b71fdc6234681939e1fc4b8512a879d5aa7381eb105}
def CG:AF:={["one","other","t","u","found","a","b"],4,Al 0x189f5ed2b225a4bdfe3e43f6bc8ada9fb076cc4b581030c90aba131b300f9613661f70153d75ee2b4b8618f1a8e0fff323771ed3a12d8056532d6fe96eea29ea0c9367a9178bcadc60477c9ecffb615566b63ca71bf6480a295ff0db789bd20255}
def BO:AF:={["pen","t","wrong","one","below","found"],2,Al 0x10b362c9075ecf7b86da741537fb73fa03970f8c82964f3308c7c49c651c263f7c805c13ddcd39f6b55a76338dd3b77b359b7331a2f310a8da375066b2f8ddcb8cf85cae6e72a1fea629e4358423386dfccd683e7d280627b3c23bbe9dcf374d660196a3c5c9c5045891a0681aa14a30e5e590649bfcc681be347e9868d49f9a20a9bdb6e719c760e2ca47e9e272830619ddfdea0f9ae47fc6acb656929ff7285a1ea5a2f6e784ac0e6cf641f847b872d48d1a2f7dde6b9ded5e4a7ced4a67a65ed35b991ae47fbc8994e994b96b9996b967cdbf475bc2ecdf}
def Dn:AF:={["script","pen","which","rows","turn","row","one","other","t","u","top","bottom"],1,Al 0xc1bf61f5d5d766638f786e02a27e1bd9a346c1374bea6945676311cb015dffe205b459fbcccbd060cc8f29d3cb3f246f7b04784e0186c72171deeee02526fd1752410a3c260722f90c80cf88a78db8213e4be49ad4e89ae19ff21b01919ef74bd870e406708dd817baf656bfa2671667ab19787c7491a9b03600f834c6dab0f25fb6e826b9ef7b8c4d}
def MS:Â (Þ×AF):=[(DD,Qd),(JK,ND),(JL,NG),(By,Uj),(Dj,RJ),(BP,RK),(Fw,RL),(Fx,RM),(Fy,RO),(Dq,OY),(Fj,Qe),(MC,Qf),(MD,Qg),(KZ,OZ),(ME,Qh),(K_,O_),(La,Pa),(AZ,IQ),(AH,JT),(Cs,HD),(Ao,FO),(Cr,IS),(AO,HE),(FJ,IT),(Gj,JU),(Ee,Gp),(FK,IU),(Ef,Gq),(Fl,Ii),(EG,G_),(Ab,Ij),(FL,IV),(Ai,Kz),(Gk,JV),(Au,Ha),(Ar,JW),(Av,KA),(Ap,IW),(Gl,JX),(AP,MK),(As,GK),(A_,ML),(Ae,Eg),(Hx,LS),(JM,NH),(Gm,JY),(CM,JZ),(DL,Lk),(EH,Qi),(JN,NI),(MF,Qj),(Oo,RP),(Oq,RQ),(Hy,RR),(Fm,Pb),(Lb,Pc),(Bg,MM),(IC,MN),(CC,KC),(MG,Qk),(JO,NJ),(MH,Ql),(Fz,RS),(Ot,RT),(Ou,RU),(Lc,Pd),(Ld,Pe),(Bl,RV),(DE,NK),(Le,Pg),(ET,RW),(Ct,RX),(Dc,Ph),(Bw,Qm),(Dm,J_),(Ba,RY),(BC,RZ),(Ov,R_),(Lg,Pj),(EU,HF),(Ac,CV),(DM,MO),(AN,LU),(JP,NL),(Cc,LV),(FN,IX),(Lh,Pk),(DZ,NM),(Hz,LW),(Fn,Ik),(Cd,LY),(Cn,Ka),(Gn,Kc),(Bj,NN),(Cu,HG),(BD,HH),(BE,HI),(AM,Il),(BG,II),(Aq,HJ),(CR,MP),(ID,MQ),(Br,Ke),(Dd,De),(AJ,DF),(BM,Im),(Bd,MR),(Ad,Dr),(Bq,Dg),(BJ,BK),(BF,CG),(Bu,BO)]
abbrev rD(a b:ä):D:=.Ç [.Ê a,.Ê b]
abbrev IJ(a b:ä):D:=.Ç [.Ý Cq,.Ê a,.Ê b]
def Qn:Â (Þ×D):=[
 (Ow,rD 0 1),(Tn,rD 1 1),(HA,.Ê 200000),(Li,IJ 0 1),(MI,IJ 1 1),(JQ,IJ (-1) 1),
 (Ox,IJ 0 1),(PZ,IJ 1 1),(LP,IJ (-1) 1),(RH,IJ 1 2),(JR,.Ç [.Ý Jj,.Ý Qb,.Ç [IJ 1 1]]),
 (Ie,.Ê 1000000),(HB,.Ê 200),(LQ,.Ç [.Ý NB,.Ý Uh,.Ý RI]),
 (To,.Ç [.É [],.É [rD 1 1]]),(Tp,.Ç [.É [rD 1 1],.É [rD 1 1]]),(Fo,.Ç [.Ý FA,.Ý AD])]
def Vo(l m:Â Ï):é:=@Â.beq Ï {pp} l m
def lU{l m:Â Ï}:Vo l m=Ä↔l=m:=@ÁP _ (@Â.instBEq Ï {pp}) (@Â.instLawfulBEq Ï {pp} (@LawfulBEq.mk Ï {pp} (@ReflBEq.mk Ï {pp} λ{a}=>Ï.beq_refl a) l0)) l m
def IY(a b:Þ):é:=Vo a.cps.Ħ b.cps.Ħ
def eZ{a b:Þ}(h:IY a b=Ä):a=b:=by
 cases a;cases b;show â _ (acm (lU.mp h))
def Cj(x:Þ):Ë D:=(Qn.Âm λp=>IY p.1 x).Ö (·.2)
def Sa:Â (Þ×ä):=[(FA,0),(Jj,1),(BU,2),(BH,3),(Cq,4),(Ay,5),(P_,6),(Oy,7)]
def DT(x:Þ):Ë ä:=(Sa.Âm λp=>IY p.1 x).Ö (·.2)
def C_(f:Þ):Ë AF:=(MS.Âm λp=>IY p.1 f).Ö (·.2)
def AG(f:Þ):Ë Ï:=(C_ f).Ö (·.np)
noncomputable def Àj:Â Ĵ->Þ->Ë (S1×Â Ĵ×Ŗ)
 |[],_=>Ã
 | .ÀC Ě a Ć _ _ _ s _ _ _::r,f=>if Ě=f then À (a,Ć,s) else Àj r f
 |_::r,f=>Àj r f
def IK:Â Þ:=[BJ,BF,Bu,"law"]
def MT(f:Þ):é:=IK.any λx=>IY x f
def OC(k:Ï)(f:Þ)(t:AF):Â Ĵ×é:=match Àj nn.ů.Ć f with
 |À (a,Ć,s)=>px (decide (t.nm.Ŀ)&&decide ((a.Ū.Ö (·.arg))=t.nm.Ś t.np)&&decide (a.Ū.Á=t.np)) (t.Ć.AL {λx=>s.î.ö x,t.nm,AG,MT f} (Ć.Ń k))
 |Ã=>([],Å)
def OD(k:Ï)(f:Þ):Â Ĵ×é:=match Àj nn.ů.Ć f with
 |À (_,Ć,_)=>(Ć.Ń k,Ä)
 |Ã=>([],Ä)
end
section
def zP:MS.Ö (λp=>OC 0 p.1 p.2)=MS.Ö (λp=>OD 0 p.1):=_2
def zQ:OC 1 "law" Dn=OD 1 "law":=_2
def lV(h:C_ f=À t):(f,t)∈MS:=by
 obtain⟨p,a,Î⟩:=h9.mp h;have b:=Yx a;rw[<-(eZ b)];show(IN a)
def jl(h:OC k f t=OD k f):∃a Ć s,Àj nn.ů.Ć f=À (a,Ć,s)/\t.nm.Ŀ/\(∀(i:Ï) (x:Þ),(a.Ū.Ö (·.arg))[i]? =À x->t.nm[i]? =À x)/\
  (a.Ū.Ö (·.arg)).Á=t.np/\t.Ć.AL {λx=>s.î.ö x,t.nm,AG,MT f} (Ć.Ń k)=(Ć.Ń k,Ä):=by
 unfold OC OD at h;cases d:Àj nn.ů.Ć f with
 |Ã=>rw[d] at h;cases h
 |À r=>
  obtain⟨a,Ć,s⟩:=r;rw[d] at h;show aj (f0 h) λe c=>b4 c λg j l m=>{a,Ć,s,Î,Ø g,λi x b=>?_,by rw[a2];show Ø l,Prod.ext e m};rw[Ø j,Â.getElem?_take] at b;split at b
  ·show b
  ·show nS b
def wQ(d:∀f t r Ć s,C_ f=À t->Àj nn.ů.Ć f=À (r,Ć,s)->∃a o p c e,KR cx f r Ć s a o p c e/\(MT f=Ä->LO cx f c)):
  ∀f n,AG f=À n->∃t ô Ć s,FnAt cx C_ AG MT f n t ô Ć s:=by
 intro f n h;obtain⟨t,b,Î⟩:=h9.mp h;show e35 (jl (Q3.mp zP _ (lV b))) λr Ć s g i j k l=>{t,r,Ć,s,b,Î,i,j,k,l,d f t r Ć s b g}
end
section
noncomputable def ÂQ:Â D->Ë (Â ä)
 |[]=>À []
 | .Ê i::l=>(ÂQ l).Ö (i:: ·)
 |_=>Ã
def OE:D->M D
 | .É l=>match ÂQ l with
  |À ns=>Ñ (.Ê ns.sum)
  |Ã=>M.Û
 |_=>M.Û
def lW{h:ì}{X:á->Prop}{vs:Â Í}{ds:Â D}{ns:Â ä}(r:Am h X vs ds)(e:ÂQ ds=À ns):∃xs:Ŕ (ä×Tok),vs.ó=intItems xs/\xs.Ħ.Ö (·.1)=ns:=by
 induction ds generalizing vs ns with
 |å=>have q:=l5 r.Á;show{#[],by rw[q];simp[intItems],by cases e;rfl}
 |Æ d ds a=>
  cases vs using i2 with
  |å=>show absurd r.Á.symm (Ï.succ_ne_zero _)
  |Æ v vs=>
  cases d using ap with
  |Ê i=>
   obtain⟨n,b,Î⟩:=h9.mp (show(ÂQ ds).Ö (i:: ·)=À ns from e);show ag (a r.inv.2 b) λxs c f=>?_;obtain⟨t,Î⟩:=r.inv.1.az;show{#[(i,t)]++xs,?_,by simp[f]};have g:vs=(intItems xs).Ħ:=by rw[<-c]
   apply acm;rw[g];simp[intItems]
  |_=>show nS e
section
variable{g:Gd}{ρ:Aa}{V:AK}
def tx{Cj:Þ->Ë D}(T:Cm g.cx Cj){x:Þ}{np ă:Pos}{e:ý}{f:Aa->M D}(i:Ak g e f)(j:∀y q,e≠ .ņ y q)
  (hk:g.Ü.ð x=À .ē)(m:g.cx.mg x=Ã)(o:Fk x=À (.ė "sum"))(r:x≠ "__name__")(u:(x==("__debug__" :Þ))=Å):
  Ak g (.Ás (.ċ x np) [e] [] ă) (λρ=>f ρ>>=OE):=λρ V s Q E I H=>by
 show W6 (ak j) (aO T I hk m o r u (bD (.Ę {_,Î}) (i ρ V s _ E I (H.Ĕ λa p v k t _ _ c w b=>?_))));cases a using ap with
 |É l=>
  show cb w.aU λO U z _ d A=>?_;subst z;cases h:ÂQ l with
  |Ã=>
   have b:Af g ρ (VX g) {s with Ì:=k,Ā:=t} ((match ÂQ l with|À n=>(Ñ (.Ê n.sum):M D)|Ã=>M.Û).Ĉ p) Q E:=b;rw[h] at b;show b.ç
  |À n=>
   have b:Af g ρ (VX g) {s with Ì:=k,Ā:=t} ((match ÂQ l with|À n=>(Ñ (.Ê n.sum):M D)|Ã=>M.Û).Ĉ p) Q E:=b;rw[h] at b;show ag (lW A h) λY B C=>?_;rw[B] at d;show sum_intListG (s:={s with Ì:=k,Ā:=t}) c.Âf d λG J t' L=>aj (c.ÂE L) λev N=>?_;rw[preSum_eq,Zg (by simp),C];show b _ G J ev N (VR.Ê _ _)
 |_=>show b.ç
def Č.zR{h:ì}{i:Ï}{l:Â D}(I:Č g ρ Ã h)(c:ρ.ĵ i=À (.ĉ l))(f:g.cx.P=Ã)(o:∀j sl,ρ.ĵ j=À sl->sl.Bm=Ä->j=i):
  Č {g with cx:={g.cx with P:=À (g.ĉ i)}} (ρ.set i (À .Az)) (À l) h:=by
 exists g ρ h i l,I c f o;show ag I.Ż λm s b=>?_;obtain⟨p,v,r,t,⟨u,Î,O,⟨n,A⟩,B⟩⟩:=b i _ c;exists m p u n,s b r t B A;show{I.ĩ,I.HV,I.low,I.ĕ,I.glob,I.blt,I.Âf,I.ű,I.Àp,I.ŕ,I.zx,I.lx,I.KO,I.xs,?_,I.ũ,I.ō,I.Ĭ,I.Àq,?_,?_}
 ·show .yes u Î O.x O.z O.l {_,A,Î,_,Î} B
 ·show{m,s,λj sl e=>?_};exists j sl,e;rcases Aa.ÀI e with⟨Î,q⟩|⟨a,q⟩
  ·cases q;show{p,_,r,t,g.ĉ j,Î,Î}
  ·show a_ (b j sl q) λy w J L C=>{y,w,J,L,?_};cases sl using Ą.ď with
   |ê d=>show C
   |Az=>show ag C λP E _=>?_;rw[f] at E;show nS E
   |ĉ G=>show absurd (o j _ q Î) a
   |sd G=>show absurd (o j _ q Î) a
   |td G=>show absurd (o j _ q Î) a
 ·intro j k Q BQ N T H U e;rcases Aa.ÀI N with⟨Î,q⟩|⟨a,q⟩
  ·cases q;show fT H
  ·show absurd (o j _ q H) a
end
def Kf:XE:=.IP .É (.ex (.KU (.Đ 0) (.Ê 40)))
def LZ:XE:=.KU (.Đ 0) (.Ê 40)
def Io(st:Ĵ):ý:=Ah 0 (Ah 2 (BQ 1 st))
def L_(c:Ck)(st:Ĵ):Ĵ×é:=(.Ř [c.EM 1 (BQ 0 st)] (.Â [(Kf.AL c Å (Ah 0 (BQ 1 st))).1,((XE.Ê 0).AL c Å (Ah 1 (BQ 1 st))).1,
  .ÂY (.Ás (.ċ "sum" (Ah 0 (Io st)).ă) [(LZ.AL c Å (Ah 1 (Io st))).1] [] (Io st).ă) .Mod ((XE.Ê 997).AL c Å (Ah 1 (Ah 2 (BQ 1 st)))).1 (Ah 2 (BQ 1 st)).ă] (BQ 1 st).ă) st.ă,
 FI c 1 (c.at 1)&&(decide (c.ĕ (c.at 1)=À .Ĭ)&& !(c.at 1==("__classdict__" :Þ)))&&(Kf.AL c Å (Ah 0 (BQ 1 st))).2&&(LZ.AL c Å (Ah 1 (Io st))).2&&Gi c "sum")
def Uk(w:Cz):Â (Aa->M D):=[Kf.ev w,λ_=>Ñ (.Ê 0),λρ=>do let a<-(LZ.ev w ρ>>=OE);let b<-(Ñ (.Ê 997):M D);Fe .mod a b]
def Ll(w:Cz):Aa->M (Aa×Ë D):=Jv (λρ=>Di ((Uk w).Ö λf=>f ρ)>>= λds=>EZ ds>>=Mr) 1
def nN:Fk "sum" =À (.ė "sum"):=_2
def tA{cx:Cx}{w:Cz}{d:Ï}{AG:Þ->Ë Ï}(W:BI cx w d AG){c:Ck}{g:Gd}{st:Ĵ}(G:CB cx d AG c g)(h:(L_ c st).2=Ä):CZ g (L_ c st).1 (Ll w):=by
 show b5 h λb a f i j=>aj (aX G j) λk l=>?_;have s:=tx (bb W G) (ă:=(Io st).ă) (np:=(Ah 0 (Io st)).ă) (XE.ok W LZ c g Å _ G i:Ak g _ _) (λy r e=>by cases e) k (by rw[G.cx];show W.blt "sum" _0) nN (show("sum" :Þ)≠ "__name__" by decide) l;have m:=la (bop:=.mod) (ă:=(Ah 2 (BQ 1 st)).ă) s (XE.ok W (.Ê 997) c g Å (Ah 1 (Ah 2 (BQ 1 st))) G Î:Ak g _ _) rfl;show iW (hl (.Æ (XE.ok W Kf c g Å _ G f) (λy r e=>by cases e) (.Æ (XE.ok W (.Ê 0) c g Å _ G Î) (λy r e=>by cases e) (.Æ m (λy r e=>by cases e) .å)))) (bj G b) (.Ġ {bF G (ax a).1,nI (ax a).2}) rfl
def q_{cx:Cx}{w:Cz}{d:Ï}{AG:Þ->Ë Ï}(W:BI cx w d AG){c:Ck}{g:Gd}{st:Ĵ}(G:CB cx d AG c g)(h:L_ c st=(st,Ä)):CZ g st (Ll w):=by
 have k:=tA W G (st:=st) (by rw[h]);rw[h] at k;show k
end
section
abbrev Cx.at(cx:Cx)(P:Ë á):Cx:={cx with P:=P}
abbrev MU(d:Ï):Cz:=RF C_ Cj DT d
structure World(cx:Cx):Prop where
 top:PY cx Cj DT
 fns:∀f n,AG f=À n->∃t ô Ć s,FnAt cx C_ AG MT f n t ô Ć s
 Vp:∃r Ć s,Àj nn.ů.Ć "law" =À (r,Ć,s)/\∃a o p c d,KR cx "law" r Ć s a o p c d/\LO cx "law" c
noncomputable def Gd.first(cx:Cx)(A:KB)(d:Ï)(Ü:Env)(h h':ì)(nm:Â Þ):Gd:=
 {cx:=cx,A:=A.Áx Ü,d:=d,X:=λb=>(h.ã.Ú<=b/\∃o,h'.Ò b=À o)\/∃q,cx.tab b=À q,Z:=λb=>b=Ü.æ,Ü:=Ü,nm:=nm,lo:=h.ã.Ú,ĉ:=λ_=>0}
def Č.first{cx:Cx}{A:KB}{d:Ï}{Ü:Env}{p:Ŗ}{ÂC:Þ}{a:á}{ÁD:Í}{s g:Ô}{ns nm:Â Þ}{ÁF:Â Í}{ds:Â D}{n:Ï}
  (S:cx.ÿ.ĭ s.Ì)(d7:cx.ÿ.ã.Ú<=s.Ì.ã.Ú)(hP:cx.P=Ã)(hh:A.Àe=Ã)(hf:A.ŕ=À [])(e8:A.ű+1+d<=950)(e9:A.Àp+3+3*d<=9000)
  (m:Ü=newEnv p s.Ì.ã.Ú jp (ÀJ (s.Ì.ã.Ú+1) p.î []) ÂC (À a) ÁD Ã J5)
  (X:InCallC s Ü.æ (bindL Ü.ð (ns.zip ÁF) λ_=>Ã) Ü.ō (bindC Ü.ð (ns.zip ÁF) λ_=>Ã) g)
  (hk:p.ĕ= .Ĥ)(f6:(p.î.Ö (·.1)).Ŀ)(f7:∀(i:Ï) (x:Þ),ns[i]? =À x->nm[i]? =À x)(f8:nm.Ŀ)(N:ns.Ŀ)(C:ns.Á=ÁF.Á)
  (f9:∀x∈ns,p.î.ö x=À .local\/(p.î.ö x=À .Ĭ/\(x==("__classdict__" :Þ))=Å))(j3:Am s.Ì (λb=>∃q,cx.tab b=À q) ÁF ds)(TB:Dh cx.tab (λb=>∃q,cx.tab b=À q) s.Ì)(nb:∀b q,cx.tab b=À q->cx.ÿ.Ò b=Ã):
  Č (Gd.first cx A d Ü s.Ì g.Ì nm) (Bf (ds.Ö .ê) n) Ã g.Ì:=by
 exists cx A d Ü p ÂC a ÁD s g ns nm ÁF ds n,S d7 hP hh hf e8 e9 m X hk f6 f7 f8 N C f9 j3 TB nb;have L:Ü.æ=s.Ì.ã.Ú:=by rw[m];rfl
 have I:=X.ŭ.č;have J:∃o t u,g.Ì.Ò Ü.æ=À o/\o.ë= .ĺ t u:=by
  show ba X.ŭ.ns λo t u e d zq=>?_;exists o t u,e d zq;show{o,t,u,e,d}
 have j5:∀{b:á},s.Ì.ã.Ú<=b->cx.ÿ.Ò b=Ã:=λ{b} h=>by
  cases q:cx.ÿ.Ò b with
  |Ã=>rfl
  |À o=>show absurd (g3 (S b o q)) (i8.ĝ h)
 have O:∀x,Ü.ð x=p.î.ö x:=λx=>by rw[m];rfl
 have k7:Ü.ō=ÀJ (s.Ì.ã.Ú+1) p.î []:=by rw[m];rfl
 have Q:Ü.İ=p:=by rw[m];rfl
 have T:Ü.Š=À s.Ì.ã.Ú:=by rw[m];rfl
 have ÂM:∀x,Ü.ð x=À .Ĭ->∃c,Ü.ō.ö x=À c/\g.Ì.Ŝ c (bindC Ü.ð (ns.zip ÁF) (λ_=>Ã) x)/\s.Ì.ã.Ú<=c:=λx V=>by
  exists x,V;rw[O] at V;show ao (bX (n:=s.Ì.ã.Ú+1) f6 V) λc w=>?_;rw[<-k7] at w;show{c,w,X.Ĭ x c w,by have:=X.above x c (Àb w);rw[L] at this;show i5 this}
 have j6:∀b o,s.Ì.Ò b=À o->(Gd.first cx A d Ü s.Ì g.Ì nm).X b->∃q,cx.tab b=À q:=λb o e x=>x.ÀV λx=>absurd (g3 e) (i8.ĝ x.1);have rd:Am g.Ì (Gd.first cx A d Ü s.Ì g.Ì nm).X ÁF ds:=
  Am.ev (Z:=λ_=>Ī) (Y:=λ_=>Ī) (j3.less j6) (.Ĩ I) (λ_ z=>z.ç) λ_ z=>z.ç
 have tb:Dh cx.tab (Gd.first cx A d Ü s.Ì g.Ì nm).X g.Ì:=TB.ÁX (Z:=λ_=>Ī) (U:=λ_=>Ī) (.Ĩ I) (λ_ _ _=>id) (λ_ _ _ _ _ _ q=>q.ç) j6 λ_ q e=>.Ġ {q,e};show{λb o e=>I b o (S b o e),?_,?_,?_,?_,?_,hh,e8,e9,?_,?_,?_,?_,?_,?_,tb,X.apart,?_,f8,?_,?_}
 ·change cx.ÿ.ã.Ú<=Ü.æ;rw[L];show d7
 ·change s.Ì.ã.Ú<=Ü.æ;rw[L];show a3 _
 ·change Ü.İ.ĕ= .Ĥ;rw[Q,hk]
 ·change Ü.ÀG=_;rw[m];rfl
 ·change Ü.Ày=_;rw[m];rfl
 ·show{Ü,[],by change(A.ŕ.Ö (Ü:: ·))=_;rw[hf];rfl,Î,by change Ü.İ.ĕ=_;rw[Q];show hk,λe E=>?_,λb=>?_}
  ·exists e,E;obtain rfl:=am.mp E;show cG J λo t u B d'=>{by rw[Q,hk];decide,s.Ì.ã.Ú,o,t,u,T,j5 (a3 _),by rw[<-L];show B,d'}
  ·exists b,no;constructor
   ·intro q;have q:b=Ü.æ:=q;show{Ü,.Ď _,by rw[T,q,L]}
   ·rintro ⟨e,E,f⟩;obtain rfl:=am.mp E;rw[T] at f;change b=e.æ;rw[L];show(al f).symm
 ·intro b q;have q:b=Ü.æ:=q;show cG J λo t u B _=>.Ę {by rw[q,L];show a3 _,{o,by rw[q];show B}}
 ·show cG J λo t u B _=>(.Ę {by change s.Ì.ã.Ú<=Ü.æ;rw[L];show a3 _,{o,B}}:_\/_)
 ·show λb q=>q.ç (λq=>j5 q.1) λ⟨q,e⟩=>nb b q e
 ·show λb q=>q.ç (λq=>q.2) λ⟨q,e⟩=>ag (tb b q e).2 λ_ e _=>{_,e}
 ·show .no hP
 ·intro x l6;show au (ÂM x l6) λc w y j8=>ag (id y) λo l7 hd=>{c,_,w,y,.Ę {j8,o,l7},j8}
 ·show{_,X.ŭ.ns,λi sl e=>?_};exists i sl,e;have e:=bE e;rw[j1] at e;obtain⟨dd,e1,Î⟩:=h9.mp e;show ag (Am.at rd e1) λv y r=>?_;obtain⟨x,G⟩:∃x,ns[i]? =À x:=by
   have:i<ns.Á:=by rw[C];show(s5.mp y).1
   show{ns[i],ch this}
  show{x,v,f7 i x G,?_,r};have hm:x∈ns:=wS G;rcases f9 x hm with l|⟨l,h2⟩
  ·have l:Ü.ð x=À .local:=(O x).Ð l;show .Ę {l,bQ N C G y l}
  ·have l:Ü.ð x=À .Ĭ:=(O x).Ð l;show au (ÂM x l) λc w j9 _=>?_;rw[hr N C G y (by rw[l];decide)] at j9;show .Ġ {.Ę l,h2,c,w,j9}
 ·intro j k sj BQ H ek oj ok _;have H:=bE H;rw[j1] at H;obtain⟨dd,_,Î⟩:=h9.mp H;show fT oj
end
section
def Ln:Â (Ĵ×é):=match Àj nn.ů.Ć "law" with
 |À (a,st::_,s)=>[L_ {λx=>s.î.ö x,Dn.nm,AG,MT "law"} st]
 |_=>[]
def Lo:Â (Ĵ×é):=match Àj nn.ů.Ć "law" with
 |À (a,st::_,s)=>[(st,Ä)]
 |_=>[(.Pass Ķ,Ä)]
def Dh.vr(B:Dh T X h)(r:VR h (λ_=>Ī) v d):VR h (λb=>∃q,T b=À q) v d:=
 r.ç λs a=>{s,a.1,λx c ⟨q,y⟩=>(cR a.1 x c).ç λo e=>ag (B x q y).2 λp f _=>by cases e.1.symm.Ð f;show e.2 _ Î}
def jX:Ln=Lo:=_2
def Co(ds:Â D):Aa:=Bf ([.É ds].Ö .ê) 11
def ra{cx:Cx}(W:∀P,World (cx.at P)){A:KB}{d:Ï}(hh:A.Àe=Ã)(hf:A.ŕ=À [])(e9:A.ű+1+d<=950)(j4:A.Àp+3+3*d<=9000)(hd:3<=d)
  {s:Ô}{a:á}{v:Í}{ds l:Â D}{p:AK}{Q:Í->Ô->Prop}{E:Í->Ô->Prop}(V:cx.mg "law" =À (.ò a))
  (S:cx.ÿ.ĭ s.Ì)(j5:cx.ÿ.ã.Ú<=s.Ì.ã.Ú)(hv:VR s.Ì (λ_=>Ī) v (.É ds))(TB:Dh cx.tab (λb=>∃q,cx.tab b=À q) s.Ì)(nb:∀b q,cx.tab b=À q->cx.ÿ.Ò b=Ã)
  (j7:(Ll (MU d) (Co ds)).Ĉ Ã= .ok ((Co ds).set 1 (À (.ĉ l)),Ã) Ã)
  (k:((Dn.Ć.ex (MU d) (((Co ds).set 1 (À (.ĉ l))).set 1 (À .Az)))>>=Cf).Ĉ (À l)= .ok (.Ù Ä) p)
  (h:∀h' tk,cx.ÿ.ĭ h'->Dh cx.tab (λb=>∃q,cx.tab b=À q) h'->Q (.Ù Ä) {s with Ì:=h',Ā:=tk}):è cx.M A (ň (.ò a) [v]) Q E s:=by
 exists cx A d s a v ds l p Q E,W hh hf e9 j4 hd V S j5 hv TB nb j7 k h;show e35 (jl zQ) λH j8 u Y L N m I=>?_;exists H j8 u,Y N m I;have y:=jX;unfold Ln Lo at y;rw[Y] at y;cases j8 using i2 with
 |å=>cases y
 |Æ st t=>
 exists st t,Y I y;have y:=(Â.Æ.inj y).1;have W0:=W Ã;show cG W0.Vp λu7 u8 u9 j9 O=>?_;have o5:=al (Y.symm.Ð j9);clear j9;cases o5;show sg O λT o pm cd d9 F CA=>a_ CA λc P o6 C hP=>?_;clear CA;subst o6;exists T o pm d9 c P,C hP F;have o7:T=a:=by
  have:=F.mg;rw[show(cx.at Ã).mg "law" =À (.ò a) from V] at this;show(Í.ò.inj (al this)).symm
 subst o7;show Ym (Àl (o:=o) (fd:=Áb "law" H (st::t) u pm (.ò c) d9) (binds:=(H.Ū.Ö (·.arg)).zip [v]) ?_ (S T o F.at_) F.ë ?_ ?_ rfl (cw F.po F.ko F.va F.Rz Î F.pn (m.Ð Î)) rfl ?_ (λo8 X=>?_) F.co F.gen F.ĕ)
 ·change A.ű<1000;show ln1 e9
 ·show W0.top.top.Âp.ľ λb o e=>S b o e
 ·show F.ÁD.ľ λb o e=>S b o e
 ·intro x J;exists x,J;have V:x.1∈H.Ū.Ö (·.arg):=(Â.of_mem_zip (a:=x.1) (b:=x.2) J).1;rcases F.pk x.1 V with q|⟨q,_⟩
  ·show .Ę q
  ·show ao (bX (n:=s.Ì.ã.Ú+1) F.Àq q) λc hc=>.Ġ {q,V2.ĝ {c,hc}}
 exists o8,X;have I0:=Č.first (cx:=cx.at Ã) (A:=A) (d:=d) (Ü:=ZY (Áb "law" H (st::t) u pm (.ò c) d9) s.Ì.ã.Ú T) (nm:=Dn.nm) (n:=11) (ds:=[.É ds]) S j5 Î hh hf e9 j4 Î X F.ĕ F.Àq N L F.pn (m.Ð Î) F.pk (Am.Æ (TB.vr hv) Am.å) TB nb
 have up:=X.ŭ.č;show bB X.ŭ.Âl λU k9 l6=>?_;exists U k9,l6;subst l6;generalize e7:ZY (Áb "law" H (st::t) u pm (.ò c) d9) s.Ì.ã.Ú T=Ü at*;exists Ü,e7 X I0;have l7:Ü.İ=u:=by rw[<-e7];rfl
 have q8:Ü.ÁD= .ò c:=by rw[<-e7];rfl
 have q9:Ü.ÂC= "law" ++ ".<locals>.":=by rw[<-e7];rfl
 have up:∀b o,s.Ì.Ò b=À o->U.Ò b=À o:=up;have l8:∀{P':Ë á} {g:Gd},g.cx=cx.at P'->g.d=d->g.Ü=Ü->g.nm=Dn.nm->CB (cx.at P') d AG {λx=>u.î.ö x,Dn.nm,AG,MT "law"} g:=λL N m I=>{L,λx=>by rw[m];change Ü.İ.î.ö x=_;rw[l7],by rw[m,l7];show F.ĕ,I,λ_ _ z=>{z,N},λ_=>{N,c,P,by rw[m];show q8,by rw[L];show C,by rw[L,m,q9];show hP}};show Fa (q_ (jk W0.top W0.fns d) (l8 (g:=Gd.first (cx.at Ã) A d Ü s.Ì U Dn.nm) rfl Î Î Î) y (Co ds) Ã {s with Ì:=U,Ā:=k9} _ _ I0 ?_);rw[j7];intro f X' f7 h' tk G e I' B;exists f X' f7 h' tk,G e I' B;cases f using P0 with
 |Ũ v=>show B.ç
 |brk|cont=>show B.ç
 |next=>
 have s0:(Co ds).Á=12:=by simp[Co,Bf]
 have e1:Aa.ĵ ((Co ds).set 1 (À (.ĉ l))) 1=À (.ĉ l):=by
  unfold Aa.ĵ;rw[Â.getElem?_set_self (by rw[s0];decide)];rfl
 have I2:=I'.zR (i:=1) (l:=l) e1 Î λj sl ej ho=>by
  exists j sl,ej ho;rcases Aa.ÀI ej with⟨Î,_⟩|⟨_,q⟩
  ·rfl
  ·have q:=bE q;rw[j1] at q;obtain⟨dd,_,Î⟩:=h9.mp q;show fT ho
 let m8:á:=f7 1;let g2:Gd:={(Gd.first (cx.at Ã) A d Ü s.Ì U Dn.nm).re X' f7 with cx:=cx.at (À m8)};have W2:=W (À m8);change è cx.M (A.Áx Ü) (Ák t Ü) _ _ _;have hk:=Bc.ok (jk W2.top W2.fns d) rfl Dn.Ć _ g2 t (l8 Î Î Î Î) (â Prod.snd I);rw[show(Dn.Ć.AL {λx=>u.î.ö x,Dn.nm,AG,MT "law"} t).1=t from â ZA I] at hk;show hk (((Co ds).set 1 (À (.ĉ l))).set 1 (À .Az)) (À l) {s with Ì:=h',Ā:=tk} _ _ I2 ?_;rw[ar] at k;cases J:(Dn.Ć.ex (MU d) (((Co ds).set 1 (À (.ĉ l))).set 1 (À .Az))).Ĉ (À l) with
 |exc=>rw[J] at k;show oC k
 |Û=>rw[J] at k;show oC k
 |ok r p'=>
  rw[J] at k;obtain⟨v8,fl⟩:=r;intro f v9 w2 e8 u2 w4 w5 f8 B;have hS:cx.ÿ.ĭ e8:=f8.ĩ;have hT:Dh cx.tab (λb=>∃q,cx.tab b=À q) e8:=f8.ũ.ÁX (Ev.ť (λ_=>Ī) (λ_=>Ī) _) (λ_ _ _=>id) (λ_ _ _ _ _ _ q=>q.ç) (λb _ _ ⟨q,e⟩=>(f8.ũ b q e).1) λb q e=>{q,e};cases fl using i7 with
  |Ã=>cases k
  |À dd=>
   cases k;cases f using P0 with
   |Ũ w=>
    have hw:VR e8 _ w (.Ù Ä):=B;rw[hw.Aw];show h e8 u2 hS hT
   |next=>show B.ç
   |brk|cont=>show B.ç
end
section
abbrev pw:=nn
def Ul:Â Ĵ->S1×Â Ĵ×Ŗ
 |_:: .ClassDef _ _ _ (.ÀC _ a b _ _ _ s _ _ _::_) _ _ _ _ _ _ _::_=>(a,b,s)
 |_=>Ķ
def Dp:S1×Â Ĵ×Ŗ:=Ul pw.ů.Ć
def H1(P:TI):ì:={ã:= #[
 boot_o_0 P,
 boot_o_1 P,
 {.Ã,Ã,(.ĺ #[] 0),#[]},
 {(.Ċ "dict"),Ã,(.ĺ #[{i0 P "__name__",(.Ý "__name__" 165),(.Ý "__main__" 164)},{i0 P "__doc__",(.Ý "__doc__" 166),.Ã},{i0 P "__package__",(.Ý "__package__" 167),.Ã},{i0 P "__loader__",(.Ý "__loader__" 168),(.ė "__main__.__loader__#opaque")},{i0 P "__spec__",(.Ý "__spec__" 169),.Ã},{i0 P "__annotations__",(.Ý "__annotations__" 170),(.ò 6)},{i0 P "__builtins__",(.Ý "__builtins__" 171),(.ò 4)},{i0 P "__file__",(.Ý "__file__" 173),(.Ý "/claim/cut.py" 172)},{i0 P "__cached__",(.Ý "__cached__" 174),.Ã}] 9),#[]},
 boot_o_4 P,
 boot_o_5 P,
 boot_o_6 P,
 boot_o_7 P,
 boot_o_8 P,
 boot_o_9 P,
 boot_o_10 P,
 {(.Ċ "tuple"),Ã,(.Ĕ #[] 0),#[]},
 {.Ã,Ã,(.ü #[]),#[]},
 {(.Ċ "code"),Ã,(.ü #[(.Ý "<module>" 182),(.Ý "<module>" 183),(.Ý "/claim/cut.py" 184),(.Ê 1 0),(.Ê 0 0),(.Ê 0 0),(.Ê 0 0),(.Ê 0 0),(.ò 11),(.Ù Å),(.Ê 181 0),(.ò 12),.Ã,.Ã,.Ã,.Ã,(.Ê 185 0),(.Ê 1 0),(.Ý "/claim/cut.py" 186)]),#[]},
 {(.Ċ "frame"),Ã,.plain,#[À (.ò 13),À (.ò 3),À (.ò 3),Ã,À (.Ý "__main__" 164),Ã,À (.ò 0)]}]}
def H2(P:TI):ì:={ã:= #[
 boot_o_0 P,
 boot_o_1 P,
 {.Ã,Ã,(.ĺ #[{i0 P "type.__subclasses__.Exception.0",(.Ý "type.__subclasses__.Exception.0" 216),(.Ê 31 0)},{i0 P "type.__subclasses__.Exception.n",(.Ý "type.__subclasses__.Exception.n" 217),(.Ê 1 0)}] 2),#[]},
 {(.Ċ "dict"),Ã,(.ĺ #[{i0 P "__name__",(.Ý "__name__" 165),(.Ý "cas.errors" 187)},{i0 P "__doc__",(.Ý "__doc__" 166),.Ã},{i0 P "__package__",(.Ý "__package__" 167),.Ã},{i0 P "__loader__",(.Ý "__loader__" 168),(.ė "__main__.__loader__#opaque")},{i0 P "__spec__",(.Ý "__spec__" 169),.Ã},{i0 P "__annotations__",(.Ý "__annotations__" 170),(.ò 6)},{i0 P "__builtins__",(.Ý "__builtins__" 171),(.ò 4)},{i0 P "__file__",(.Ý "__file__" 173),(.Ý "/claim/cut.py" 172)},{i0 P "__cached__",(.Ý "__cached__" 174),.Ã},{i0 P "CasFail",(.Ý "CasFail" 219),(.ò 31)}] 10),#[]},
 boot_o_4 P,
 boot_o_5 P,
 boot_o_6 P,
 boot_o_7 P,
 boot_o_8 P,
 boot_o_9 P,
 boot_o_10 P,
 {(.Ċ "tuple"),Ã,(.Ĕ #[] 0),#[]},
 {.Ã,Ã,(.ü #[(.Ê 2 0),(.Ê 0 0),(.ò 20)]),#[]},
 {(.Ċ "code"),Ã,(.ü #[(.Ý "<module>" 182),(.Ý "<module>" 183),(.Ý "/claim/cut.py" 184),(.Ê 1 0),(.Ê 0 0),(.Ê 0 0),(.Ê 0 0),(.Ê 0 0),(.ò 11),(.Ù Å),(.Ê 181 0),(.ò 12),.Ã,.Ã,.Ã,.Ã,(.Ê 185 0),(.Ê 1 0),(.Ý "/claim/cut.py" 186)]),#[]},
 {(.Ċ "frame"),Ã,.plain,#[À (.ò 13),À (.ò 3),À (.ò 3),Ã,À (.Ý "__main__" 164),Ã,À (.ò 0)]},
 {(.Ċ "tuple"),Ã,(.Ĕ #[(.Ċ "Exception")] 0),#[]},
 {(.Ċ "builtin_function_or_method"),Ã,(.ü #[(.ė "type.__prepare__"),(.Ċ "type")]),#[]},
 {(.Ċ "dict"),Ã,(.ĺ #[{i0 P "__module__",(.Ý "__module__" 196),(.Ý "cas.errors" 187)},{i0 P "__qualname__",(.Ý "__qualname__" 198),(.Ý "CasFail" 197)},{i0 P "__firstlineno__",(.Ý "__firstlineno__" 200),(.Ê 2 199)},{i0 P "__init__",(.Ý "__init__" 209),(.ò 28)},{i0 P "__static_attributes__",(.Ý "__static_attributes__" 212),(.ò 29)}] 5),#[]},
 {(.Ċ "tuple"),Ã,(.Ĕ #[] 0),#[]},
 {.Ã,Ã,(.ü #[(.Ê 4 0),(.Ê 4 0),(.ò 27)]),#[]},
 {(.Ċ "code"),Ã,(.ü #[(.Ý "CasFail" 191),(.Ý "CasFail" 192),(.Ý "/claim/cut.py" 193),(.Ê 2 0),(.Ê 0 0),(.Ê 0 0),(.Ê 0 0),(.Ê 0 0),(.ò 18),(.Ù Å),(.Ê 181 0),(.ò 19),.Ã,.Ã,.Ã,.Ã,(.Ê 194 0),(.Ê 2 0),(.Ý "/claim/cut.py" 195)]),#[]},
 {(.Ċ "frame"),Ã,.plain,#[À (.ò 20),À (.ò 3),À (.ò 17),Ã,À (.Ý "cas.errors" 187),Ã,À (.ò 0)]},
 {(.Ċ "tuple"),Ã,(.Ĕ #[] 0),#[]},
 {.Ã,Ã,(.ü #[]),#[]},
 {(.Ċ "tuple"),Ã,(.Ĕ #[(.Ý "self" 204),(.Ý "kind" 205),(.Ý "text" 206)] 0),#[]},
 {(.Ċ "tuple"),Ã,(.Ĕ #[] 0),#[]},
 {.Ã,Ã,(.func {"__init__","CasFail.__init__",Dp.1,.stmts Dp.2.1,Dp.2.2,0,[],.Ã,.Ã,.Ã,.Ã,Ã,.Ã,.Ã,0}),#[]},
 {(.Ċ "code"),Ã,(.ü #[(.Ý "__init__" 201),(.Ý "CasFail.__init__" 202),(.Ý "/claim/cut.py" 203),(.Ê 4 0),(.Ê 3 0),(.Ê 0 0),(.Ê 0 0),(.Ê 3 0),(.ò 22),(.Ù Ä),(.Ê 181 0),(.ò 23),.Ã,(.ò 24),(.ò 25),(.ò 26),(.Ê 207 0),(.Ê 4 0),(.Ý "/claim/cut.py" 208)]),#[]},
 {(.Ċ "function"),Ã,(.func {"__init__","CasFail.__init__",Dp.1,.stmts Dp.2.1,Dp.2.2,3,[],.Ã,.Ã,.Ã,(.Ý "cas.errors" 187),Ã,(.ò 27),.Ã,0}),#[]},
 {(.Ċ "tuple"),Ã,(.Ĕ #[(.Ý "kind" 210),(.Ý "text" 211)] 0),#[]},
 {(.Ċ "dict"),Ã,(.ĺ #[{i0 P "__module__",(.Ý "__module__" 196),(.Ý "cas.errors" 187)},{i0 P "__firstlineno__",(.Ý "__firstlineno__" 200),(.Ê 2 199)},{i0 P "__init__",(.Ý "__init__" 209),(.ò 28)},{i0 P "__static_attributes__",(.Ý "__static_attributes__" 212),(.ò 29)},{i0 P "__weakref__",(.Ý "__weakref__" 214),(.ò 32)},{i0 P "__doc__",(.Ý "__doc__" 215),.Ã}] 3),#[]},
 {(.Ċ "type"),Ã,(.ķ {"CasFail",[(.Ċ "Exception")],[(.ò 31),(.Ċ "Exception"),(.Ċ "BaseException"),(.Ċ "object")],30,"CasFail",Ä,[],[],Å,Ã,Å}),#[À (.ò 15),Ã,À (.Ý "CasFail" 189),À (.Ý "CasFail" 197),À (.ė "Exception.__new__"),À (.Ù Ä)]},
 {(.Ċ "getset_descriptor"),Ã,(.ü #[(.Ý "__weakref__" 213),(.ò 31),(.ė "ExceptionGroup.__weakref__"),.Ã]),#[]},
 {(.Ċ "super"),Ã,(.ü #[(.ò 31),(.ò 31),(.ò 31)]),#[]},
 {(.Ċ "builtin_function_or_method"),Ã,(.ü #[(.ė "object.__init_subclass__"),(.ò 31)]),#[]}]}
def S0(P:TI)(os:OsState):Ô:={Àv P,Ŕ.mk [],Ţ,boot_toks,os}
def BL:Env:={İ:=pw.ů.İ,æ:=mainNs,ÀG:=mainNs,ō:=[],ÁD:=.ò 13,Š:=À 14}
def CN:Code:=.Ć (į pw) BL
def CO:Pos:={Ÿ:=0,col:=0,Àn:=0,endCol:=0}
def DG:Â Ĵ:=(į pw).Ń 2
def HK:Â Ĵ:=(į pw).Ś 2
def HL:Pos:={Ÿ:=2,col:=0,Àn:=7,endCol:=24}
abbrev FD(w:s2)(b:é):s2:=w.withFollow "special-get-raises" b
def aa5(b:é):∀(w:s2),(λos=>Âa YR pw (FD w b) 11 (À (.ò 6)) 12 (S0 (FD w b).ô os) (topStub pw))=
  λos=>À ({H1 (FD w b).ô,Ŕ.mk [],Ţ,187,os},{ÀZ YR (.Ć (į pw) BL),CN,CO,[P5 CO]}):=λw=>_2
def aa6(b:é):∀(w:s2),(λos=>segRun YR pw (FD w b) 11 (À (.ò 6)) 1 1 {H1 (FD w b).ô,Ŕ.mk [],Ţ,187,os} (blockOf (į pw) BL CN CO [P5 CO]))=
  λos=>À (.next,{H1 (FD w b).ô,Ŕ.mk [],Ţ,187,os},CN,CO):=λw=>_2
def zS:∀(w:s2),(λos=>segRun YR pw (FD w Å) 11 (À (.ò 6)) 1 240 {H1 (FD w Å).ô,Ŕ.mk [],Ţ,187,os} (piecesOf HK BL CN CO [P5 CO]))=
  λos=>À (.next,{H2 (FD w Å).ô,Ŕ.mk [],Ţ,220,os},CN,HL):=λw=>_2
def zT:∀(w:s2),(λos=>segRun YR pw (FD w Ä) 11 (À (.ò 6)) 1 240 {H1 (FD w Ä).ô,Ŕ.mk [],Ţ,187,os} (piecesOf HK BL CN CO [P5 CO]))=
  λos=>À (.next,{H2 (FD w Ä).ô,Ŕ.mk [],Ţ,220,os},CN,HL):=λw=>_2
end
section
set_option backward.match.sparseCases true
section
variable{α:Type}{tb:String->Option YB}{p:Ok}{w:s2}{n₀:Nat}{ann:Option Value}{B:List Frame}{K':α->Sem Fin}{H':Value->Sem Fin}{gd:Bool->Bool}{lv:List Value->List Value}{res:α->Flow}
def e_{n m:Ï}{s a c:Ô}{t b d:Thread}(h:Âa tb p w n₀ ann n s t=À (a,b))(k:Âa tb p w n₀ ann m a b=À (c,d)):Âa tb p w n₀ ann (n+m) s t=À (c,d):=by
 induction n generalizing s t with
 |ž=>
  obtain⟨Î,Î⟩:s=a/\t=b:=by simpa [Âa] using h
  rw[s6];show k
 |ś n i=>
  rw[show n+1+m=n+m+1 by ac_rfl];unfold Âa at h⊢;cases e:aa0 t with
  |Ä=>rw[e] at h;show nS h
  |Å=>
   rw[e] at h;cases f:stepOk n₀ ann t with
   |Å=>rw[f] at h;show nS h
   |Ä=>
    rw[f] at h;cases g:ÁX (ÀZ tb) p w s t with
    |halt o j=>rw[g] at h;show nS h
    |go j l=>rw[g] at h;show i h
def gg(h:endAt b t=À f):(t.stack.Á==b)=Ä/\t.cur= .Ñ (.done f):=by
 obtain⟨c,ÁD,o,st⟩:=t;unfold endAt at h;dsimp only at h⊢;cases a:st.Á==b with
 |Å=>rw[a] at h;show nS h
 |Ä=>
  rw[a] at h;cases c using ř.Sem.ď with
  |Ñ x=>
   cases x using ř.Fin.ď with
   |done d=>show{Î,by rw[al h]}
   |_=>show nS h
  |_=>show nS h
def seg_end(R:Rel2 (λa=>.Ñ (.done (res a))) K' deadEnd H' gd lv B t b)(e:endAt B.Á t=À g):∃a,res a=g/\b={K' a,t.ÁD,t.ă,B}:=by
 obtain⟨u,ÁD,o,st⟩:=t;obtain⟨r,f,s,i⟩:=b;show b_ R ?_;clear R;intro c d R;dsimp only at c d R;subst c d;rcases R with⟨Î,Î,x,Î,Î⟩|⟨Î,F⟩
 ·have h:=(gg e).2;cases x using ř.Sem.ď with
  |Ñ a=>show{a,ř.Fin.done.inj (ř.Sem.Ñ.inj h),Î}
  |_=>show bg ř.Sem.ÀF h Î
 ·show absurd (ÁP.mp (gg e).1) (A2 F.longer.1)
def rb(c:splitAtGen B=Ã)(R:Rel2 (λa=>.Ñ (.done (res a))) K' deadEnd H' gd lv B t b)(j:endAt B.Á t=Ã)(hk:stepOk n₀ ann t=Ä)(h:ÁX (ÀZ tb) p w s t= .go k l):
  (stepOk n₀ ann b=Ä/\aa0 b=Å)/\∃d,ÁX (ÀZ tb) p w s b= .go k d/\Rel2 (λa=>.Ñ (.done (res a))) K' deadEnd H' gd lv B l d:=by
 obtain⟨u,ÁD,o,st⟩:=t;obtain⟨m,n,q,v⟩:=b;show b_ R ?_;clear R;intro f g R;dsimp only at f g R;subst f g;rcases R with⟨Î,Î,x,Î,Î⟩|⟨Î,F⟩
 ·have i:∀a,x≠ .Ñ a:=by
   rintro a Î;simp[endAt,Sem.wrap] at j
  have r:∀e,x≠ .Áp e:=by
   rintro e Î;obtain⟨y,z,drawn,A,os⟩:=s;simp only[Sem.wrap,ÁX] at h;cases h
  show{okOuter i r hk,step_outer c i h}
 ·show{okInner c F hk,step_inner c F h}
def jm(r:splitAtGen B=Ã)(n:Ï):∀(s:Ô) (t c:Thread) (f:Flow) (b:Ô) (c':Code) (p':Pos),Rel2 (λa=>.Ñ (.done (res a))) K' deadEnd H' gd lv B t c->
  segRun tb p w n₀ ann B.Á n s t=À (f,b,c',p')->∃a m,res a=f/\Âa tb p w n₀ ann m s c=À (b,{K' a,c',p',B}):=by
 induction n with
 |ž=>intro s t c f b c' p' R h;show nS h
 |ś n u=>
  intro s t c f b c' p' R h;unfold segRun at h;cases e:endAt B.Á t with
  |À g=>
   rw[e] at h;obtain⟨a,d,Î⟩:=seg_end R e;injection al h with v i;injection i with i j;injection j with j x;subst v i j x;show{a,0,d,Î}
  |Ã=>
   rw[e] at h;cases k:stepOk n₀ ann t with
   |Å=>rw[k] at h;show nS h
   |Ä=>
    rw[k] at h;cases l:ÁX (ÀZ tb) p w s t with
    |halt o q=>rw[l] at h;show nS h
    |go q y=>
     rw[l] at h;obtain⟨⟨z,A⟩,C,E,G⟩:=rb r R e k l;show aD (u q y C f b c' p' G h) λa m d N=>{a,m+1,d,?_};unfold Âa;rw[A,z,E];show N
def lX(n:Ï):∀(s:Ô) (t:Thread) (a:Ô) (b:Thread),s.asleep->Âa Áu p w n₀ ann n s t=À (a,b)->
  (∃m,Âj (ÀZ Áu) p w m (.Âk s t)= .ÂH (.Âk a b))/\a.Ì.life=s.Ì.life:=by
 induction n with
 |ž=>
  intro s t a b _ h;obtain⟨Î,Î⟩:s=a/\t=b:=by simpa [Âa] using h
  show{{0,Î},Î}
 |ś n j=>
  intro s t a b r h;unfold Âa at h;cases g:aa0 t with
  |Ä=>rw[g] at h;show nS h
  |Å=>
   rw[g] at h;cases k:stepOk n₀ ann t with
   |Å=>rw[k] at h;show nS h
   |Ä=>
    rw[k] at h;cases c:ÁX (ÀZ Áu) p w s t with
    |halt o d=>rw[c] at h;show nS h
    |go d f=>
     rw[c] at h;show aj (im.mp k) λq k=>?_;have i:=step_life (ÀZ Áu) p w s d t f c;obtain⟨⟨m,u⟩,l⟩:=j d f a b (Ô.Âb i r) h;have e:sstep (ÀZ Áu) p w (.Âk s t)= .go (.Âk d f):=by
      rcases sstep_single (ÀZ Áu) p w s t q r with e|e
      ·rw[e,c];rfl
      ·rw[c] at e;cases e
     show{{m+1,by simp only[Âj,e];show u},l.Ð i}
end
def go2(b:é)(w:s2)(os:OsState):∃m,Âa YR pw (FD w b) 11 (À (.ò 6)) m (S0 (FD w b).ô os) (topStub pw)=À ({H2 (FD w b).ô,Ŕ.mk [],Ţ,220,os},restOf DG BL CN HL [P5 CO]):=by
 exists b w os,no;have c:=congrFun (aa5 b w) os;have e:=congrFun (aa6 b w) os;have g:segRun YR pw (FD w b) 11 (À (.ò 6)) 1 240 {H1 (FD w b).ô,Ŕ.mk [],Ţ,187,os} (piecesOf HK BL CN CO [P5 CO])=À (.next,{H2 (FD w b).ô,Ŕ.mk [],Ţ,220,os},CN,HL):=by
  cases b using ci with
  |Å=>show congrFun (zS w) os
  |Ä=>show congrFun (zT w) os
 rw[body_wrap] at c;show aD (jm (res:=λ_:ÂF=>Flow.next) (K':=λ_=>(Ák (į pw) BL).wrap doneF (Áy BL) id id) (H':=Sem.Áp) (B:=[P5 CO]) rfl _ _ (blockOf (į pw) BL CN CO [P5 CO])
  {(blockStart (į pw) BL).wrap (λ_=>(Ák (į pw) BL).wrap doneF (Áy BL) id id) .Áp id id,CN,CO,[P5 CO]} _ _ _ _ {Î,Î,.Ę {Î,Î,_,Î,Î}} e) λa m d h=>?_
 have h:=e_ c h;have o:į pw=HK++DG:=(Zt 2 _).symm;rw[show(Ák (į pw) BL).wrap doneF (Áy BL) id id=(Ák (HK++DG) BL).wrap doneF (Áy BL) id id by rw[<-o],execs_app_wrap] at h;show aD (jm (res:=id) (K':=λf=>match f with| .next=>(Ák DG BL).wrap doneF (Áy BL) id id|f=>doneF f) (H':=Áy BL) (B:=[P5 CO]) rfl _ _ (piecesOf HK BL CN CO [P5 CO])
  {(Ák HK BL).wrap (λf=>match f with| .next=>(Ák DG BL).wrap doneF (Áy BL) id id|f=>doneF f) (Áy BL) id id,CN,CO,[P5 CO]} _ _ _ _ {Î,Î,.Ę {Î,Î,_,Î,Î}} g) λa j d i=>?_
 obtain rfl:a= .next:=d
 show{_,e_ h i}
end
section
def Qo:KB:={Àe:=Ã,ű:=400,ŕ:=Ã,guards:=Ã,Àp:=1000}
def wR:(Ctx.of CN [P5 CO]).In Qo:=by
 show{Î,?_,λl h=>(nomatch h),λg a=>(nomatch a),?_}
 ·change frameCount _+CN.weight<=400;decide
 ·change Ctx.Àp _<=1000;decide
def nO(b:Â Ĵ)(Ü:Env):(Ák b Ü).wrap doneF (Áy Ü) id id=((Ák b Ü).onRaise (leaving Ü)>>= λf=>(Ñ (Fin.done f))):=by
 rw[Sem.bind_eq_wrap',Sem.onRaise_eq_wrap,Sem.wrap_wrap];rfl
def OF:Step->é
 | .halt (.done _) _=>Ä
 |_=>Å
def m25{r:Resume}{a:ÂF->Step}{b c:Í->Step}(h:∀u,OF (a u)=Å)(d:∀v,OF (b v)=Å)(f:∀v,OF (c v)=Å):OF (ř.ÁX.match_25 (λ_=>Step) r a b c)=Å:=by
 cases r using Resume.ď with
 |send v=>induction v using Í.ď<;>first|show d _|show h _
 |throw e=>show f e
def m28{x:Ë GenState}{a d e:ÂF->Step}{b:Code->Step}{c:(Resume->Sem ř.Fin)->Â Í->Code->Pos->Â Frame->é->Step}(h:∀u,OF (a u)=Å)(g:∀u,OF (b u)=Å)(i:∀k l o p f u,OF (c k l o p f u)=Å)(j:∀u,OF (d u)=Å)(m:∀u,OF (e u)=Å):OF (ř.ÁX.match_28 (λ_=>Step) x a b c d e)=Å:=by
 cases x using i7 with
 |Ã=>show h _
 |À x=>cases x using GenState.ď with
  |ų=>show g _
  |suspended=>show i ..
  |ÂH=>show j _
  |finished=>show m _
def tB{s:Ô}{t:Thread}(h:OF (ÁX i ú w s t)=Ä):aa0 t=Ä:=by
 obtain⟨p,d,drawn,o,os⟩:=s;obtain⟨u,ÁD,j,stack⟩:=t;exists i ú w p d drawn o os u ÁD j stack,h;cases u using Sem.ď with
 |Ñ r=>
  cases r using ř.Fin.ď with
  |again c=>show fT h
  |done f=>
   cases stack using i2 with
   |å=>rfl
   |Æ a l=>induction a using Frame.ď<;>show fT h
 |Áp e=>
  exfalso;cases stack using i2 with
  |å=>
   have h:OF (if Tl d then _ else _)=Ä:=h;generalize Tl d=b at h;induction b using ci<;>show fT h
  |Æ a l=>induction a using Frame.ď<;>show fT h
 |finish e=>
  have h:OF (if Tl d then _ else _)=Ä:=h;generalize Tl d=b at h;induction b using ci<;>show fT h
 |load a c k=>
  unfold ÁX at h;dsimp only at h;generalize p.Ò a=b at h;induction b using i7<;>show fT h
 |Às a c f k=>
  have h:OF (if(p.Ò a).ÁW then _ else _)=Ä:=h;generalize (p.Ò a).ÁW=b at h;induction b using ci<;>show fT h
 |choose c n k=>
  induction n using R1<;>show fT h
 |genState g k=>
  unfold ÁX at h;dsimp only at h;generalize d[g]? =b at h;induction b using i7<;>show fT h
 |resume g r l k=>
  show fT ((m28 (λ_=>rfl) (λ_=>m25 (λ_=>rfl) (λ_=>rfl) λ_=>rfl) (λ_ _ _ _ _ _=>rfl) (λ_=>rfl) λ_=>rfl).symm.Ð h)
 |«yield» v g l k=>
  unfold ÁX at h;dsimp only at h;generalize splitAtGen stack=b at h;cases b using i7 with
  |Ã=>show fT h
  |À b=>obtain⟨_,⟨_,_,_,_⟩,_⟩:=b;show fT h
 |_=>show fT h
def lY{n:Ï}{s:Ô}{t:Thread}{f:Flow}{c:Ô}(h:runN d ú w n s t= .halted (.done f) c):∃m b,runN d ú w m s t= .ÂH c b/\aa0 b=Ä:=by
 induction n generalizing s t with
 |ž=>cases h
 |ś n i=>
  unfold runN at h;cases a:ÁX d ú w s t with
  |go g l=>
   rw[a] at h;show aD (i h) λm b j k=>?_;show{m+1,b,by unfold runN;rw[a];show j,k}
  |halt o g=>
   rw[a] at h;obtain⟨Î,Î⟩:o= .done f/\g=c:=by simpa using h
   have e:=step_halt_same d ú w s g t _ a;subst e;show{0,t,Î,tB (by rw[a];rfl)}
def nP{w:s2}{s:Ô}{R:Ô->Prop}(o:s.asleep)(h:è (ć pw w) Qo (Ák DG BL) (λf d=>f= .next/\d.gens= #[]/\R d) (λ_ _=>Ī) s):
  ∃n d t,Âj (ÀZ Áu) pw w n (.Âk s (restOf DG BL CN HL [P5 CO]))= .ÂH (.Âk d t)/\aa0 t=Ä/\R d/\d.gens= #[]/\d.Ì.life=s.Ì.life:=by
 exists w s R,o h;have y:è (ć pw w) Qo ((Ák DG BL).wrap doneF (Áy BL) id id) (λz d=>∃f,z= .done f/\((λr d=>(∃f,r=Except.ok f)/\d.gens= #[]/\R d):Z2->Ô->Prop) (.ok f) d) (λe d=>((λr d=>(∃f,r=Except.ok f)/\d.gens= #[]/\R d):Z2->Ô->Prop) (.ŵ e) d) s:=by
  rw[nO];show È (wpAny_onRaise (ą h (λf d A=>?_) λ_ _ x=>x.ç));show Õ {f,Î,{f,Î},A.2}
 obtain⟨n,r,d,B,C,p,⟨f,Î⟩,g,q⟩:=wp_runN (M:=ć pw w) (ÿ:=[P5 CO]) (c:=CN) (wp_of_wpAny_done (R:=λr d=>(∃f,r=Except.ok f)/\d.gens= #[]/\R d) wR y HL);exists n d B C f,p g q;have u:=runN_snoc p;rw[step_leaf_ret] at u;have i:=runN_snoc u;have E:Tl d.gens=Å:=by rw[g];simp[Tl]
 rw[show topAfter (.ok f)=leafOf (.ok (.Ũ .Ã)) from rfl,step_leaf_nil] at i;simp only[finish,E,S6,ÁR] at i;show au (runNI_real (ÀZ Áu) pw w i (outcomeOf_ends _)) λv j G H=>?_;obtain rfl:=Ô.eq_of_forget_eq G g;have I:∀k l,runN (ÀZ Áu) pw w k s (restOf DG BL CN HL [P5 CO])≠ .halted (.Ác "lifetime:generator-with-cleanup-left-suspended") l:=by
  intro k l J;have a:=runN_mono (ÀZ Áu) pw w (n+1+1) k s _ _ v j;have b:=runN_mono (ÀZ Áu) pw w k (n+1+1) s _ _ l J;have a:runN (ÀZ Áu) pw w (n+1+1+k) s (restOf DG BL CN HL [P5 CO])=_:=a;rw[lc,b] at a;injection a with a1 _;cases a1
 show aD (lY j) λm t L N=>?_;show{m,v,t,(schedN_eq_runN (ÀZ Áu) pw w s _ o {H,I} m).Ð (â Run.lift L),N,q,g,runN_life _ _ _ j}
end
section
inductive LX where
 |Ê(i:ä)
 |Ý(s:Þ)
 |Ě(x:Þ)
 |Ĕ(t:é)(l:LX)
 |neg(a:LX)
 |pow(a b:LX)
 |å
 |Æ(a l:LX)
instance:í LX:={.Ê 0}
def Lp:Ï->ý->LX
 |0,_=>.å
 |n+1,e=>match e with
  | .ğ (.Ê i) _ _=>.Ê i
  | .ğ (.Ý s) _ _=>.Ý s
  | .ċ x _=>.Ě x
  | .Ů c _ _=>.Ĕ Ä (c.foldr (λe l=>.Æ (Lp n e) l) .å)
  | .Â c _=>.Ĕ Å (c.foldr (λe l=>.Æ (Lp n e) l) .å)
  | .Ád _ x _=>.neg (Lp n x)
  | .ÂY a _ b _=>.pow (Lp n a) (Lp n b)
  |_=>.å
def Ma:D->Ë ä
 | .Ê i=>À i
 |_=>Ã
def hJ(h:Ma d=À i):d= .Ê i:=by
 cases d using ap with
 |Ê=>(have z:=al h;clear h;subst z);rfl
 |_=>show nS h
noncomputable def LX.go(f:Þ->Ë D):LX->(ý->ý×Ë D)×(Â ý->Â ý×Ë (Â D))
 | .Ê i=>(λe=>(.ğ (.Ê i) (kk e) e.ă,À (.Ê i)),λc=>(c,Ã))
 | .Ý s=>(λe=>(.ğ (.Ý s) (kk e) e.ă,À (.Ý s)),λc=>(c,Ã))
 | .Ě x=>(λe=>(.ċ x e.ă,if OV x then f x else Ã),λc=>(c,Ã))
 | .Ĕ t l=>(λe=>(if t then .Ů ((l.go f).2 (kids e)).1 (kk e) e.ă else .Â ((l.go f).2 (kids e)).1 e.ă,((l.go f).2 (kids e)).2.ù λds=>if ds.Á<=1000 then À (if t then .Ç ds else .É ds) else Ã),λc=>(c,Ã))
 | .neg a=>(λe=>(.Ád .USub ((a.go f).1 (Ah 0 e)).1 e.ă,((a.go f).1 (Ah 0 e)).2.ù λd=>(Ma d).Ö λi=>.Ê (-i)),λc=>(c,Ã))
 | .pow a b=>(λe=>(.ÂY ((a.go f).1 (Ah 0 e)).1 .Pow ((b.go f).1 (Ah 1 e)).1 e.ă,(((a.go f).1 (Ah 0 e)).2.ù Ma).ù λx=>(((b.go f).1 (Ah 1 e)).2.ù Ma).ù λy=>if FY x y then À (.Ê (x^y.ł)) else Ã),λc=>(c,Ã))
 | .å=>(λe=>(e,Ã),λ_=>([],À []))
 | .Æ a l=>(λe=>(e,Ã),λc=>(((a.go f).1 (c.headD (.ğ .Ã 0 Ķ))).1::((l.go f).2 c.ě).1,
   if Áo ((a.go f).1 (c.headD (.ğ .Ã 0 Ķ))).1 then Ã else((a.go f).1 (c.headD (.ğ .Ã 0 Ķ))).2.ù λd=>((l.go f).2 c.ě).2.Ö (d:: ·)))
def Eh(h:ì)(v:Í)(d:D):Prop:=∃s,Ào h v d s/\∀a∈s,35<=a
def IL(h:ì)(vs:Â Í)(ds:Â D):Prop:=∃s,œ h vs ds s/\∀a∈s,35<=a
def IL.Æ{h:ì}{v:Í}{d:D}{vs:Â Í}{ds:Â D}(a:Eh h v d)(b:IL h vs ds):IL h (v::vs) (d::ds):=
 let⟨s,r,p⟩:=a;let⟨c,q,l⟩:=b;{s++c,.Æ r q,λx e=>(dL.mp e).ç (p x) (l x)}
def IL.ŏ(a:IL h vs ds):vs.Á=ds.Á:=by
 show ag a λs r _=>?_;have:Am h (λ_=>Ī) vs ds:={s,r,λ_ _ q=>q};show this.Á
def Eh.ľ(k:∀b o,h.Ò b=À o->h'.Ò b=À o)(r:Eh h v d):Eh h' v d:=
 let⟨a,r,p⟩:=r;{a,aS (.Ĩ k) r λ_ _=>{id,id},p}
abbrev Kept(h h':ì):Prop:=∀b o,b≠12->b≠jp->h.Ò b=À o->h'.Ò b=À o
def Eh.ÂE(k:Kept h h')(i:∃o,h.Ò 12=À o/\∀vs n,o.ë≠ .Ĕ vs n)(j:∃o,h.Ò jp=À o/\∀vs n,o.ë≠ .Ĕ vs n)(r:Eh h v d):Eh h' v d:=by
 show ag r ?_;clear r;intro s r p;show{s,aS (Y:=λb=>b=12\/b=jp) (λb o e q=>.Ę ?_) r λa l=>{λy=>?_,id},p}
 ·show k b o (λz=>?_) (λz=>?_) e
  ·rcases q with q|⟨_,vs,n,q⟩
   ·show q (.Ę z)
   ·show ag i ?_;clear i;intro m c f;rw[z,c] at e;(have g:=al e;clear e;subst g);show f _ _ q
  ·rcases q with q|⟨_,vs,n,q⟩
   ·show q (.Ġ z)
   ·show ag j ?_;clear j;intro m c f;rw[z,c] at e;(have g:=al e;clear e;subst g);show f _ _ q
 ·have:=p a l;rcases y with rfl|rfl
  ·show absurd this _0
  ·show absurd this _0
section
variable{prog:Ok}{w:s2}{A:KB}{E:Value->Shared->Prop}{env:Env}
def NF(a:Þ->Ë D)(mg:Þ->Ë Í)(h:ì):Prop:=∀x d,a x=À d->∃v,mg x=À v/\Eh h v d
def NF.ľ(n:NF c mg h)(k:∀b o,h.Ò b=À o->h'.Ò b=À o):NF c mg h':=λx d e=>let⟨v,a,r⟩:=n x d e;{v,a,r.ľ k}
def WK(M:Model)(A:KB)(Ü:Env)(a:Þ->Ë D)(mg:Þ->Ë Í)(e:ý)(d:D):Prop:=∀(s:Ô) (Q:Í->Ô->Prop) (E:Í->Ô->Prop),s.Ì.Ns Ü.ÀG mg->35<=s.Ì.ã.Ú->NF a mg s.Ì->
 (∀v h' tk,(∀b o,s.Ì.Ò b=À o->h'.Ò b=À o)->s.Ì.ã.Ú<=h'.ã.Ú->Eh h' v d->Q v {s with Ì:=h',Ā:=tk})->è M A (ŗ e Ü) Q E s
def Sb(M:Model)(A:KB)(Ü:Env)(a:Þ->Ë D)(mg:Þ->Ë Í)(e:Â ý)(ds:Â D):Prop:=∀(ă:Pos) (s:Ô) (Q:Â Í->Ô->Prop) (E:Í->Ô->Prop),s.Ì.Ns Ü.ÀG mg->35<=s.Ì.ã.Ú->NF a mg s.Ì->
  (∀vs h' tk,(∀b o,s.Ì.Ò b=À o->h'.Ò b=À o)->s.Ì.ã.Ú<=h'.ã.Ú->IL h' vs ds->Q vs {s with Ì:=h',Ā:=tk})->è M A (Âq (Âg ă (Àk e Ü))) Q E s
def Eh.tup(r:IL h vs ds)(hz:35<=h.ã.Ú):Eh (h.Ŧ {ķ:=.Ċ "tuple",ë:=.Ĕ vs.ó}) (.ò h.ã.Ú) (.Ç ds):=by
 show ag r ?_;clear r;intro a r p;show{a,.Ç (f1 _ Î) rfl Î (aT (.Ĩ λb o e=>a0 _ e) r λ_ _=>{id,id}),p}
def Eh.É{h:ì}{vs:Â Í}{ds:Â D}(r:IL h vs ds)(hz:35<=h.ã.Ú):Eh (h.Ŧ {ķ:=.Ċ "list",ë:=.Ĕ vs.ó}) (.ò h.ã.Ú) (.É ds):=by
 show ag r ?_;clear r;intro s r p;show{h.ã.Ú::s,.É (f1 _ Î) rfl Î (aT (.Ĩ λb o e=>a0 _ e) r λ_ _=>{id,id}),λa c=>(a5.mp c).ç (λq=>q▸hz) (p a)}
def Eh.Ê(i:ä)(t:Tok):Eh h (.Ê i t) (.Ê i):={[],.Ê i t,_0}
def Eh.az(r:Eh h v (.Ê i)):∃t,v= .Ê i t:=by show ag r ?_;clear r;intro a r _;cases r;show{_,Î}
def rg[ÀA c](h:(if c then Ã else x)=À y):¬c/\x=À y:=by
 by_cases q:c
 ·rw[à q] at h;show nS h
 ·rw[ß q] at h;show{q,h}
def ej[ÀA c](h:(if c then À x else Ã)=À y):c/\x=y:=by
 by_cases q:c
 ·rw[à q] at h;show{q,al h}
 ·rw[ß q] at h;show nS h
def nQ[ÀA c](h:(if c then x else Ã)=À y):c/\x=À y:=by
 by_cases q:c
 ·rw[à q] at h;show{q,h}
 ·rw[ß q] at h;show nS h
def wU{c:Þ->Ë D}{mg:Þ->Ë Í}(hk:Ü.İ.ĕ= .module)(hl:Ü.æ=Ü.ÀG)(x:LX):
  (∀e d,((x.go c).1 e).2=À d->WK (ć ú w) A Ü c mg ((x.go c).1 e).1 d)/\∀m ds,((x.go c).2 m).2=À ds->Sb (ć ú w) A Ü c mg ((x.go c).2 m).1 ds:=by
 exists ú w A Ü c mg x,hk hl;induction x with
 |Ê i=>show{λe d h=>by cases h;show λs Q E n z f H=>ÀH (H _ s.Ì _ (λ_ _ e=>e) (a3 _) (Eh.Ê i _)),λ_ _ h=>(by show nS h)}
 |Ý x=>show{λe d h=>by cases h;show λs Q E n z f H=>ÁL (H _ s.Ì _ (λ_ _ e=>e) (a3 _) {[],.Ý x _,by simp}),λ_ _ h=>(by show nS h)}
 |Ě x=>
  show{λe d h s Q E n z f H=>?_,λ_ _ h=>(by show nS h)};have h:(if OV x then c x else Ã)=À d:=h;split at h
  ·rename_i p;show ag (f x d h) λv hv r=>Name_module hk hl (Ŭ n hv (H v s.Ì s.Ā (λ_ _ e=>e) (a3 _) r)) (jW p)
  ·show nS h
 |Ĕ t l I=>
  show{λe d h s Q E n z f H=>(ag (lw.mp h) λds J h=>?_),λ_ _ h=>(by show nS h)};obtain⟨k9,Î⟩:=ej h;have L:=I.2 _ ds J;induction t using ci
  ·show List_ (L _ s _ E n z f λC G B k g j=>đ (H _ _ B (λb o q=>a0 _ (k b o q)) (ac g (by rw[U1];show v3 _)) (Eh.É j (ac z g))) (aH (by change C.ó.Ú<=_;rw[kt,j.ŏ];show ac (by assumption) _0)))
  ·show Tuple_ (L _ s _ E n z f λC G B k g j=>Ya (H _ _ B (λb o q=>a0 _ (k b o q)) (ac g (by rw[U1];show v3 _)) (Eh.tup j (ac z g))) (aH (by rw[j.ŏ];show ac (by assumption) _0)))
 |neg a I=>
  show{λe d h s Q E n z f H=>(ag (lw.mp h) λd' p h=>?_),λ_ _ h=>(by show nS h)};obtain⟨i,hi,Î⟩:=h9.mp h;obtain rfl:=hJ hi;show Y2 (I.1 _ _ p s _ E n z f λv G B k g j=>?_);obtain⟨t,Î⟩:=j.az;show neg_int (H _ G _ k g (Eh.Ê _ _))
 |pow a b N ib=>
  show{λe d h s Q E n z f H=>(ag (lw.mp h) λx O h=>(ag (lw.mp h) λy T h=>(ag (lw.mp O) λd1 h1 O=>(ag (lw.mp T) λd2 U T=>?_)))),λ_ _ h=>(by show nS h)};obtain rfl:=hJ O;obtain rfl:=hJ T;obtain⟨hp,Î⟩:=ej h;show Àz (N.1 _ _ h1 s _ E n z f λv G B k g j=>ib.1 _ _ U _ _ E (n.ľ k) (ac z g) (f.ľ k) λv2 U l8 k2 z2 r2=>?_);obtain⟨t,Î⟩:=j.az;obtain⟨u,Î⟩:=r2.az;show pow_int (du hp).1 (du hp).2 (H _ U _ (λb o q=>k2 b o (k b o q)) (ac g z2) (Eh.Ê _ _))
 |å=>show{λ_ _ h=>(by show nS h),λm ds h=>by cases h;show λV s Q E n z f H=>Tk (H [] s.Ì s.Ā (λ_ _ e=>e) (a3 _) {[],.å,by simp})}
 |Æ a l N il=>
  show{λ_ _ h=>(by show nS h),λm ds h V s Q E n z f H=>aj (rg h) λhs h=>ag (lw.mp h) λd p h=>?_};obtain⟨l9,J,Î⟩:=h9.mp h;change è _ _ (Âq (Âg V (Àk (((a.go c).1 (m.headD (.ğ .Ã 0 Ķ))).1::((l.go c).2 m.ě).1) Ü))) Q E s;rw[ak (aF (by simpa using hs))];show ŝ (N.1 _ _ p s _ E n z f λv j6 j7 Y d9 j8=>il.2 _ _ J V {s with Ì:=j6,Ā:=j7} _ E (n.ľ Y) (ac z d9) (f.ľ Y) λC j9 k6 e7 k7 k8=>H (v::C) j9 k6 (λb o q=>e7 b o (Y b o q)) (ac d9 k7) (.Æ (j8.ľ e7) k8))
end
end
section
inductive CD where
 |fn
 |dat(d:D)
 |tab(l:Â (ā×ā))
instance:í CD:={.fn}
noncomputable def CD.isFn:Ë CD->é
 |À .fn=>Ä
 |_=>Å
def tC{o:Ë CD}(h:CD.isFn o=Ä):o=À .fn:=by
 cases o using i7 with
 |Ã=>show fT h
 |À f=>cases f using CD.ď with
  |fn=>rfl
  |_=>show fT h
abbrev Fs:=Â (Þ×CD)
noncomputable def Fs.Áj:Fs->Þ->Ë CD
 |[],_=>Ã
 |(y,f)::r,x=>if x=y then À f else Fs.Áj r x
def cX{a:Fs}:Fs.Áj ((y,f)::a) x=if x=y then À f else a.Áj x:=rfl
def Tw(a:Fs)(x:Þ):Ë D:=(a.Áj x).ù λf=>f.ď Ã À λ_=>Ã
def tD{b:Fs}(h:Tw b x=À d):b.Áj x=À (.dat d):=by
 show ag (lw.mp h) λf e h=>?_;cases f using CD.ď with
 |dat a=>show e.Ð (â (λa=>À (CD.dat a)) (al h))
 |_=>show nS h
structure Pm(h:ì)(x:Þ)(v:Í) where
 Ū:S1
 Ć:Â Ĵ
 İ:Ŗ
 d:Àj pw.ů.Ć x=À (Ū,Ć,İ)
 a:á
 o:Obj
 pm:Í
 c:á
 P:á
 doc:Í
 e:v= .ò a
 WL:35<=a
 Um:35<=c
 Vq:35<=P
 g:h.Ò a=À o
 PR:o.ë= .func (Áb x Ū Ć İ pm (.ò c) doc)
 cr:h.CodeRec (.ò c) x
 ic:h.IsCode c P #[]
 ta:h.TableAt c P #[]
noncomputable def Pm.ÂE{h h':ì}{x:Þ}{v:Í}(k:∀b o,35<=b->h.Ò b=À o->h'.Ò b=À o)(F:Pm h x v):Pm h' x v:=
 {F with
  g:=k _ _ F.WL F.g
  cr:=F.cr.imp λb r=>ba r λFU vs t e g r=>{FU,vs,t,e,k _ _ (Í.ò.inj e▸F.Um) g,r}
  ic:=by
   show kU F.ic λo vs f i l j n m w=>e29 w λp op q1 s u y z A B C r=>{o,vs,f,i,l,j,n,m,p,op,k _ _ F.Um q1,s,u,y,z,A,B,k _ _ F.Vq C,r}
  ta:={F.ta.1.imp λo q=>q.imp λvs q=>{k _ _ F.Um q.1,q.2},k _ _ F.Vq F.ta.2}}
def EI(w:s2)(h:ì)(x:Þ)(v:Í):CD->Prop
 | .fn=>í (Pm h x v)
 | .dat d=>Eh h v d
 | .tab l=>∃a o,v= .ò a/\35<=a/\h.Ò a=À o/\TabObj (Àd pw w) ā.Ý l o
def jY(k:Kept h h')(b:á)(o:Obj)(l:35<=b):h.Ò b=À o->h'.Ò b=À o:=k b o (A2 (ce _0 l)) (A2 (ce _0 l))
def EI.ÂE(k:Kept h h')(c:∃o,h.Ò 12=À o/\∀vs n,o.ë≠ .Ĕ vs n)(e:∃o,h.Ò jp=À o/\∀vs n,o.ë≠ .Ĕ vs n)(r:EI w h x v f):EI w h' x v f:=by
 cases f with
 |fn=>show r.ç λF=>{F.ÂE (jY k)}
 |dat d=>show Eh.ÂE k c e r
 |tab l=>
  show cb r λa o g b i j=>{a,o,g,b,jY k _ _ b i,j}
def CP(h:ì)(v:Í)(P:á):Prop:=∃a o fd c FU vs,v= .ò a/\h.Ò a=À o/\o.ë= .func fd/\fd.ÁD= .ò c/\h.Ò c=À FU/\FU.ë= .ü vs/\vs[11]? =À (.ò P)
def CP.one{h:ì}{v:Í}{P d:á}(a:CP h v P)(b:CP h v d):P=d:=by
 exists h v P d,a b;show bG λn=>e62 a λa o x c FU y m w=>?_;obtain rfl:=m;show qh w λp q r s t u=>n ?_;show e67 b ?_;clear b;intro A B C E G H e g i j f k l;cases e;rw[p] at g;(have z:=al g;clear g;subst z);rw[q] at i;cases i;rw[r] at j;cases j;rw[s] at f;(have z:=al f;clear f;subst z);rw[t] at k;cases k;rw[u] at l;cases l;rfl
def Pm.tab(F:Pm h x v):CP h v F.P:=cb F.ta.1 λFU s q i b f=>{F.a,F.o,_,F.c,FU,s,F.e,F.g,F.PR,Î,q,b,f}
def EI.tab(f:EI w h x v .fn):∃P,CP h v P/\∃o,h.Ò P=À o:=f.ç λF=>{F.P,F.tab,_,F.ta.2}
def CP.back(k:Kept h h')(a:∃o,h.Ò 12=À o/\∀vs n,o.ë≠ .Ĕ vs n)(b:∃o,h.Ò jp=À o/\∀vs n,o.ë≠ .Ĕ vs n)(f:EI w h x v .fn)(t:CP h' v P):CP h v P:=by
 obtain⟨F⟩:=f;obtain rfl:=t.one (F.ÂE (jY k)).tab;show F.tab
structure TS(w:s2)(a:Fs)(pre:Â Ĵ)(i:Ï)(h:ì)(mg:Þ->Ë Í):Prop where
 ů:∃l,h.Main mg 13 12 (triples l).ó/\∀q∈l,q.1.Ÿ<=i
 č:Kept (H2 w.ô) h
 facts:∀x f,a.Áj x=À f->∃v,mg x=À v/\EI w h x v f
 rest:∀x,a.Áj x=Ã->mg x=(H2 w.ô).Áf jp x
 Ú:35<=h.ã.Ú
 pre:∀f,CD.isFn (a.Áj f)=Å->Àj pre f=Ã
 apart:∀x y u v P,x≠y->a.Áj x=À .fn->a.Áj y=À .fn->mg x=À u->mg y=À v->CP h u P->¬CP h v P
def TS.zU{w a pre i h mg}(T:TS w a pre i h mg):∃o,h.Ò 12=À o/\∀vs n,o.ë≠ .Ĕ vs n:=by
 show ag T.ů λl M _=>kU M.ÁD λo vs f t g j k x b=>e29 b λm p s u v y z A B c d=>aj d λe r=>{p,c,λvs n q=>by rw[e] at q;show dC q}
def TS.h3{w a pre i h mg}(T:TS w a pre i h mg):∃o,h.Ò jp=À o/\∀vs n,o.ë≠ .Ĕ vs n:=ag T.ů λl M _=>ba M.g λo s p e d _=>{o,e,λvs n q=>by rw[d] at q;show dC q}
def Qp:Env:={İ:=pw.ů.İ,æ:=jp,ÀG:=jp,ō:=[]}
def Mb(x:Þ):é:=decide (pw.ů.İ.î.ö x=À .local)&& !decide (x= "__builtins__")
inductive TT where
 |fn
 |lit(x:Þ)(l:LX)
 |tab(x:Þ)
instance:í TT:={.fn}
def Qq:Ĵ->TT
 | .Ř [.ċ x _] (.Dict ..) _=>.tab x
 | .Ř [.ċ x _] v _=>.lit x (Lp 10 v)
 |_=>.fn
abbrev OQ:=Ë (Þ×CD×Ï)
def Vr(b:Fs)(l:Ï)(n:Þ)(a:S1)(s:Ŗ)(p:Pos):OQ:=if a.ÀO.Ť&&a.ÂP.Ť&&a.Ál.Ť&&(annTrees a Ã BL).Ť&&s.î.ş (λy=> !decide (y.2= .ÁT))&&Mb n&&decide (qualnameIn Qp n n=n)&&
   (b.Áj n).Áa&&decide (l<p.Ÿ) then À (n,.fn,p.Ÿ) else Ã
def WM(c:Fs)(l:Ï)(st:Ĵ):Ĵ×OQ:=match st with
 | .ÀC n a b _ _ _ s _ _ p=>(.ÀC n a b [] Ã [] s Ã n p,Vr c l n a s p)
 |_=>(st,Ã)
noncomputable def okN(a:Fs)(x:Þ)(v:ý):é:=Mb x&& !Ji v&& !CD.isFn (a.Áj x)
def Tx(a:Fs)(i:Ï)(x:Þ)(k:Â (Ë ý))(vs:Â ý)(v:ý):OQ:=(litPairs k vs).ù λl=>if okN a x v&&strKeyed l&&decide ((strKeysOf l).Ŀ)&&k.ş (·.ÁW)&&decide (k.Á=vs.Á)&& !k.Ť&&decide (k.Á<=15) then À (x,.tab l,i) else Ã
def Vs(a:Fs)(l:Ï)(x:Þ)(px p:Pos)(e:ý):Ĵ×OQ:=match e with
 | .Dict k vs d=>(.Ř [.ċ x px] (.Dict k vs d) p,Tx a l x k vs (.Dict k vs d))
 |_=>(.Ř [] e p,Ã)
noncomputable def litE(a:Fs)(l:Ï)(x:Þ)(px p:Pos)(q:ý×Ë D):Ĵ×OQ:=(.Ř [.ċ x px] q.1 p,if okN a x q.1 then q.2.Ö λd=>(x,.dat d,l) else Ã)
def Vt(f:Pos->Pos->ý->Ĵ×OQ)(st:Ĵ):Ĵ×OQ:=match st with
 | .Ř ts v p=>f (ts.headD (.ğ .Ã 0 Ķ)).ă p v
 |_=>(st,Ã)
noncomputable def TT.go(a:Fs)(i:Ï)(st:Ĵ):TT->Ĵ×OQ
 | .fn=>WM a i st
 | .lit x l=>Vt (λpx p v=>litE a i x px p ((l.go (Tw a)).1 v)) st
 | .tab x=>Vt (Vs a i x) st
def FE:Fs->Ï->Â Ĵ->Â Ĵ×Ë Fs
 |a,_,[]=>([],À a)
 |a,l,st::s=>match((Qq st).go a l st).2 with
  |À q=>(((Qq st).go a l st).1::(FE ((q.1,q.2.1)::a) q.2.2 s).1,(FE ((q.1,q.2.1)::a) q.2.2 s).2)
  |Ã=>([],Ã)
def c_{l r:Â Ĵ}{f:Þ}(h:Àj l f=Ã):Àj (l++r) f=Àj r f:=by
 induction l with
 |å=>rfl
 |Æ st l j=>
  cases st using Ĵ.ď with
  |ÀC n a b c d e s g bd p=>
   have i:(if n=f then À (a,b,s) else Àj l f)=Ã:=h;change(if n=f then À (a,b,s) else Àj (l++r) f)=_;split at i
   ·show we i
   ·rename_i k;rw[ß k];show j i
  |_=>show j h
section
variable{w:s2}{A:KB}
def TS.stored{pre:Â Ĵ}(T:TS w k pre V h mg){st:Ĵ}(n:Mb x=Ä)(Y:CD.isFn (k.Áj x)=Å)(hf:CD.isFn (À f)=Å)
  (k1:∀b o,h.Ò b=À o->p.Ò b=À o)(z1:h.ã.Ú<=p.ã.Ú)(hv:EI w p x v f)(hn:E.Ns jp (λy=>if y=x then À v else mg y))(s:ut jp p E)
  (e8:∀g,Àj [st] g=Ã):TS w ((x,f)::k) (pre++[st]) V E (λy=>if y=x then À v else mg y):=by
 have e9:x≠ "__builtins__":=by
  unfold Mb at n;rw[KF] at n;intro z;rw[z] at n;show absurd n.2 _0
 have N:Kept p E:=λb o _ G e=>(s.2 b G).Ð e;have t:=λb o f6 G e=>N b o f6 G (k1 b o e);show ag T.ů λl M hl=>?_;have H:=T.zU;have m:=T.h3;show{{l,{hn,?_,M.low,?_},hl},λb o a c e=>t b o a c (T.č b o a c e),λy g d=>?_,λy d=>?_,ac T.Ú (ac z1 (lm s.1.symm)),λg I=>?_,λy z u u' P f9 d hz B C t1 t2=>?_}
 ·show(M.ÁD.ľ k1).Áe s _0 _0
 ·show e26 M.bmod λO o b1 b2 b3 b4 b5 b6=>{O,o,(ß (S4 e9)).Ð b1,b2,b3,b4,(s.2 O b3).Ð (k1 _ _ b5),b6}
 ·rw[cX] at d;split at d
  ·rename_i i
   (have j:=al d;clear d;subst j)
   subst i;show{v,à Î,EI.ÂE N ?_ ?_ hv}
   ·show ag H ?_;clear H;intro o e q;show{o,k1 _ _ e,q}
   ·show ag m ?_;clear m;intro o e q;show{o,k1 _ _ e,q}
  ·rename_i i;show ag (T.facts y g d) λu e r=>{u,(ß i).Ð e,EI.ÂE t H m r}
 ·rw[cX] at d;split at d
  ·show we d
  ·rename_i i;show(ß i).Ð (T.rest y d)
 ·have j7:CD.isFn (k.Áj g)=Å:=by
   rw[cX] at I;split at I
   ·rename_i i;rw[i];show Y
   ·show I
  rw[c_ (T.pre g j7)];show e8 g
 ·have Q:∀{y:Þ},Fs.Áj ((x,f)::k) y=À .fn->y≠x/\k.Áj y=À .fn:=λ{y} d=>by
   rw[cX] at d;split at d
   ·(have j:=al d;clear d;subst j);show tF hf
   ·rename_i i;show{i,d}
  show aj (Q d) λy1 y2=>aj (Q hz) λj8 U=>?_;have B:=(ß y1).symm.Ð B;have C:=(ß j8).symm.Ð C;show ag (T.facts y _ y2) λa J fa=>ag (T.facts z _ U) λb L fb=>?_;rw[B] at J;(have j:=al J;clear J;subst j);rw[C] at L;(have j:=al L;clear L;subst j);show T.apart y z u u' P f9 y2 U B C (t1.back t H m fa) (t2.back t H m fb)
def tE{B:Fs}{pre j5:Â Ĵ}{I:Ï}{x:Þ}{a:S1}{b:Â Ĵ}{C:Ŗ}{p:Pos}{q:Þ×CD×Ï}(hb:pw.ů.Ć=pre++ .ÀC x a b [] Ã [] C Ã x p::j5)(hc:Vr B I x a C p=À q){s:Ô}{mg:Þ->Ë Í}(T:TS w B pre I s.Ì mg){Q:Flow->Ô->Prop}{E:Í->Ô->Prop}
  (h:∀h' tk m9,TS w ((q.1,q.2.1)::B) (pre++[.ÀC x a b [] Ã [] C Ã x p]) q.2.2 h' m9->Q .next {s with Ì:=h',Ā:=tk}):è (ć pw w) A (exec (.ÀC x a b [] Ã [] C Ã x p) BL) Q E s:=by
 exists w A B pre j5 I x a b C p q s mg Q E,hb hc T h;obtain⟨hk,Î⟩:=ej hc;show b9 hk λc2 c3 c4 c5 c6 c7 c8 c9 q9=>b2 c7 λc7 j8=>?_;have j9:I<p.Ÿ:=Ø q9;have s0:B.Áj x=Ã:=s3.mp c9;show ag T.ů λl M hl=>?_;exists l,M hl;have s8:x≠ "__builtins__":=by
  intro z;rw[z] at j8;show absurd j8 _0
 have k6:a.Ál=[]:=At.mp c4;show wpAny_defStmt0N (ú:=pw) (c:=13) (Pl:=12) (F:=14) (At.mp c2) (At.mp c3) (by rw[k6];simp) (At.mp c5) (λy d=>by simpa using an.mp c6 y d) (Ø c7) (Ø c8) M
  (λk G k7 dV J h' tk ha M' L e8 l6 e9 l7 č=>?_) s8 Î (by rw[Â.toList_toArray];show codeAmong_triples _ _ λq hq z=>absurd (hl q hq) (by rw[z.1];show Ï.not_le.ĝ j9))
 exists k G k7 dV J h' tk,ha M' L e8 l6 e9 l7 č;have t4:dV= .Ã:=by
  rw[k6] at e8;cases J using i2 with
  |å=>show l6.ç (λq=>q.2) λq=>absurd rfl q.1
  |Æ=>show e8.ç
 subst t4;have kk:Kept s.Ì h':=λb o N O e=>č b o N O e;show au l7 λP' f8 l8 f9=>?_;exists P',f8 l8 f9;have l9:=T.zU;have H3:=T.h3;show h h' tk (λy=>if y=x then À (.ò k) else mg y) {{l++[(p,G)],?_,λq hq=>?_},λb o N O e=>kk b o N O (T.č b o N O e),λy g d=>?_,λy d=>?_,?_,λg U=>?_,?_}
 ·rw[triples_append];have:=M';rwa [show(triples l).ó++ #[ŷ p.Ÿ,ŷ p.col,Í.ò G]=(triples l++[ŷ p.Ÿ,ŷ p.col,Í.ò G]).ó by simp] at this
 ·rcases dL.mp hq with j|j
  ·show ac (hl q j) (i5 j9)
  ·rw[am.mp j];show a3 _
 ·exists y g,d;rw[cX] at d;split at d
  ·rename_i n;cases d;subst n;show{.ò k,à Î,{{a,b,C,?_,k,_,_,G,P',k7,Î,ac T.Ú ha,ac T.Ú e9.1,ac T.Ú f8,L,Î,e9.2,l8,f9}}};rw[hb,c_ (T.pre y (by rw[s0];rfl))];show à Î
  ·rename_i n;show ag (T.facts y g d) λu e r=>{u,(ß n).Ð e,EI.ÂE kk l9 H3 r}
 ·rw[cX] at d;split at d
  ·show we d
  ·rename_i n;show(ß n).Ð (T.rest y d)
 ·show ac T.Ú (ac ha (i5 (g3 L)))
 ·rw[cX] at U;split at U
  ·show tF U
  ·rename_i n;rw[c_ (T.pre g U)];show ß (λz=>n z.symm)
 ·have m5:∀P,CP h' (.ò k) P->s.Ì.ã.Ú<=P:=λP t=>by
   obtain⟨⟨FU,J,j,m,q3,q4⟩,q5⟩:=f9;have t':CP h' (.ò k) P':={k,_,_,G,FU,J,Î,L,Î,Î,j,q3,q4};rw[t.one t'];show f8
  have V:∀{y:Þ} {u:Í} {P:á},B.Áj y=À .fn->mg y=À u->CP h' u P->CP s.Ì u P/\P<s.Ì.ã.Ú:=λ{y u P} d f t=>by
   show ag (T.facts y _ d) λb eb fb=>?_;rw[f] at eb;cases eb;have t':=t.back kk l9 H3 fb;show ag fb.tab λmS t0 t9=>ao t9 λo e0=>?_;rw[t'.one t0];show{t0,g3 e0}
  intro y z u H P j4 d v f i Y t2;exists y z u H P,j4 d v f i Y t2;rw[cX] at d v;split at d
  ·rename_i j;split at v
   ·rename_i m;show j4 (j.Ð m.symm)
   ·rename_i m;have f:À (.ò k)=À u:=(à j).symm.Ð f;cases f;have i:mg z=À H:=(ß m).symm.Ð i;show absurd (V v i t2).2 (i8.ĝ (m5 P Y))
  ·rename_i j;have f:mg y=À u:=(ß j).symm.Ð f;split at v
   ·rename_i m;have i:À (.ò k)=À H:=(à m).symm.Ð i;cases i;show absurd (V d f Y).2 (i8.ĝ (m5 P t2))
   ·rename_i m;have i:mg z=À H:=(ß m).symm.Ð i;show T.apart y z u H P j4 d v f i (V d f Y).1 (V v i t2).1
def tG{l:LX}{px p:Pos}(c:(litE a i x px p ((l.go (Tw a)).1 e)).2=À q)(T:TS w a pre i s.Ì mg)
  (h:∀h' tk m,TS w ((q.1,q.2.1)::a) (pre++[(litE a i x px p ((l.go (Tw a)).1 e)).1]) q.2.2 h' m->Q .next {s with Ì:=h',Ā:=tk}):è (ć pw w) A (exec (litE a i x px p ((l.go (Tw a)).1 e)).1 BL) Q E s:=by
 show aj (nQ c) λf c=>bG λn=>ag (h9.mp c) λd j z=>?_;obtain rfl:=z;show n ?_;clear n;show b3 f λb o r=>ag T.ů λl M I=>P8 ((wU Î Î _).1 e d j s _ _ M.g T.Ú (λy d t=>?_) λu J L k v B=>?_) (dp o)
 ·show T.facts y (.dat _) (tD t)
 ·show ţ (Ø (ax b).1) (M.g.ľ k) (λC G H=>h C _ _ (T.stored b (by simpa using r) rfl k v B G H λN=>rfl)) rfl
def tH{b:Fs}{pre:Â Ĵ}{i:Ï}{x:Þ}{k:Â (Ë ý)}{vs:Â ý}{d px p:Pos}{q:Þ×CD×Ï}(c:Tx b i x k vs (.Dict k vs d)=À q){s:Ô}{mg:Þ->Ë Í}(T:TS w b pre i s.Ì mg){Q:Flow->Ô->Prop}{E:Í->Ô->Prop}
  (h:∀h' tk t,TS w ((q.1,q.2.1)::b) (pre++[.Ř [.ċ x px] (.Dict k vs d) p]) q.2.2 h' t->Q .next {s with Ì:=h',Ā:=tk}):è (ć pw w) A (exec (.Ř [.ċ x px] (.Dict k vs d) p) BL) Q E s:=by
 exists w A b pre i x k vs d px p q s mg Q E,c T h;show ag (lw.mp c) λu f c=>?_;exists u,f c;obtain⟨v,Î⟩:=ej c;show b9 v λj y e d1 z d3 B C G=>?_;have e:=by simpa using e
 show ag T.ů λl M N=>P8 (Dict_lits_str f d1 (Ø z) d3 (Ø B) (by rintro rfl;show fT C) (Ø G) λa o O U m n H r=>(ţ (Ø (ax j).1) (M.g.ľ r) (λI J L=>h I _ _ (T.stored j e Î r (ac m (i5 (g3 n))) {a,o,Î,ac T.Ú m,n,H} J L λV=>rfl)) rfl)) (dp y)
def Un(st:Ĵ):Prop:=∃a b c d e f g h i j,st= .ÀC a b c d e f g h i j
def Uo(st:Ĵ):Prop:=∃a b c,st= .Ř a b c
def Up(v:ý):Prop:=∃a b c,v= .Dict a b c
def aa7(t:TT)(a:Fs)(l:Ï)(st:Ĵ):(t.go a l st).2=Ã\/Un st\/Uo st:=by
 cases t<;>induction st using Ĵ.ď<;>first|show .Ę Î|show .Ġ (.Ę {_,_,_,_,_,_,_,_,_,_,Î})|show .Ġ (.Ġ {_,_,_,Î})
def aa8(x:Þ)(a:Fs)(l:Ï)(ts:Â ý)(v:ý)(p:Pos):((TT.tab x).go a l (.Ř ts v p)).2=Ã\/Up v:=by
 induction v using No<;>first|show .Ę Î|show .Ġ {_,_,_,Î}
def wV{t:TT}{st:Ĵ}{q:Þ×CD×Ï}(b:pw.ů.Ć=pre++(t.go a l st).1::r)(c:(t.go a l st).2=À q){s:Ô}{mg:Þ->Ë Í}(T:TS w a pre l s.Ì mg){Q:Flow->Ô->Prop}{E:Í->Ô->Prop}
  (h:∀h' tk m,TS w ((q.1,q.2.1)::a) (pre++[(t.go a l st).1]) q.2.2 h' m->Q .next {s with Ì:=h',Ā:=tk}):è (ć pw w) A (exec (t.go a l st).1 BL) Q E s:=by
 rcases aa7 t a l st with q|⟨_,_,_,_,_,_,_,_,_,_,Î⟩|⟨d,v,p,Î⟩
 ·show nS (q.symm.Ð c)
 ·cases t with
  |fn=>show tE b c T h
  |_=>show nS c
 ·cases t with
  |fn=>show nS c
  |lit=>show tG c T h
  |tab=>
   rcases aa8 _ a l d v p with q|⟨_,_,_,Î⟩
   ·show nS (q.symm.Ð c)
   ·show tH c T h
def tI(t:Â Ĵ):∀{pre:Â Ĵ} {a d:Fs} {l:Ï},pw.ů.Ć=pre++(FE a l t).1->(FE a l t).2=À d->∀{s:Ô} {mg:Þ->Ë Í},TS w a pre l s.Ì mg->∀{Q:Flow->Ô->Prop} {E:Í->Ô->Prop},
  (∀h' tk m i,TS w d pw.ů.Ć i h' m->Q .next {s with Ì:=h',Ā:=tk})->è (ć pw w) A (Ák (FE a l t).1 BL) Q E s:=by
 exists w A t,no;induction t with
 |å=>
  intro pre a d l b c s mg T Q E h
  (have z:=al c;clear c;subst z)
  have b:pw.ů.Ć=pre++[]:=b;rw[wf] at b;show V4 (h s.Ì s.Ā mg l (b▸T))
 |Æ st t f=>
  intro pre a d l b c s mg T Q E h;unfold FE at b c⊢;cases e:((Qq st).go a l st).2 with
  |Ã=>rw[e] at c;show nS c
  |À q=>
   rw[e] at b c;show Fa (wV b e T λh' tk m g=>f (by rw[b,tz];rfl) c g h)
end
end
section
def zV:pw.ů.Ć=HK++DG:=(Zt 2 _).symm
def OG:Â Ĵ×Ë Fs:=FE [] 2 DG
def Ca:Â Þ:=MS.Ö (·.1)++(["law","_law_told"]:Â Þ)
def Vu(a:Fs):é:=Ca.ş (λf=>CD.isFn (a.Áj f))&&(DK++(["CasFail","__builtins__"]:Â Þ)++laidNames).ş (λx=>(a.Áj x).Áa)&&a.ş (λp=>pw.boundNames.Àm p.1)
def wW:(OG.1,OG.2.Ö λa=>(Vu a,(Qn.Ö λp=>Tw a p.1),a.Áj "RANKS"))=(DG,À (Ä,(Qn.Ö λp=>À p.2),À (.tab (Sa.Ö λp=>(.Ý p.1,.Ê p.2))))):=_2
def NO(a:Fs):Prop:=Vu a=Ä/\(Qn.Ö λp=>Tw a p.1)=(Qn.Ö λp=>À p.2)/\a.Áj "RANKS" =À (.tab (Sa.Ö λp=>(.Ý p.1,.Ê p.2)))
def zW:OG.1=DG/\∃a,OG.2=À a/\NO a:=by
 show aj (f0 wW) λb c=>ag (h9.mp c) λa d e=>aj (f0 e) λf h=>aj (f0 h) λh g=>{b,a,d,f,h,g}
end
section
def hK(P:TI):(H2 P).isNs jp=Ä:=_2
def gv(P:TI):(H2 P).isNs J5=Ä:=_2
def oP(P:TI):(H2 P).isNs cStatics=Ä:=_2
def wX(P:TI):(H2 P).isNs 30=Ä:=_2
def tJ(P:TI):(H2 P).Áf jp "__builtins__" =À (.ò 4):=_2
def tK(P:TI):(H2 P).Ò 4=À {ķ:=.Ċ "module",ĺ:=À 0,ë:=.plain}:=_2
def ts0(w:s2):TS w [] HK 2 (H2 w.ô) ((H2 w.ô).Áf jp):=by
 show{{[(HL,20)],{.of_isNs (hK _),?_,{_0,_0},{4,_,tJ _,_0,_0,_0,tK _,Î,Î,Î}},λq a=>?_},λb o _ _ e=>e,λx f h=>(by show nS h),λx _=>rfl,?_,λf _=>?_,λx y u v P _ h=>(by show nS h)}
 ·show{_,_,_,_,_,_,_,_,_,_,Î,Î,Î,Î,Î,Î,Î,Î,Î,trivial,_0}
 ·rw[am.mp a];show a3 _
 ·show a3 35
 ·kernel_rfl
end
section
def lZ(P:TI):(H2 P).bltView=bltViewBooted:=_2
def tL(P:TI):DK.ş (λx=>((H2 P).Áf jp x).Áa)=Ä:=_2
def zX(P:TI):(H2 P).Áf jp "CasFail" =À (.ò 31):=_2
def wY(P:TI):(H2 P).Áf cStatics "sys.recursionlimit" =Ã:=_2
def Uq(r:S1×Â Ĵ×Ŗ):é:=decide (r.2.2.ĕ= .Ĥ)&& !r.2.2.Àh&& !r.2.2.Ài&&decide ((r.2.2.î.Ö (·.1)).Ŀ)&&r.1.Àg.Ť&&r.1.ÀO.Ť&&r.1.vararg.Áa&&r.1.kwarg.Áa&&
 decide ((r.1.Ū.Ö (·.arg)).Ŀ)&&(r.1.Ū.Ö (·.arg)).ş λx=>decide (r.2.2.î.ö x=À .local)||(decide (r.2.2.î.ö x=À .Ĭ)&& !(x==("__classdict__" :Þ)))
def tM:Ca.ş (λf=>(Àj pw.ů.Ć f).ş Uq)=Ä:=_2
def rh:Àj pw.ů.Ć "_law_told" =À (Ed {754,14,754,18},Eu {756,16,756,22} {756,24,756,28} {756,24,756,30} {756,15,756,31} {756,8,756,31} {757,11,757,18} {758,16,758,25} {758,27,758,34} {758,27,758,39} {758,15,758,40} {758,8,758,40} {757,4,758,40} {755,4,758,40} 0 0 0 0,
  {ĕ:=.Ĥ,î:=[("work",.local),("refusal",.local),("CasFail",.ē)],Ài:=Å,Àh:=Å,more:=[]}):=_2
def ri:Dp.2.1=Ib {5,8,5,17} {5,8,5,26} {5,27,5,31} {5,33,5,37} {5,40,5,44} {5,33,5,44} {5,47,5,51} {5,33,5,51} {5,8,5,52} {5,8,5,52} {6,8,6,12} {6,8,6,17} {6,20,6,24} {6,8,6,24} {7,8,7,12} {7,8,7,17} {7,20,7,24} {7,8,7,24} 0:=_2
def Ur:é:=decide (Dp.1.Ū.Ö (·.arg)=(["self","kind","text"]:Â Þ))&&Dp.1.Àg.Ť&&Dp.1.ÀO.Ť&&Dp.1.vararg.Áa&&Dp.1.kwarg.Áa&&decide (Dp.2.2.ĕ= .Ĥ)&& !Dp.2.2.Àh&& !Dp.2.2.Ài&&decide ((Dp.2.2.î.Ö (·.1)).Ŀ)&&
 decide (Dp.2.2.î.ö ("self" :Þ)=À .local)&&decide (Dp.2.2.î.ö ("kind" :Þ)=À .local)&&decide (Dp.2.2.î.ö ("text" :Þ)=À .local)&&decide (Dp.2.2.î.ö ("Exception" :Þ)=À .ē)
def rj:Ur=Ä:=_2
def tN(P:TI):((H2 P).Áf 30 "__init__",(H2 P).Áf 30 "__setattr__",(H2 P).Áf 30 "__getattribute__",(H2 P).Áf 30 "kind",(H2 P).Áf 30 "text",(H2 P).Áf 30 "__getattr__")=(À (.ò 28),Ã,Ã,Ã,Ã,Ã):=_2
structure ź(w:s2)(h:ì)(mg:Þ->Ë Í):Prop where
 ns:h.Ns jp mg
 č:Kept (H2 w.ô) h
 fns:∀f∈Ca,∃v,mg f=À v/\EI w h f v .fn
 dat:∀x d,Cj x=À d->∃v,mg x=À v/\Eh h v d
 tab:∃v,mg "RANKS" =À v/\EI w h "RANKS" v (.tab (Sa.Ö λp=>(.Ý p.1,.Ê p.2)))
 Ã:∀x∈DK,mg x=Ã
 cf:mg "CasFail" =À (.ò 31)
 Us:mg "__builtins__" =À (.ò 4)
 apart:∀x∈Ca,∀y∈Ca,∀u v P,x≠y->mg x=À u->mg y=À v->CP h u P->¬CP h v P
 tw:∃o,h.Ò 12=À o/\∀vs n,o.ë≠ .Ĕ vs n
def tO{pre:Â Ĵ}{k:Ï}(m:NO b)(T:TS w b pre k h mg):ź w h mg:=by
 show b_ m λq r s=>b3 q λd1 t d3=>?_;have n:∀f∈Ca,b.Áj f=À .fn:=λf c=>tC (an.mp d1 f c);have o:=λx a=>s3.mp (an.mp t x a);show ag T.ů λl M _=>{M.g,T.č,λf c=>T.facts f _ (n f c),λx d a=>?_,T.facts _ _ s,λx a=>?_,?_,?_,λx a y z u v P A B C E G=>T.apart x y u v P A (n x a) (n y z) B C E G,T.zU}
 ·unfold Cj at a;obtain⟨p,e,Î⟩:=h9.mp a;have H:=Yx e;have:Tw b p.1=À p.2:=by
   obtain⟨i,I,Î⟩:=Â.getElem_of_mem (IN e);have j:=â (λl=>l[i]?) r;simp only[j1,ch I,V6,abD] at j;show j
  rw[(eZ H)] at this;show T.facts x _ (tD this)
 ·rw[T.rest x (o x (by simp[a]))];show s3.mp (an.mp (tL w.ô) x a)
 ·rw[T.rest _ (o "CasFail" _0)];show zX _
 ·rw[T.rest _ (o "__builtins__" _0)];show tJ _
end
section
def tP:(IK.ş λf=>Ca.any (IY f))=Ä:=_2
def dq(f)(h:f∈IK):f∈Ca:=ag (ms.mp (an.mp tP f h)) λg a e=>(eZ e).symm▸a
open Classical in
noncomputable def Âc(h:ì)(mg:Þ->Ë Í)(f:Þ):á:=if q:∃P v,mg f=À v/\CP h v P then q.choose else 0
def HM(h:ì)(mg:Þ->Ë Í):Â á:=IK.Ö (Âc h mg)
def Ei(w:s2)(h:ì)(mg:Þ->Ë Í):Cx:={ú:=pw,w:=w,ÿ:=hideAll h (HM h mg),mg:=mg,mb:=(H2 w.ô).Áf J5,P:=Ã,exc:=.ò 31,tab:=λb=>(IK.Âm λf=>decide (Âc h mg f=b)).Ö λf=>(f++ ".<locals>.")++ "<lambda>"}
section
variable{w:s2}{h:Heap}{mg:Str->Option Value}
def tabOf_eq(a:mg f=À v)(t:CP h v P):Âc h mg f=P:=by
 have q:∃P v,mg f=À v/\CP h v P:={P,v,a,t};unfold Âc;rw[dif_pos q];show ag q.ż λc e b=>?_;rw[a] at e;(have z:=al e;clear e;subst z);show b.one t
def ź.fnAt(L:ź w h mg){f:Þ}(b:f∈Ca):∃r Ć s a o p c P d,Àj pw.ů.Ć f=À (r,Ć,s)/\mg f=À (.ò a)/\h.Ò a=À o/\o.ë= .func (Áb f r Ć s p (.ò c) d)/\h.CodeRec (.ò c) f/\h.IsCode c P #[]/\h.TableAt c P #[]/\Âc h mg f=P:=by
 exists w h mg f,L b;show ag (L.fns f b) λv e F=>ag F.tab λmS y _=>?_;obtain⟨⟨r,Ć,s,k,a,o,p,c,P,d,Î,z,A,B,g,i,l,m,j⟩⟩:=F;have t:CP h (.ò a) P:=by
  obtain⟨⟨FU,n,q,C,u,x⟩,E⟩:=j;show{a,o,_,c,FU,n,Î,g,i,Î,q,u,x}
 show{r,Ć,s,a,o,p,c,P,d,k,e,g,i,l,m,j,tabOf_eq e t}
def ź.ũ(L:ź w h mg)(d:b∈HM h mg):h.Ò b=À (tabObj #[]):=by
 obtain⟨f,g,Î⟩:=i1.mp d;show kU (L.fnAt (dq f g)) λs y p a o m c P i=>sf i λj k v l n q t r e=>?_;rw[e];show r.2
def ź.zY(L:ź w h mg)(e:h.Ò b=À o)(a:o≠tabObj #[]):(Ei w h mg).ÿ.Ò b=À o:=
 hideAll_get _ e λq=>a (by have:=L.ũ q;rw[e] at this;show al this)
def ź.zc(L:ź w h mg)(e:h.Ò b=À o)(a:o.ķ≠ .Ã):(Ei w h mg).ÿ.Ò b=À o:=L.zY e λq=>a (by rw[q])
def ź.oQ(L:ź w h mg)(e:h.Ò b=À o)(a:∀vs,o.ë≠ .ü vs):(Ei w h mg).ÿ.Ò b=À o:=L.zY e λq=>a _ (by rw[q])
def ź.wZ(L:ź w h mg)(n:h.Ns a m):(Ei w h mg).ÿ.Ns a m:=
 n.at λo e=>L.oQ e λv q=>by show ba n ?_;clear n;intro c s p b d _;rw[e] at b;(have z:=al b;clear b;subst z);rw[d] at q;show dC q
theorem ź.MV(L:ź w h mg)(x:(H2 w.ô).isNs a=Ä)(b:a≠12)(c:a≠jp):h.Ns a ((H2 w.ô).Áf a):=
 (ì.Ns.of_isNs x).at λo e=>L.č a o b c e
def ź.tQ(L:ź w h mg)(P:Ë á){f:Þ}(i:f∈Ca):∃s Ć p,Àj pw.ů.Ć f=À (s,Ć,p)/\∃a o m c d,KR ((Ei w h mg).at P) f s Ć p a o m (.ò c) d/\CodeHd (Ei w h mg).ÿ c (Âc h mg f):=by
 exists w h mg P f,L i;show kU (L.fnAt i) λs Ć p a o m c T A=>sf A ?_;clear A;intro d j B C k l E G e;exists s Ć p a o m c T d,j B C k l E G e;have H:=an.mp tM f i;rw[j] at H;show wy H λa1 U GD V Y a6 a7 a8 a9 e8=>bG λnG=>?_;show aj G λf6 q5=>cb f6 λFU v b n I J=>nG ?_;exists FU v,b n I J;have N:=L.zc b (by rw[n];show λz=>by show vC z);show{s,Ć,p,j,a,o,m,c,d,{B,L.oQ C (λv q=>by rw[k] at q;show dC q),k,?_,Ø a1,by simpa using U,by simpa using GD,Ø V,At.mp Y,At.mp a6,s3.mp a7,s3.mp a8,Ø a9,λx O=>?_},?_}
 ·show kT l ?_;clear l;intro k8 k9 f8 t f9 g r;cases f9;rw[b] at g;(have u:=al g;clear g;subst u);show{c,FU,f8,t,Î,N,r}
 ·exists x,O;have:=an.mp e8 x O;rw[é.or_eq_true,KF] at this;rcases this with q|⟨q,Q⟩
  ·show .Ę (Ø q)
  ·show .Ġ {Ø q,?_};cases z:(x==("__classdict__")) with
   |Ä=>rw[z] at Q;show fT Q
   |Å=>rfl
 ·rw[e];show kU (CodeHd.of E {{FU,v,b,n,I,J},q5}) λo' j3 j4 tf j6 tg j8 j9 k6=>ag k6 λtt y r=>?_;rw[b] at y;(have u:=al y;clear y;subst u);show{FU,j3,j4,tf,j6,tg,j8,j9,tt,N,r}
def ź.jZ(L:ź w h mg)(a:f∈IK):(Ei w h mg).tab (Âc h mg f)=À ((f++ ".<locals>.")++ "<lambda>"):=by
 exists w h mg f,L a;change(IK.Âm λg=>decide (Âc h mg g=Âc h mg f)).Ö _=_;cases q:IK.Âm λg=>decide (Âc h mg g=Âc h mg f) with
 |Ã=>
  have:=Â.find?_eq_none.mp q f a;simp at this
 |À g=>
  have b:=IN q;have e:=Yx q;have e:=Ø e;have:g=f:=by
   by_cases n:g=f
   ·show n
   ·exfalso;show ag (L.fns g (dq g b)) λu c j=>ag (L.fns f (dq f a)) λv d k=>ag j.tab λP t _=>ag k.tab λl i _=>?_;rw[tabOf_eq c t,tabOf_eq d i] at e;subst e;show L.apart g (dq g b) f (dq f a) u v P n c d t i
  rw[this];rfl
def ź.zd(L:ź w h mg)(e:(Ei w h mg).tab b=À q):b∈HM h mg:=by
 obtain⟨f,a,Î⟩:=h9.mp e;have c:=Yx a;show(Ø c)▸U5 (IN a)
def ź.w_(L:ź w h mg):Dh (Ei w h mg).tab (λb=>∃q,(Ei w h mg).tab b=À q) h:=λb q e=>{{q,e},#[],L.ũ (L.zd e),trivial,λp v c=>by show nS c}
def ź.nb(L:ź w h mg)(b)(q)(e:(Ei w h mg).tab b=À q):(Ei w h mg).ÿ.Ò b=Ë.Ã:=hideAll_none _ (L.zd e)
end
end
section
section
variable{w:s2}{h:Heap}{mg:Str->Option Value}
def ź.rd(L:ź w h mg)(r:Eh h v d):∃s,Ào (Ei w h mg).ÿ v d s:=by
 show ag r ?_;clear r;intro s r _;show{s,aS (Y:=λb=>h.Ò b=À (tabObj #[])) (λb o e q=>.Ę ?_) r λa c=>{λy=>?_,id}}
 ·rcases q with q|⟨_,g,n,q⟩
  ·show L.zY e λz=>q (z▸e)
  ·show L.oQ e λi z=>by rw[q] at z;show dC z
 ·show ag (cR r a c) λo e nf=>?_;rw[y] at e;(have f:=al e;clear e;subst f);show nf _ Î
def tR(a b:Þ):IY a b=decide (a=b):=by
 cases e:IY a b with
 |Ä=>show(Ă (eZ e)).symm
 |Å=>show(û λh=>by rw[h,show IY b b=Ä from lU.ĝ Î] at e;show tF e).symm
set_option tactic.hygienic true in
def tS{g:Â (Þ×ä)}:∀{k:Â (Þ×Í)},Ân.V.FlatPairs ā.Ý k (g.Ö λp=>(.Ý p.1,.Ê p.2))->∀{y:Þ} {i:ä},(g.Âm λp=>decide (p.1=y)).Ö (·.2)=À i->∃t,valueAt k y=À (.Ê i t):=by
 exists g,no;induction g with
 |å=>intro k _ y i h;show nS h
 |Æ p g b=>
  intro k f y i h;exists p g k y i,b f h;cases f with
  |Æ l c=>
   rename_i v k;exists v k,l c;by_cases a:p.1=y
   ·rw[Zh (by simp[a])] at h
    (have z:=al h;clear h;subst z)
    have r:=l (Ķ:ì);cases r with
    |Ê _ t=>show{t,by unfold valueAt;rw[Zh (by simp[a])];rfl}
   ·rw[Zi (by simp[a])] at h;show ao (b c h) λt d=>?_;show{t,?_};unfold valueAt at d⊢;rw[Zi (by simp[a])];show d
def zZ(P:TI):(H2 P).Ò 31=À (Ņ "CasFail" "CasFail" 31 30 [.Ċ "Exception"] ES Ä [] [] Å Ã Ã (À (.ò 15)) Ã (À (.Ý "CasFail" 189)) (À (.Ý "CasFail" 197)) (À (.Ù Ä)) "Exception.__new__"):=_2
def z_(P:TI):(H2 P).Ò 28=À {ķ:=.Ċ "function",ë:=.func {"__init__","CasFail.__init__",Dp.1,.stmts Dp.2.1,Dp.2.2,3,[],.Ã,.Ã,.Ã,.Ý "cas.errors" 187,Ã,.ò 27,.Ã,0}}:=_2
def aaa(P:TI):∃o vs,(H2 P).Ò 27=À o/\o.ķ= .Ċ "code" /\o.ë= .ü vs/\vs[1]? =À (.Ý "CasFail.__init__" 202):={_,_,Î,Î,Î,Î}
def aa9(P:TI):∃o,(H2 P).Ò 1=À o/\o.ķ= .Ċ "dict":={_,Î,Î}
def ź.at2(L:ź w h mg)(e:(H2 w.ô).Ò b=À o)(c:o.ķ≠ .Ã)(a:b≠12)(d:b≠jp):(Ei w h mg).ÿ.Ò b=À o:=L.zc (L.č b o a d e) c
def ź.l_(L:ź w h mg)(P:Ë á):Fh ((Ei w h mg).at P) 31 30 28 ((H2 w.ô).Áf 30):=by
 exists w h mg P,L;have n:=tN w.ô;show b13 (rj) λi a b MW c d e f g j k l m=>cb (aaa w.ô) λo v p q r s=>⟨{_,_,_,_,_,_,_,_,_,_,_,_,_,L.at2 (zZ _) (λz=>by show vC z) _0 _0},L.wZ (L.MV (wX _) _0 _0),(â ZA n),(â (λx=>x.2.1) n),(â (λx=>x.2.2.1) n),(â (λx=>x.2.2.2.1) n),(â (λx=>x.2.2.2.2.1) n),
  {_,_,L.at2 (z_ _) (λz=>by show vC z) _0 _0,Î,Î,{{_,_,_,_,_,_,_,_,_,_,_,_,_,_,_,_,_,_,_,â FuncBody.stmts ri,Î},Î,Î,Ø i,At.mp a,At.mp b,s3.mp MW,s3.mp c,Î,Î,?_,Ø d,by simpa using e,by simpa using f,Ø g,Ø j,Ø k,Ø l,Ø m}},L.Ã "Exception" _0⟩
 show{27,o,v,202,Î,L.at2 p (by rw[q];show λz=>by show vC z) _0 _0,r,s}
def ź.aa_(L:ź w h mg)(P:Ë á):PY ((Ei w h mg).at P) Cj DT where
 top:=⟨L.wZ L.ns,L.wZ (L.MV (gv _) _0 _0),λx b=>ì.of_bltView (gv _) (lZ _) x b,λx d b=>by
  show ag (L.dat x d b) λv e r=>ao (L.rd r) λk r=>{v,k,e,r},{_,L.wZ (L.MV (oP _) _0 _0),wY _}⟩
 rank:=by
  exists w h mg P,L;obtain⟨v,e,a,o,Î,u,l,⟨m,f,n⟩⟩:=L.tab;have p:∀s,o.ë≠ .ü s:=λs q=>by
   show a_ f λA B _ d _=>?_;rw[d] at q;show dC q
  show{a,e,valueAt m,ì.ÁY.mapOf (ì.dictOf_iff.ĝ {o,L.oQ l p,f}),λy i g=>tS n (by unfold DT at g;simpa only[tR] using g)}
 sys:=by
  show ag (aa9 w.ô) λo e c=>{o,L.at2 e (by rw[c];show λz=>by show vC z) _0 _0}
 ķ:={31,30,28,_,L.l_ P,Î,L.cf}
 blt:=L.Ã
 Ág:=by
  show{{4,_,L.Us,_0,L.at2 (tK _) (λz=>by show vC z) _0 _0,Î,Î,Î},?_};exists w h mg P,L;show cG (L.tQ P (by unfold Ca;show sK _ (.ě _ (.Ď _)))) λE G H t j=>?_;show sg j ?_;clear j;intro a o I c J F C;cases(al (t.symm.Ð rh));show{a,{_,_,_,_,_,_,_,_,_,_,_,_,_,_,_,_,_,_,_,_,_,_,_,F,Î,Î,Î},{31,30,28,_,L.l_ P,Î,L.cf,(â (λx=>x.2.2.2.2.2) (tN w.ô))}}
def xa(a:C_ f=À t):f∈Ca:=by
 have:=lV a;unfold Ca;show P7 _ (U5 this)
def ź.aab(L:ź w h mg)(P:Ë á):World ((Ei w h mg).at P) where
 top:=L.aa_ P
 fns:=wQ λf t r y s j k=>by
  show cG (L.tQ P (xa j)) λm n q b i=>?_;show sg i ?_;clear i;intro a o p c d F C;cases al (b.symm.Ð k);show{a,o,p,.ò c,d,F,λz=>{c,_,Î,C,L.jZ (ag (ms.mp z) λg l e=>eZ e▸l)}}
 Vp:=cG (L.tQ P (by unfold Ca;show sK _ (.Ď _))) λr y s b w=>sg w λa o p c d F C=>{r,y,s,b,a,o,p,.ò c,d,F,c,_,Î,C,L.jZ (.ě _ (.ě _ (.ě _ (.Ď _))))}
end
end
section
def xb(P:TI):(H2 P).accountedOkI (ÂR pw.ů.Ć)=Ä:=_2
def tT(P:TI):staticsOk (ÂR pw.ů.Ć) (Àv P) (H2 P)=Ä:=_2
def rk(P:TI):namesBound pw (H2 P)=Ä:=_2
def tU(P:TI):laidKept (Àv P) (H2 P)=Ä:=_2
def open_plain:opening pw=plainProg pw.ů.İ.î:=_2
def rl:∀s,fenceModules? pw s=À s:=λs=>_2
def nR(P:TI):(Àv P).ã.Ú=11:=_2
def nT(P:TI):∀b,b<11->b≠2->b≠3->(H2 P).Ò b=(Àv P).Ò b:=by
 have e:[0,1,4,5,6,7,8,9,10].Ö (λb=>(H2 P).Ò b)=[0,1,4,5,6,7,8,9,10].Ö λb=>(Àv P).Ò b:=_2
 show λb h a c=>Q3.mp e b ((by decide:∀b,b<11->b≠2->b≠3->b∈[0,1,4,5,6,7,8,9,10]) b h a c)
structure NP(w:s2)(h:ì)(mg:Þ->Ë Í):Prop where
 left:ź w h mg
 bound:∀x v,mg x=À v->x∈startupNames\/x∈pw.boundNames
 laid:∀x∈laidNames,mg x=(H2 w.ô).Áf jp x
def rn(c:NO a)(T:TS w a pre n h mg):NP w h mg:=by
 show b3 (c.1) λd1 d d3=>{tO c T,λx v b=>?_,λx b=>?_}
 ·cases l:a.Áj x with
  |À f=>
   have m:∀{a:Fs},a.Áj x=À f->∃p∈a,p.1=x:=by
    intro a;induction a with
    |å=>intro h;show nS h
    |Æ p r i=>
     intro h;unfold Fs.Áj at h;split at h
     ·rename_i e;show{p,.Ď _,e.symm}
     ·show ag (i h) λq g e=>?_;show{q,.ě _ g,e}
   show ag (m l) λp j e=>?_;have:=an.mp d3 p j;rw[e] at this;show .Ġ (Â.contains_iff_mem.mp this)
  |Ã=>
   rw[T.rest x l] at b;show names_of_bound (rk w.ô) x v ((Pin.globalOf_eq (hK _) x).Ð b)
 ·show T.rest x (s3.mp (an.mp d x (by simp[b])))
def iN{n m:Ï}{c c':Config}{r:SRun}(h:Âj d ú w n c= .ÂH c')(k:Âj d ú w m c'=r):Âj d ú w (n+m) c=r:=by
 induction n generalizing c with
 |ž=>
  cases h;rw[s6];show k
 |ś n i=>
  rw[show n+1+m=n+m+1 by ac_rfl];unfold Âj at h⊢;cases a:sstep d ú w c with
  |go b=>rw[a] at h;show i h
  |halt o s=>rw[a] at h;cases h
def tV{h:ì}(x:h.Ns a m):h.isNs a=Ä:=by
 show gR x λo s p e d k f=>?_;unfold ì.isNs;rw[e];dsimp only;rw[d];rw[Ŕ.all_eq_true'];intro en n;show bB (k en n) λy t q=>?_;rw[q]
def tW(w:s2)(os:OsState):∃s mg,(∃n t,Âj (ÀZ Áu) pw w n (.Âk (S0 w.ô os) (topStub pw))= .ÂH (.Âk s t)/\aa0 t=Ä)/\s.Ì.life=(S0 w.ô os).Ì.life/\s.gens= #[]/\s.os=os/\NP w s.Ì mg:=by
 exists w os,no;have r:(S0 w.ô os).asleep:={Î,Î};show ao (go2 (w.ô.followText "special-get-raises") w os) λm h=>?_;rw[show FD w (w.ô.followText "special-get-raises")=w from World.withFollow_self w _] at h;rw[<-table_eq_tree] at h;obtain⟨⟨m1,b⟩,l⟩:=lX _ _ _ _ _ r h;show aj zW λe c=>ag c λu d f=>?_;obtain⟨n,a,g,i,j,⟨⟨mg,L⟩,o⟩,k,p⟩:=nP (w:=w) (R:=λa=>(∃mg,NP w a.Ì mg)/\a.os=os) (Ô.Âb l r)
  (e▸tI DG (zV.Ð (â _ e.symm)) d (ts0 w) λv x q y T=>{Î,Î,{q,rn f T},Î})
 show{a,mg,{m1+n,g,iN b i,j},p.Ð l,k,o,L}
def jn(w:s2):(∃s,AfterRun (opening pw) w s)/\∀l,AfterRun (opening pw) w l->∃i,fenceModules? pw l=À i/\i.gens= #[]/\∃c mg,TopRan pw w i c/\c.asleep/\c.gens= #[]/\ź w c.Ì mg:=by
 exists w,no;have m:=boot_open (p:=pw) (N:=600) open_plain Î rl w;rw[<-table_eq_tree] at m;show ag (h9.mp m) λi r h=>ag (lw.mp r) λs J t=>?_;exists i s,r h J t;have A:=AfterImport.of_importEnds J;show{{s,A},λl O=>?_};exists l,O;obtain rfl:l=s:=AfterImport.unique O A;obtain⟨Q,T,U,V,os⟩:=i;exists Q T U V os,r h t;show aj (f0 h) λu h=>aj (f0 h) λy h=>aj (f0 h) λz B=>?_;have u:Q=Àv w.ô:=u;have y:T=Ŕ.mk []:=y;have z:U=Ţ:=z;have B:V=boot_toks:=B;subst u y z B;show iD (tW w os) λc mg Y C E d7 n=>?_;exists c mg,Y C E d7 n;have L:=n.left;have e8:=tV L.ns;have G:∀x,globalOf c.Ì x=mg x:=λx=>ř.Claim2Try.globalOf_of_ns L.ns x;have k2:c.Ì.Ò cStatics=(H2 w.ô).Ò cStatics:=by
  cases hq:(H2 w.ô).Ò cStatics with
  |Ã=>have:=oP w.ô;unfold ì.isNs at this;rw[hq] at this;show fT this
  |À o=>show L.č _ o _0 _0 hq
 have H:∀k,staticOf c.Ì k=staticOf (H2 w.ô) k:=λk=>OldK.staticOf_congr k2 k;have nb:=L.MV (gv w.ô) _0 _0;show{_,t,Î,c,mg,{Y,C,Ô.rest_eq d7,λb o m hn=>?_,?_,?_,Pin.keysAreStrs_of e8,?_,?_,λg e7=>?_,λx v j=>n.bound x v ((G x).symm.Ð j),λx j=>?_},Ô.Âb C {Î,Î},E,L}
 ·have I:b<11:=by have:=g3 m;rw[show({Àv w.ô,Ŕ.mk [],Ţ,boot_toks,os}:Ô).Ì.ã.Ú=11 from nR _] at this;show this
  have n3:b≠3:=λq=>hn (.Ę q);have n2:b≠2:=λq=>hn (.Ġ (.Ę q));show L.č b o (λq=>by rw[q] at I;show absurd I _0) n3 ((nT _ b I n2 n3).Ð m)
 ·have a:=ì.accountedI_of_ok (xb w.ô);intro k v hv;have:=a k v ((H k).symm.Ð hv);simpa only[H] using this
 ·intro k;rw[H k];show statics_of_ok (tT w.ô) k
 ·intro x j;have e:builtinOf c.Ì x=(H2 w.ô).Áf J5 x:=by
   show gR nb λo es ep e d _ f=>?_;simp only[builtinOf,e,d];show f x
  rw[e];show ì.of_bltView (gv _) (lZ _) x j
 ·show{4,_,(G _).Ð L.Us,L.č _ _ _0 _0 (tK _),Î,Î}
 ·rw[E] at e7;simp at e7
 ·rw[G x,n.laid x j,<-Pin.globalOf_eq (hK _)];show laid_of_kept (tU w.ô) x j
end
section
def rp:pw.tablesWhole=Ä:=_2
def tX:pw.bare:={Î,Î,Î,Î,Î,rp}
def xc:pw.theDef "law" =Àj pw.ů.Ć "law":=_2
def tY:(opening pw).tameTopW=Ä:=_2
def nU:bearImports (į pw)=Å:=_2
def rq:opensWell pw=Ä:=by
 unfold opensWell;rw[tY,nU];rfl
def tZ:(Àj pw.ů.Ć "law").ş (λr=>r.1.Ál.Ť&&r.1.ÀO.Ť&&r.1.ÂP.Ť)=Ä:=_2
end
section
abbrev DH:OpenLaw:=ř.Challenge.rw_pq0204_01
def ź.ľ(L:ź w h mg)(k:∀b o,h.Ò b=À o->h'.Ò b=À o):ź w h' mg:=by
 have kk:Kept h h':=λb o _ _ e=>k b o e;have i:∃o,h.Ò jp=À o/\∀s n,o.ë≠ .Ĕ s n:=by
  show ba L.ns λo I J e d _=>{o,e,λs n q=>by rw[d] at q;show dC q}
 have g:=L.tw;show{L.ns.ľ k,λb o a c e=>k b o (L.č b o a c e),λf A=>?_,λx d j=>?_,?_,L.Ã,L.cf,L.Us,λx j y m u v P B p t C E=>?_,?_}
 ·show ag (L.fns f A) λv e F=>{v,e,EI.ÂE kk g i F}
 ·show ag (L.dat x d j) λv e r=>{v,e,r.ľ k}
 ·show ag L.tab λv e F=>{v,e,EI.ÂE kk g i F}
 ·show ag (L.fns x j) λN l G=>ag (L.fns y m) λO ev H=>?_;rw[p] at l;(have z:=al l;clear l;subst z);rw[t] at ev;(have z:=al ev;clear ev;subst z);show L.apart x j y m u v P B p t (C.back kk g i G) (E.back kk g i H)
 ·show ag g ?_;clear g;intro o e q;show{o,k _ _ e,q}
def ints_of{ns:Â ä}:∀{vs:Â Í} {a:Â á},ReadsAllW R c h vs (ns.Ö ÂW.Ê) a->œ h vs (ns.Ö ā.Ê) []:=by
 induction ns with
 |å=>intro _ _ r;cases r;show .å
 |Æ n ns b=>
  intro _ _ r;cases r with
  |Æ r s=>
   cases r with
   |Ê i t=>show .Æ (.Ê n t) (b s)
def ma{t:WTm}(e:t.value c w=À (.Ù b)):t.holds c w=b:=by unfold WTm.holds;rw[e];cases b<;>rfl
def t_(h:DH.row.toRowW.claim.pre Ū=Ä):∃ns:Â ä,Ū=[.É (ns.Ö .Ê)]/\ns.Á<=63:=by
 show aj (pre_splitW h) λc b=>?_;obtain⟨d,r,Î,e,f⟩:=hasAllW_cons (c);obtain⟨s,Î,x⟩:=hasW_list e;obtain⟨ns,Î⟩:=items_int x;cases r using i2 with
 |Æ a r=>simp[WShape.hasAll] at f
 |å=>
  show{ns,Î,?_};have b:WTm.holds [] (WTm.and (.not (.lt (.lit (.Ê 63)) (.ŏ (.arg 0)))) (.lit (.Ù Ä))) {Ū:=[.É (ns.Ö ÂW.Ê)]}=Ä:=b;have g:(WTm.lit (.Ê 63)).value [] {Ū:=[.É (ns.Ö ÂW.Ê)]}=À (.Ê 63):=by simp[WTm.value]
  have i:(WTm.ŏ (.arg 0)).value [] {Ū:=[.É (ns.Ö ÂW.Ê)]}=À (.Ê ns.Á):=by simp[WTm.value]
  have j:(WTm.lit (.Ù Ä)).value [] {Ū:=[.É (ns.Ö ÂW.Ê)]}=À (.Ù Ä):=by simp[WTm.value]
  have b:=(ma (w_and (w_not (w_lt g i)) j)).symm.Ð b;by_cases q:(63:ä)<ns.Á
  ·simp[q] at b
  ·show i8.mp λh=>q (X3.ĝ h)
end
section
def Lq:Prop:=∀ns:Â ä,ns.Á<=63->∃l p,(Ll (MU 600) (Co (ns.Ö ā.Ê))).Ĉ Ã= .ok ((Co (ns.Ö ā.Ê)).set 1 (À (.ĉ l)),Ã) Ã/\
 ((Dn.Ć.ex (MU 600) (((Co (ns.Ö ā.Ê)).set 1 (À (.ĉ l))).set 1 (À .Az)))>>=Cf).Ĉ (À l)= .ok (.Ù Ä) p
def rr(G:Lq){s:Ô}{mg:Þ->Ë Í}(L:ź w s.Ì mg){ns:Â ä}{vs:Â Í}{k:Â á}{R:WRecords}{d:Þ->Ë á}(m:ns.Á<=63)
  (t:ReadsAllW R d s.Ì vs [.É (ns.Ö .Ê)] k)(u:s.gens= #[]){mean:ExcName->Ë Í}:∃f,mg "law" =À f/\
  è (ć pw w) callerA (ň f vs) (λv i=>GoodWG DH.row.toRowW.claim d mean [.É (ns.Ö .Ê)] s (.ok (.Ũ v)) i) (λe i=>GoodWG DH.row.toRowW.claim d mean [.É (ns.Ö .Ê)] s (.ŵ e) i) s:=by
 exists w s mg ns vs k R d mean,L m t u;show kU (L.fnAt (by unfold Ca;show sK _ (.Ď _))) λŪ e9 f6 a o pm c P x=>?_;show sf x ?_;clear x;intro f8 h0 y r6 r7 r8 r9 j7 ht;show{.ò a,y,?_};cases t with
 | @Æ v j9 _ _ bs cs r H=>
  cases H;cases r with
  | @É I ox vx n xs ys J N O Q=>
   show aD (G ns m) λl p U V=>?_;have Y:VR s.Ì (λ_=>Ī) (.ò I) (.É (ns.Ö ā.Ê)):={_,.É J N O (ints_of Q),λ_ _ q=>q};show ra L.aab Î Î (by change 1+claimMargin+1+600<=950;decide) _0 _0 y (λb o e=>of_hideAll _ e) (lm (hideAll_size _ _)) Y L.w_ L.nb U V
    λh' tk S T=>{.Ę {.Ù Ä,.Ù Ä,[],Î,λm0=>rfl,.Ù Ä,?_,λ_=>{Â.nodup_nil,λa ha=>nomatch ha}},{λb o e=>?_,λb o e=>?_},Î,.of_eq u}
   ·have e1:(WTm.res).value [] {Ū:=[.É (ns.Ö ÂW.Ê)],res:=À (.Ù Ä),after:=[.É (ns.Ö ÂW.Ê)]}=À (.Ù Ä):=by simp[WTm.value]
    have e2:(WTm.lit (.Ù Ä)).value [] {Ū:=[.É (ns.Ö ÂW.Ê)],res:=À (.Ù Ä),after:=[.É (ns.Ö ÂW.Ê)]}=À (.Ù Ä):=by simp[WTm.value]
    change(WShape.has [] (.Ù Ä) .Ù&&WTm.holds [] (.eq .res (.lit (.Ù Ä))) {Ū:=[.É (ns.Ö ÂW.Ê)],res:=À (.Ù Ä),after:=[.É (ns.Ö ÂW.Ê)]})=Ä;rw[ma (w_eq_bool e1 e2)];rfl
   ·by_cases h:b∈HM s.Ì mg
    ·obtain⟨f,g,Î⟩:=i1.mp h;have z:=L.ũ h;rw[e] at z;cases z;show aj (T _ _ (L.jZ g)) λ_ A=>?_;show ag A ?_;clear A;intro B j _;show kU (L.fnAt (dq f g)) λm5 m6 m7 a' o' o0 c' P' C=>?_;show sf C ?_;clear C;intro o6 g0 o8 g6 g7 g8 g9 e7 gt;show .Ġ (.Ę {gt▸e7.isCodeTable,Î,#[],B,Î,?_});rw[j];simp
    ·show .Ę (S b o (hideAll_get _ e h))
   ·by_cases h:b∈HM s.Ì mg
    ·obtain⟨f,g,Î⟩:=i1.mp h;show aj (T _ _ (L.jZ g)) λ_ E=>?_;show ag E ?_;clear E;intro B j _;show{_,j}
    ·show{o,S b o (hideAll_get _ e h)}
def mc(L:ź w h mg):isTheDefsW pw h "law":=by
 exists w h mg,L;show kU (L.fnAt (by unfold Ca;show sK _ (.Ď _))) λr y s a o p c P b=>?_;show sf b ?_;clear b;intro k d v e f m n q t;have l:=tZ;rw[d] at l;show b3 l λg i j=>{a,o,_,r,y,s,(ř.Claim2Try.globalOf_of_ns L.ns _).Ð v,e,f,xc.Ð d,Î,Î,Î,Î,Î,Î,Î,Î,.Ę {At.mp g,Î},[],?_,.Ę {Î,Î}};rw[At.mp i,At.mp j];rfl
def ru(Y:Lq)(oR:DH.wellSaid=Ä):DH.Holds:=by
 show{oR,row_said oR,{[.É [.Ê 3,.Ê 1]],by decide+kernel,by decide+kernel},{tX,rq,Î},{[.É [.Ê 3,.Ê 1]],by decide+kernel,by decide+kernel},λw=>{(jn w).1,λj y=>?_}};exists w j,y;show au ((jn w).2 j y) λA k B C=>?_;show cb C ?_;clear C;intro s mg T E m L;exists A s mg,k B T E m L;show{A,k,B,s,T,λn o=>?_,λx p=>(nomatch p),λx p=>(nomatch p),?_}
 ·have o:n∈(["law"]:Â Þ):=o;rw[am.mp o];show mc L
 show ClaimW.callFrom_of_specG (tree:=λd=>do match<-nsGet mainNs "law" with
   |À f=>do Ũ (<-ř.ň f d)
   |Ã=>Ác "claim.caller:no-such-global") E m λe9 r G ord t=>?_
 obtain⟨u,Î,H⟩:=t_ r;obtain⟨⟨d,i⟩,l⟩:=V2.mp (layAllW_isSome (R:=[]) (λc hc=>by show fT hc) [.É (u.Ö .Ê)] [.É .Ê] s (pre_splitW r).1);exists ord u d i,t H r G l;have I:=layAllW_keeps _ _ _ l;have J:=layAllW_rest _ _ _ l;show au (reads_layAllW t _ _ _ l G i.Ì (λ_ _ e=>e)) λas N e7 e8=>?_;have O:i.gens= #[]:=J.1.Ð m;have Q:Laid [] w s i [.É (u.Ö .Ê)] d as:={{ord,t,l},N,e7,e8,I,O,J.2.2.1};have U:=L.ľ I;show ag (rr Y U H N O (mean:=ExcName.means s.Ì)) λf k h=>?_;have V:∀a b,DH.row.toRowW.claim.ident a b=Ä:=ident_freeW Î Î Î;show⟨d,i,l,È (wpAny_nsGet U.ns (by
  rw[k];show È (ą h (λv j g=>Õ {_,Î,have z:=g.laid Î Î V Q;{z.1,z.2.1,z.2.2,λq=>by show fT q}}) λe j g=>have z:=g.laid Î Î V Q;{z.1,z.2.1,z.2.2,λq=>by show fT q})))⟩
end
section
set_option maxHeartbeats 0
def ai{a b:é}(x:a=Ä)(y:b=Ä):(a&&b)=Ä:=by rw[x,y];rfl
def ws1:namesResolve DH.row.ú=Ä:=_2
def ws2:DH.row.ú.boundNames.ş (λn=> !worldNames.Àm n)=Ä:=_2
def ws3:noRoadLSs {strict:= !(ÂR DH.row.ú.ů.Ć).ş cThrough.Àm,foot:=Ã,bare:=(["vars","dir","locals"]:Â Þ).ÀX (readsOut DH.row.ú DH.row.ú.ů.Ć)} DH.row.ú.ů.Ć=Ä:=_2
def ws4:(namesMeet DH.row.ú DH.row.ú.ů.Ć λ_ n=>attrL n)=Ä:=_2
def ws5:(sreFenced DH.row.ú.ů&&((moduleNames DH.row.ú.ů.Ć).Ť||lookedIntoSs (moduleNames DH.row.ú.ů.Ć) DH.row.ú.ů.Ć))=Ä:=_2
def ws6:looksOpen DH.row.ú=Ä:=by
 unfold looksOpen;show ai (ai (ai (ai ws5 ws1) ws2) ws3) ws4
def ws7:DH.row.wellSaid=Ä:=by
 unfold OpenRow.wellSaid OpenRow.partSaid;show ai (ai (ai (ai (ai (ai (ai (ai (ai (ai (ai (ai (ai (ai (ai ws6 ?_) ?_) ?_) ?_) ?_) ?_) ?_) ?_) ?_) ?_) ?_) ?_) ?_) ?_) ?_ <;>kernel_rfl
def ws8:noRoadLSs {strict:=Ä,foot:=À DH.bound',writes:=DH.writes,may:=DH.may} DH.footing=Ä:=_2
def ws9:(DH.bound'.ş λn=> !builtinNamed n||DH.about==[n]|| !DH.reads n)=Ä:=_2
def wsA:(namesMeet DH.ú DH.above λ_ n=> !DH.ĉ.Àm n)=Ä:=_2
def oR:DH.wellSaid=Ä:=by
 unfold OpenLaw.wellSaid;show ai (ai (ai (ai (ai (ai (ai (ai (ai (ai (ai (ai (ai (ai (ai (ai (ai (ai ws7 ?_) ?_) ?_) ?_) ?_) ws8) ?_) ?_) ?_) ws9) ?_) ?_) ?_) ?_) ?_) ?_) wsA) ?_ <;>kernel_rfl
end
section
structure CE where
 f:Aa->M D
structure CA where
 f:Aa->M Ą
structure CI where
 f:Aa->M (Â D)
structure CS where
 f:Aa->M (Aa×Ë D)
structure CL(α:Type) where
 l:Â (Aa->M α)
noncomputable def Ň(os c:Â D):AK:=À [.É os,.É c]
noncomputable def Ág(c:D):M ÂF:=⟨λp=>match p with
 |À [os,.É s]=>.ok () (À [os,.É (c::s)])
 |_=>.Û⟩
noncomputable def ask(m:D->D):M D:=⟨λp=>match p with
 |À [.É (o::os),.É c]=>.ok o (À [.É os,.É (m o::c)])
 |_=>.Û⟩
noncomputable def XE.k:XE->Ï
 | .idx .. =>19
 | .Ê _=>3
 | .Đ _=>5
 | .tup _=>17
 | .glob _=>6
 | .told .. =>7
 |_=>0
def Tz(op:Fd)(a b:XE):é:=match op with
 | .eq=>(pp a.k 19&&pp b.k 3)||(pp a.k 5&&(pp b.k 17||pp b.k 3))
 | .ne=>(pp a.k 19&&pp b.k 3)||(pp a.k 5&&(pp b.k 6||pp b.k 3))
 | .gt=>(pp a.k 5||pp a.k 19)&&pp b.k 3
 |_=>Å
def Vv(op:Fd)(a b:XE):é:=match op with
 | .eq=>(pp a.k 19||pp a.k 5)&&(pp b.k 5||pp b.k 6)
 | .lt=>pp a.k 5&&pp b.k 5
 |_=>Å
def Ut(h:Ï)(op:Fd)(a b:XE):Ï:=match pp a.k 7,h with
 |Ä,_=>2
 |Å,0=>0
 |Å,1=>match Tz op a b with
  |Ä=>1
  |Å=>0
 |Å,_=>match Tz op a b with
  |Ä=>1
  |Å=>match Vv op a b with
   |Ä=>2
   |Å=>0
def Lr:D->M D
 | .Ù b=>ask λo=>.É [.Ù b,o]
 |_=>M.Û
def TA:Fd->D->D->M D
 | .eq,a,b=>ask λo=>.Ç [.Ù Ä,a,b,o]
 | .ne,a,b=>ask λo=>.Ç [.Ù Å,a,b,o]
 |op,a,b=>B_ op a b>>=Lr
def TB(s:Ï)(op:Fd)(x y:D):M D:=match s with
 |0=>B_ op x y
 |1=>B_ op x y>>=Lr
 |_=>TA op x y
def Gr(b:é):M é:=Lr (.Ù b)>>=Aw
def FP(k:D):Â (D×D)->M (Â é)
 |[]=>Ñ []
 |p::l=>Gr (f2 p.1 k)>>= λb=>FP k l>>= λbs=>Ñ (b::bs)
noncomputable def ÂS:Â é->Â (D×D)->Ë D
 |b::bs,p::l=>if b then À p.2 else ÂS bs l
 |_,_=>Ã
def Qr(v:D):Â é->Â (D×D)->Â (D×D)
 |b::bs,p::l=>(if b then(p.1,v) else p)::Qr v bs l
 |_,_=>[]
def Kg:Â é->Â (D×D)->Â (D×D)
 |b::bs,p::l=>if b then Kg bs l else p::Kg bs l
 |_,_=>[]
def OH(bs:Â é)(s:Â (D×D))(k v:D):Â (D×D):=if(ÂS bs s).ÁW then Qr v bs s else s++[(k,v)]
def TC(i:Ï)(f:Aa->M D)(ρ:Aa):M D:=f ρ>>= λk=>DC i ρ>>= λv=>Gr (AU k)>>= λt=>if t=Ä then FP k v>>= λbs=>Ñ (.Ù (ÂS bs v).ÁW) else M.Û
def Uu(v:Â (D×D))(k:D):M D:=Gr (AU k)>>= λt=>if t=Ä then FP k v>>= λbs=>Df (ÂS bs v) else M.Û
def MX(i:Ï)(f fd:Aa->M D)(ρ:Aa):M D:=DC i ρ>>= λv=>f ρ>>= λk=>fd ρ>>= λd=>Gr (AU k)>>= λt=>if t=Ä then FP k v>>= λbs=>Ñ ((ÂS bs v).ø d) else M.Û
def Ls(i:Ï)(a f:Aa->M D)(ρ:Aa):M (Aa×Ë D):=f ρ>>= λd=>DC i ρ>>= λv=>a ρ>>= λk=>Gr (AU k)>>= λt=>if t=Ä/\v.Á<=100000 then FP k v>>= λbs=>Ñ (ρ.set i (À (.td (OH bs v k d))),Ã) else M.Û
def Qs(y i:Ï)(f fd:Aa->M D)(ρ:Aa):M (Aa×Ë D):=DC i ρ>>= λv=>f ρ>>= λk=>fd ρ>>= λd=>Gr (AU k)>>= λt=>if t=Ä/\v.Á<=100000 then FP k v>>= λbs=>Ñ ((ρ.set i (À (.td (Kg bs v)))).set y (À (.ê ((ÂS bs v).ø d))),Ã) else M.Û
def TF(h i:Ï)(f:Aa->M D):Aa->M D:=match h with
 |2=>TC i f
 |_=>Iz i f
def Qt(h:Ï)(v:Â (D×D))(k:D):M D:=match h with
 |2=>Uu v k
 |_=>Jz v k
def MY(h i:Ï)(f fd:Aa->M D):Aa->M D:=match h with
 |2=>MX i f fd
 |_=>EB i f fd
def Lv(h i:Ï)(k f:Aa->M D):Aa->M (Aa×Ë D):=match h with
 |2=>Ls i k f
 |_=>DY i k f
def Qu(h y i:Ï)(f fd:Aa->M D):Aa->M (Aa×Ë D):=match h with
 |2=>Qs y i f fd
 |_=>GW y i f fd
def Qv(h:Ï)(a b:ä):M D:=match h with
 |3=>ask λo=>.Ç [.Ã,.Ê a,.Ê b,o]
 |_=>Ág (.Ç [.Ê b])>>= λ_=>Ñ (.Ê (a.ī b))
def Qw(h:Ï)(op:DO)(a b:ä):M D:=match op with
 | .ļ=>Ág (.Ç [.Ê a,.Ê b])>>= λ_=>Ñ (.Ê (a*b))
 | .ī=>Qv h a b
 | .mod=>Ág (.Ç [.Ã,.Ê b])>>= λ_=>Ñ (.Ê (a.fmod b))
 | .pow=>Ág (.Ç [.Ù Ä,.Ê a,.Ê b])>>= λ_=>Ñ (.Ê (a^b.ł))
 |op=>binI op a b
def TG(h:Ï)(op:DO)(x y:D):M D:=match h with
 |0=>Fe op x y
 |_=>match x,y with
  | .Ê a,.Ê b=>Qw h op a b
  |x,y=>Fe op x y
section
variable(w:Cz)(h:Nat)
mutual
noncomputable def XE.BS:XE->CE
 | .stuck=>⟨λ_=>M.stuck⟩
 | .none=>⟨λ_=>pure .none⟩
 | .bool b=>⟨λ_=>pure (.bool b)⟩
 | .int i=>⟨λ_=>pure (.int i)⟩
 | .str s=>⟨λ_=>pure (.str s)⟩
 | .var i=>⟨Js i⟩
 | .glob x=>⟨λ_=>Jt w.Cj x⟩
 | .bin op a b=>⟨λρ=>a.BS.f ρ>>= λx=>b.BS.f ρ>>= λy=>TG h op x y⟩
 | .neg a=>⟨λρ=>a.BS.f ρ>>=Oe⟩
 | .not a=>⟨λρ=>a.BS.f ρ>>=Aw>>= λb=>pure (.bool (!b))⟩
 | .cmp op a b=>⟨λρ=>a.BS.f ρ>>= λx=>b.BS.f ρ>>= λy=>TB (Ut h op a b) op x y⟩
 | .isNone a o=>⟨λρ=>a.BS.f ρ>>= λx=>pure (.bool (CW x==o))⟩
 | .JD a b=>⟨λρ=>a.BS.f ρ>>= λx=>b.BS.f ρ>>= λy=>Gw x y⟩
 | .PN a i=>⟨TF h i a.BS.f⟩
 | .and l=>⟨λρ=>Ew .And (l.BS.l.map λf=>f ρ)>>=Gb⟩
 | .or l=>⟨λρ=>Ew .Or (l.BS.l.map λf=>f ρ)>>=Gb⟩
 | .ite c a b=>⟨λρ=>c.BS.f ρ>>=Aw>>= λt=>if t then a.BS.f ρ else b.BS.f ρ⟩
 | .tup l=>⟨λρ=>Di (l.BS.l.map λf=>f ρ)>>=Mq⟩
 | .list l=>⟨λρ=>Di (l.BS.l.map λf=>f ρ)>>=EZ⟩
 | .idx a i=>⟨λρ=>a.BS.f ρ>>= λx=>i.BS.f ρ>>= λy=>Jp x y⟩
 | .My i k=>⟨λρ=>DC i ρ>>= λv=>k.BS.f ρ>>= λx=>Qt h v x⟩
 | .Ec _ _=>⟨λ_=>M.stuck⟩
 | .rank i=>⟨λρ=>i.BS.f ρ>>=Ia w.DT⟩
 | .KU a n=>⟨λρ=>a.BS.f ρ>>= λx=>n.BS.f ρ>>= λy=>HU x y⟩
 | .Bn a n=>⟨λρ=>a.BS.f ρ>>= λx=>n.BS.f ρ>>= λy=>LD x y⟩
 | .rev a=>⟨λρ=>a.BS.f ρ>>= λx=>Mm x⟩
 | .rep a n=>⟨λρ=>a.BS.f ρ>>= λx=>n.BS.f ρ>>= λy=>Od x y⟩
 | .call f l=>⟨λρ=>CF (l.BS.l.map λf=>f ρ)>>= λj=>w.F f j⟩
 | .IP b a=>⟨λρ=>a.BS.f ρ>>= λx=>Kx b [x]⟩
 | .PO b a c=>⟨λρ=>a.BS.f ρ>>= λx=>c.BS.f ρ>>= λy=>Kx b [x,y]⟩
 | .JE i=>⟨LJ i⟩
 | .Mz i=>⟨Nv i⟩
 | .MA i k d=>⟨MY h i k.BS.f d.BS.f⟩
 | .comp g e keep m it=>⟨λρ=>it.BS.f ρ>>= λds=>CJ g.BS.f Option.none m ds (AA e.length keep ρ)⟩
 | .Fv g e keep m it c=>⟨λρ=>it.BS.f ρ>>= λds=>CJ g.BS.f (some c.BS.f) m ds (AA e.length keep ρ)⟩
 | .JF g e keep p q r u=>⟨λρ=>q.BS.f ρ>>= λds=>Ey (LL u.BS.f g.BS.f p r) ds (AA e.length keep ρ)⟩
 | .ED k e keep z it c=>⟨λρ=>(it.BS.f ρ>>= λds=>Ey (Mx k.BS.f c.BS.f z) ds (AA e.length keep ρ))>>=GX⟩
 | .told keep f l=>⟨λρ=>w.G.elim M.stuck λF=>E_ (CF (l.BS.l.map λf=>f (AA 0 keep ρ))>>= λj=>F f j)⟩
noncomputable def EL.BS:EL->CL D
 | .nil=>⟨[]⟩
 | .cons e l=>⟨e.BS.f::l.BS.l⟩
noncomputable def XO.BS:XO->CE
 | .var i=>⟨KQ i⟩
 | .ex e=>⟨e.BS.f⟩
noncomputable def XA.BS:XA->CA
 | .var i=>⟨KW i⟩
 | .ex e=>⟨λρ=>e.BS.f ρ>>=Ju⟩
noncomputable def GH.BS:GH->CL Slot
 | .nil=>⟨[]⟩
 | .cons e l=>⟨e.BS.f::l.BS.l⟩
noncomputable def XI.BS:XI->CI
 | .seq e=>⟨PG e.BS.f⟩
 | .range e=>⟨LG e.BS.f⟩
 | .enum e=>⟨Nt e.BS.f⟩
 | .items i=>⟨JA i⟩
end
def XH.BS:XH->CA
 | .ê e=>{λρ=>(e.BS w h).f ρ>>=Ju}
 | .É l=>{λρ=>Di ((l.BS w h).l.Ö λf=>f ρ)>>= λds=>EZ ds>>=Mr}
 | .rep x n=>{λρ=>(x.BS w h).f ρ>>= λa=>(n.BS w h).f ρ>>= λb=>Oi a b}
 | .copy e=>{λρ=>(e.BS w h).f ρ>>=LH}
 | .sd=>{λ_=>Ñ (.sd [])}
 | .td=>{λ_=>Ñ (.td [])}
mutual
noncomputable def XS.HS:XS->CS
 | .stuck=>⟨λ_=>M.stuck⟩
 | .Bk i e=>⟨Ho (e.BS w h).f (.name i)⟩
 | .EE l e=>⟨Ho (e.BS w h).f (.tup l)⟩
 | .hold i x=>⟨Jv (x.BS w h).f i⟩
 | .par r l s=>⟨Ol r (l.map λx=>(x.BS w h).f) s⟩
 | .Hu i k e=>⟨Jx i (k.BS w h).f (e.BS w h).f⟩
 | .Gg i k e=>⟨Lv h i (k.BS w h).f (e.BS w h).f⟩
 | .Gh i k e=>⟨H_ i (k.BS w h).f (e.BS w h).f⟩
 | .Hv _ _ _=>⟨λ_=>M.stuck⟩
 | .aug i op e=>⟨PJ i op (e.BS w h).f⟩
 | .append i e=>⟨Jw i (e.BS w h).f⟩
 | .extend i e=>⟨Jy i (e.BS w h).f⟩
 | .IA y i=>⟨PI y i⟩
 | .KV y i k d=>⟨Qu h y i (k.BS w h).f (d.BS w h).f⟩
 | .drop e=>⟨Nw (e.BS w h).f⟩
 | .ret e=>⟨λρ=>(e.BS w h).f ρ>>= λd=>pure (ρ,some d)⟩
 | .ite c a b=>⟨λρ=>((c.BS w h).f ρ>>=Aw)>>= λt=>if t then a.HS.f ρ else b.HS.f ρ⟩
 | .while c b=>⟨Ry w.wh (c.BS w h).f b.HS.f⟩
 | .for g it b=>⟨Ms (it.BS w h).f it.PR g b.HS.f⟩
 | .raise k t=>⟨Jg (k.BS w h).f (t.BS w h).f⟩
noncomputable def Bc.HS:Bc->CS
 | .nil=>⟨λρ=>pure (ρ,none)⟩
 | .cons s l=>⟨Gf s.HS.f l.HS.f⟩
 | .freeze i l=>⟨λρ=>Hq i ρ>>=l.HS.f⟩
end
end
end
section
noncomputable def ÁF:Â Ą->Ë (Â D)
 |[]=>À []
 | .ê d::l=>(ÁF l).Ö (d:: ·)
 |_=>Ã
def Qx(f:Þ)(s:Â Ą):M D:=match ÁF s with
 |À ds=>ask λo=>.É [.Ý f,.É ds,o]
 |Ã=>M.Û
def Hb(n:Ï):Vj:=λc b ρ=>Dy c b n ρ
def Uv(S:Â Þ)(f:Þ):é:=S.any λg=>IY g f
def RN(h:Ï)(S:Â Þ)(n:Ï):Ï->Þ->Â Ą->M D
 |0=>λ_ _=>M.Û
 |k+1=>λf s=>match Uv S f with
  |Ä=>Qx f s
  |Å=>match C_ f with
   |Ã=>M.Û
   |À t=>if s.Á=t.np then(t.Ć.HS {Cj,DT,RN h S n k,Hb n,Ã} h).f (Bf s (t.nm.Á -t.np))>>=Cf else M.Û
end
section
section
variable{α β:Type}
inductive Pf:M α->Prop
 |ok (a:α):Pf (Ñ a)
 |ex (k:Þ):Pf (M.Áp k)
 |st:Pf M.Û
def Pf.ù(h:Pf m)(k:∀a,Pf (f a)):Pf (m>>=f):=by
 cases h with
 |ok a=>show k a
 |ex=>show .ex _
 |st=>show .st
def Pf.ő{c:Prop}[ÀA c](h:Pf a)(k:Pf b):Pf (if c then a else b):=by
 split
 ·show h
 ·show k
def aw:∀o:Ë α,Pf (Df o)
 |À _=>.ok _
 |Ã=>.st
end
def me(op:DO)(a b:ä):Pf (binI op a b):=by induction op using DO.ď<;>first|show .ok _|show .st|show aw _|show .ő (.ok _) .st
def ua(op:DO)(n:Ï)(x:α)(f:α->D):Pf (Mn op n x f):=by induction op using DO.ď<;>first|show .ok _|show .st|show aw _|show .ő (.ok _) .st
def oS(op:DO)(a b:D):Pf (Fe op a b):=by induction a using ap<;>first|show .st|(induction b using ap<;>first|show .st|show me _ _ _|show ua _ _ _ _)
def xd(a:D):Pf (Oe a):=by induction a using ap<;>first|show .ok _|show .st|show aw _|show .ő (.ok _) .st
def cy(a:D):Pf (Aw a):=by induction a using ap<;>first|show .ok _|show .st|show aw _|show .ő (.ok _) .st
def ub(a b:D):Pf (TQ a b):=.ő (.ok _) .st
def oT(op:Fd)(a b:D):Pf (B_ op a b):=by
 cases op using Fd.ď with
 |eq=>show(ub _ _).ù λ_=>.ok _
 |ne=>show(ub _ _).ù λ_=>.ok _
 |_=>induction a using ap<;>first|show .st|(induction b using ap<;>first|show .ok _|show .st|show aw _|show .ő (.ok _) .st)
def rv(a b:D):Pf (Gw a b):=by induction b using ap<;>first|show .ok _|show .st|show aw _|show .ő (.ok _) .st
def xe(a b:D):Pf (Jp a b):=by induction a using ap<;>first|show .st|(induction b using ap<;>first|show .ok _|show .st|show aw _|show .ő (.ok _) .st)
def uc(a b:D):Pf (HU a b):=by induction a using ap<;>first|show .st|(induction b using ap<;>first|show .ok _|show .st|show aw _|show .ő (.ok _) .st)
def xf(a b:D):Pf (LD a b):=by induction a using ap<;>first|show .st|(induction b using ap<;>first|show .ok _|show .st|show aw _|show .ő (.ok _) .st)
def xg(a:D):Pf (Mm a):=by induction a using ap<;>first|show .ok _|show .st|show aw _|show .ő (.ok _) .st
def xh(a b:D):Pf (Od a b):=by induction b using ap<;>first|show .ok _|show .st|show aw _|show .ő (.ok _) .st
def xi:∀o:Ë (Â ä),Pf (match o with|À ns=>Ñ (.Ê ns.sum)|Ã=>M.Û:M D)
 |À _=>.ok _
 |Ã=>.st
def ud(b:Bi)(l:Â D):Pf (Kx b l):=by
 exists b l,no;cases l using i2 with
 |å=>cases b<;>show .st
 |Æ x l=>
  cases l using i2 with
  |å=>cases b<;>first|show .st|(induction x using ap<;>first|show .ok _|show .st|show aw _|show .ő (.ok _) .st|show .ő (xi _) .st)
  |Æ y l=>
   cases l using i2 with
   |å=>cases b<;>first|show .st|(induction x using ap<;>first|show .st|(induction y using ap<;>first|show .ok _|show .st|show aw _|show .ő (.ok _) .st))
   |Æ=>cases b<;>first|show .st|(induction x using ap<;>first|show .st|(induction y using ap<;>show .st))
def xj(l:Â D):Pf (Mq l):=.ő (.ok _) .st
def mf(l:Â D):Pf (EZ l):=.ő (.ok _) .st
def jo(a:D):Pf (Jd a):=by induction a using ap<;>first|show .ok _|show .st|show aw _|show .ő (.ok _) .st
def jq(a:D):Pf (Hn a):=by induction a using ap<;>first|show .ok _|show .st|show aw _|show .ő (.ok _) .st
def mh(a:D):Pf (Nr a):=by induction a using ap<;>first|show .ok _|show .st|show aw _|show .ő (.ok _) .st
def ue(a:D):Pf (GX a):=by
 cases a using ap with
 |É x=>
  change Pf (match allStrs x with
   |À s=>if s.Á<=2 then Ñ (ā.É ((LM s).Ö λk=>.Ý k)) else M.Û
   |Ã=>M.Û)
  cases allStrs x<;>first|show .ok _|show .st|show aw _|show .ő (.ok _) .st
 |_=>show .st
def uf(DT:Þ->Ë ä)(a:D):Pf (Ia DT a):=by induction a using ap<;>first|show .ok _|show .st|show aw _|show .ő (.ok _) .st
def zf(i:Ï)(ρ:Aa):Pf (Js i ρ):=aw _
def zg(i:Ï)(ρ:Aa):Pf (KQ i ρ):=by
 unfold KQ;generalize ρ.ĵ i=o;cases o using i7 with
 |Ã=>show .st
 |À s=>induction s using Ą.ď<;>first|show .ok _|show .st|show aw _|show .ő (.ok _) .st
def aba(i:Ï)(ρ:Aa):Pf (KW i ρ):=by
 unfold KW;generalize ρ.ĵ i=o;cases o using i7 with
 |Ã=>show .st
 |À s=>induction s using Ą.ď<;>first|show .ok _|show .st|show aw _|show .ő (.ok _) .st
def cN(i:Ï)(ρ:Aa):Pf (DC i ρ):=aw _
def nV(i:Ï)(ρ:Aa):Pf (HW i ρ):=aw _
def fa(i:Ï)(ρ:Aa):Pf (ER i ρ):=aw _
def ug(a b:D):Pf (Oi a b):=by induction b using ap<;>first|show .ok _|show .st|show aw _|show .ő (.ok _) .st
def uh(a:D):Pf (LH a):=by induction a using ap<;>first|show .ok _|show .st|show aw _|show .ő (.ok _) .st
def ui(a:D):Pf (Mr a):=by induction a using ap<;>first|show .ok _|show .st|show aw _|show .ő (.ok _) .st
def hL(l:Â (D×D))(a:D):Pf (Jz l a):=.ő (aw _) .st
def gw(r:Aa×Ë D):Pf (Cf r):=by obtain⟨a,d⟩:=r;induction d using i7<;>show .ok _
def gy(g:Tg):∀(d:D) (ρ:Aa),Pf (g.put d ρ):=g.rec (ÁO:=λt=>∀d ρ,Pf (t.put d ρ)) (ÂD:=λl=>∀s ρ,Pf (l.put s ρ)) (λ_ _ _=>.ok _)
 (λl i d ρ=>by induction d using ap<;>first|show .st|show i _ ρ)
 (λs ρ=>by induction s using i2<;>first|show .ok _|show .st)
 λt l a b s ρ=>by
  cases s using i2 with
  |å=>show .st
  |Æ d s=>show(a d ρ).ù λc=>b s c
variable{H:D->Prop}
def Hs(H:D->Prop)(s:Â D):Prop:=∀c∈s,H c
section
variable{α β:Type}
inductive Tells(H:D->Prop)(m:M α)(c:Â D):Out α->Prop
 |ok {a ŋ s}:(Hs H s->Hs H c/\m=Ñ a)->Tells H m c (.ok a (Ň ŋ s))
 |ex {k ŋ s}:(Hs H s->Hs H c/\m=M.Áp k)->Tells H m c (.exc k (Ň ŋ s))
 |st:Tells H m c .Û
def Ō(H:D->Prop)(a m:M α):Prop:=∀os c,Tells H m c (a.Ĉ (Ň os c))
def Ō.of{m:M α}(h:Pf m):Ō H m m:=λos c=>by
 cases h with
 |ok a=>show .ok λh=>{h,Î}
 |ex k=>show .ex λh=>{h,Î}
 |st=>show .st
def Ō.st:Ō H M.Û m:=λ_ _=>.st
def Ō.ù(h:Ō H u m)(k:∀a,Ō H (j a) (f a)):Ō H (u>>=j) (m>>=f):=λos s=>by
 have g:=h os s;rw[ar];cases e:u.Ĉ (Ň os s) with
 |Û=>show .st
 |exc k p=>rw[e] at g;cases g with|ex q=>show .ex λz=>by show aj (q z) λc d=>?_;rw[d];show{c,Î}
 |ok a p=>
  rw[e] at g;cases g with| @ok _ o l q=>?_
  have i:=k a o l;change Tells H (m>>=f) s ((j a).Ĉ (Ň o l));cases v:(j a).Ĉ (Ň o l) with
  |Û=>show .st
  |exc k p=>rw[v] at i;cases i with|ex r=>show .ex λz=>by show aj (r z) λn t=>?_;show aj (q n) λc d=>?_;rw[d];show{c,t}
  |ok b p=>rw[v] at i;cases i with|ok r=>show .ok λz=>by show aj (r z) λn t=>?_;show aj (q n) λc d=>?_;rw[d];show{c,t}
def Ō.Ñ:Ō H (Ñ a) (Ñ a):=.of (.ok a)
def Ō.Ĕ{b m:M α}{f:α->M β}(h:Ō H b m)(k:∀a,Pf (f a)):Ō H (b>>=f) (m>>=f):=h.ù λa=>.of (k a)
def Ō.ő{c:Prop}[ÀA c](h:Ō H a d)(k:Ō H b e):Ō H (if c then a else b) (if c then d else e):=by
 split
 ·show h
 ·show k
theorem Ō.Bh(h:Ō H b m):Ō H (PQ.Internal.Bh b) (PQ.Internal.Bh m):=λos c=>by
 have d:=h os c;unfold PQ.Internal.Bh;dsimp only;cases e:b.Ĉ (Ň os c) with
 |ok a p=>rw[e] at d;cases d with|ok q=>show .ok λz=>by show aj (q z) λf g=>?_;rw[g];show{f,Î}
 |exc=>show .st
 |Û=>show .st
end
abbrev Bx{α a:Type}(H:D->Prop)(b f:α->M a):Prop:=∀ρ,Ō H (b ρ) (f ρ)
inductive EJ{α:Type}(H:D->Prop):Â (Aa->M α)->Â (Aa->M α)->Prop
 |å:EJ H [] []
 |Æ {f a l l'}:Bx H f a->EJ H l l'->EJ H (f::l) (a::l')
section
variable{α:Type}
theorem EJ.Di(h:EJ H l l')(ρ:Aa):Ō H (PQ.Internal.Di (l.Ö λf=>f ρ)) (PQ.Internal.Di (l'.Ö λf=>f ρ)):=by
 induction h with
 |å=>show .Ñ
 |Æ h _ i=>show(h ρ).ù λ_=>i.ù λ_=>.Ñ
theorem EJ.CF(h:EJ H l l')(ρ:Aa):Ō H (PQ.Internal.CF (l.Ö λf=>f ρ)) (PQ.Internal.CF (l'.Ö λf=>f ρ)):=by
 induction h with
 |å=>show .Ñ
 |Æ h _ i=>show(h ρ).ù λ_=>i.ù λ_=>.Ñ
def EJ.and(h:EJ H l l')(ρ:Aa):Ō H (KP (l.Ö λf=>f ρ)) (KP (l'.Ö λf=>f ρ)):=by
 induction h with
 |å=>show .Ñ
 |Æ h _ i=>show((h ρ).Ĕ cy).ù λb=>.ő i .Ñ
def EJ.or(h:EJ H l l')(ρ:Aa):Ō H (OU (l.Ö λf=>f ρ)) (OU (l'.Ö λf=>f ρ)):=by
 induction h with
 |å=>show .Ñ
 |Æ h _ i=>show((h ρ).Ĕ cy).ù λb=>.ő .Ñ i
end
section
variable{f f' g g':Aa->M D}{tg:Tg}
def hM(h:Bx H f f')(k:Bx H (GS c) (GS c'))(ds:Â D):∀(ρ:Aa),Ō H (Dx f c tg ds ρ) (Dx f' c' tg ds ρ):=by
 induction ds with
 |å=>show λ_=>.Ñ
 |Æ d ds i=>show λρ=>(Ō.of (gy tg d ρ)).ù λa=>(k a).ù λb=>.ő ((h a).ù λx=>(i a).ù λ_=>.Ñ) (i a)
def fc{c c':Ë (Aa->M D)}(h:Bx H f f')(k:Bx H (GS c) (GS c'))(ds:Â D)(ρ:Aa):Ō H (CJ f c tg ds ρ) (CJ f' c' tg ds ρ):=((hM h k ds ρ).Bh.ù λ_=>.Ñ).ő .st
def mi(a:Bx H F b)(h:Bx H f f')(ds:Â D):∀(ρ:Aa),Ō H (Ht F f i c ds ρ) (Ht b f' i c ds ρ):=by
 induction ds with
 |å=>show λ_=>.Ñ
 |Æ d ds e=>show λρ=>(a _).ù λs=>Ō.ő ((hM h (λ_=>.Ñ) _ _).ù λx=>(e _).ù λ_=>.Ñ) .st
def rx(h:Bx H f f')(k:Bx H g g')(ds:Â D):∀(s:Â Þ) (ρ:Aa),Ō H (Fi f g i ds s ρ) (Fi f' g' i ds s ρ):=by
 induction ds with
 |å=>show λ_ _=>.Ñ
 |Æ d ds a=>show λs ρ=>((k _).Ĕ cy).ù λb=>Ō.ő ((h _).ù λx=>by
  cases x using ap with
  |Ý c=>show a _ _
  |_=>show .st) (a _ _)
def jr(h:Ō H (L ds ρ) (L' ds ρ)):Ō H (Ey L ds ρ) (Ey L' ds ρ):=(h.Bh.ù λ_=>.Ñ).ő .st
variable{b b':Aa->M (Aa×Option D)}
def hN(h:Bx H k a)(r:Aa×Ë D):Ō H (DR k r) (DR a r):=by
 obtain⟨c,l⟩:=r;cases l using i7 with
 |Ã=>show h c
 |À d=>show .Ñ
def ry(h:Bx H b b')(ds:Â D):∀(ρ:Aa),Ō H (EA tg b ds ρ) (EA tg b' ds ρ):=by
 induction ds with
 |å=>show λ_=>.Ñ
 |Æ d ds i=>show λρ=>(Ō.of (gy tg d ρ)).ù λa=>(h a).ù λr=>hN i r
def uj(h:Bx H c c')(d:Bx H b b')(n:Ï):Bx H (Dy c b n) (Dy c' b' n):=by
 induction n with
 |ž=>show λ_=>.st
 |ś n i=>show λa=>(h a).ù λt=>Ō.ő ((d a).ù λr=>hN i r) .Ñ
end
end
section
def oU:∃R:(Ï->NA)×(Ï->Ë NA),R=(λd=>(runs C_ Cj DT d).1,λd=>(runs C_ Cj DT d).2.1):={_,Î}
def R:Ï->NA:=oU.choose.1
def RG:Ï->Ë NA:=oU.choose.2
def oV:R= λd=>(runs C_ Cj DT d).1:=â ZA oU.ż
def j_:RG= λd=>(runs C_ Cj DT d).2.1:=â Prod.snd oU.ż
def abb:RG (d+2)=À (R d):=by rw[oV,j_];rfl
abbrev iF(d:Ï):Cz:={Cj,DT,R d,GF,RG d}
def Hc(N:Ï):D->Prop
 | .É [.Ù b,.Ù o]=>b=o
 | .Ç [.Ù b,x,y,v]=>B_ (if b then .eq else .ne) x y=Ñ v
 | .É [.Ý f,.É ds,v]=>∀d,N<=d->R d f (ds.Ö .ê)=Ñ v
 | .Ç [.Ê a,.Ê b]=>AX a b=Ä
 | .Ç [.Ê b]=>b≠0/\sm b=Ä
 | .Ç [.Ã,.Ê b]=>b≠0
 | .Ç [.Ù _,.Ê a,.Ê b]=>FY a b=Ä
 | .Ç [.Ã,.Ê a,.Ê b,o]=>b≠0/\sm b=Ä/\o= .Ê (a.ī b)
 |_=>Ī
section
variable{N:Nat}{α:Type}
def ek(h:Hc N c->m=Ñ a):Ō (Hc N) (Ág c>>= λ_=>Ñ a) m:=λos s=>.ok λz=>{λx b=>z x (.ě _ b),h (z c (.Ď _))}
def dR(h:∀o,Hc N (k o)->m=Ñ o):Ō (Hc N) (ask k) m:=λos c=>by
 cases os using i2 with
 |å=>show .st
 |Æ o os=>show .ok λz=>{λx a=>z x (.ě _ a),h o (z _ (.Ď _))}
def js(d:D):Ō (Hc N) (Lr d) (Ñ d):=by
 cases d using ap with
 |Ù b=>
  show dR λo h=>?_;cases o using ap with
  |Ù o=>show â (λb=>Pure.Ñ (ā.Ù b)) h
  |_=>show Ī.ç h
 |_=>show .st
def uk[ÀA c]{f:D->α}:∀o:Ë D,Pf (Df o>>= λd=>if c then Ñ (f d) else M.Û)
 |À _=>.ő (.ok _) .st
 |Ã=>.st
def jt(op:Fd)(x y:D):Ō (Hc N) (B_ op x y>>=Lr) (B_ op x y):=by
 have h:Ō (Hc N) (B_ op x y>>=Lr) (B_ op x y>>= λa=>Ñ a):=(Ō.of (oT op x y)).ù js;rw[M.ÂI] at h;show h
def rz(op:Fd)(a b:D):Ō (Hc N) (TA op a b) (B_ op a b):=by
 cases op using Fd.ď with
 |eq=>show dR λo h=>h
 |ne=>show dR λo h=>h
 |_=>show jt _ _ _
def rA(s:Ï)(op:Fd)(x y:D):Ō (Hc N) (TB s op x y) (B_ op x y):=
 match s with
 |0=>.of (oT _ _ _)
 |1=>jt _ _ _
 |_+2=>rz _ _ _
def fG(b:é):Ō (Hc N) (Gr b) (Ñ b):=(js (.Ù b)).Ĕ cy
def fH(k:D):∀l,Ō (Hc N) (FP k l) (Ñ (l.Ö λp=>f2 p.1 k))
 |[]=>.Ñ
 |p::l=>by
  have h:Ō (Hc N) (FP k (p::l)) (Ñ (f2 p.1 k)>>= λb=>Ñ (l.Ö λp=>f2 p.1 k)>>= λs=>Ñ (b::s)):=(fG _).ù λb=>(fH k l).Ĕ λs=>.ok _;show h
def ÂG(k:D)(l:Â (D×D)):ÂS (l.Ö λp=>f2 p.1 k) l=DP l k:=by
 induction l with
 |å=>rfl
 |Æ p l this=>
  unfold DP at this⊢;change(if f2 p.1 k=Ä then À p.2 else ÂS _ l)=_;rw[Â.find?_cons,this];cases f2 p.1 k<;>rfl
def mj(k v:D):∀l,Qr v (l.Ö λp=>f2 p.1 k) l=l.Ö λp=>if f2 p.1 k then(p.1,v) else p
 |[]=>rfl
 |p::l=>â _ (mj k v l)
def um(k v:D)(l:Â (D×D)):OH (l.Ö λp=>f2 p.1 k) l k v=Jq l k v:=by
 unfold OH Jq;rw[ÂG,mj]
def uo(k:D)(l:Â (D×D)):Kg (l.Ö λp=>f2 p.1 k) l=Hk l k:=by
 induction l with
 |å=>rfl
 |Æ p l this=>
  unfold Hk at this⊢;change(if f2 p.1 k=Ä then Kg _ l else p::Kg _ l)=_;rw[Ze,this];cases f2 p.1 k<;>rfl
def fI{k:D}{l:Â (D×D)}{f:Â é->M α}(a:∀bs,Pf (f bs)):Ō (Hc N) (Gr (AU k)>>= λt=>if t=Ä then FP k l>>=f else M.Û) (if AU k=Ä then f (l.Ö λp=>f2 p.1 k) else M.Û):=by
 have h:Ō (Hc N) (Gr (AU k)>>= λt=>if t=Ä then FP k l>>=f else M.Û) (Ñ (AU k)>>= λt=>if t=Ä then Ñ (l.Ö λp=>f2 p.1 k)>>=f else M.Û):=(fG _).ù λt=>Ō.ő ((fH k l).Ĕ a) .st;show h
def hO{k:D}{l:Â (D×D)}{Q:Prop}[ÀA Q]{f:Â é->M α}(a:∀bs,Pf (f bs)):Ō (Hc N) (Gr (AU k)>>= λt=>if t=Ä/\Q then FP k l>>=f else M.Û) (if AU k=Ä/\Q then f (l.Ö λp=>f2 p.1 k) else M.Û):=by
 have h:Ō (Hc N) (Gr (AU k)>>= λt=>if t=Ä/\Q then FP k l>>=f else M.Û) (Ñ (AU k)>>= λt=>if t=Ä/\Q then Ñ (l.Ö λp=>f2 p.1 k)>>=f else M.Û):=(fG _).ù λt=>Ō.ő ((fH k l).Ĕ a) .st;show h
section
variable{fk' fk fd' fd:Aa->M D}
def uq(h i:Ï)(a:Bx (Hc N) fk' fk):Bx (Hc N) (TF h i fk') (Iz i fk):=λb=>by
 have n:Ō (Hc N) (Iz i fk' b) (Iz i fk b):=(a b).ù λ_=>(Ō.of (cN _ _)).Ĕ λ_=>.ő (.ok _) .st;have q:Ō (Hc N) (TC i fk' b) (Iz i fk b):=(a b).ù λk=>(Ō.of (cN _ _)).ù λv=>by
  have:=fI (N:=N) (k:=k) (l:=v) (f:=λs=>Ñ (ā.Ù (ÂS s v).ÁW)) λ_=>.ok _;rw[ÂG] at this;show this
 match h with
 |0=>show n
 |1=>show n
 |2=>show q
 |_+3=>show n
def rB(h:Ï)(v:Â (D×D))(k:D):Ō (Hc N) (Qt h v k) (Jz v k):=by
 have q:=by
  have:=fI (N:=N) (k:=k) (l:=v) (f:=λb=>Df (ÂS b v)) λ_=>aw _;rw[ÂG] at this;show this
 match h with
 |0=>show .of (hL _ _)
 |1=>show .of (hL _ _)
 |2=>show q
 |_+3=>show .of (hL _ _)
def ml(h i:Ï)(a:Bx (Hc N) fk' fk)(b:Bx (Hc N) fd' fd):Bx (Hc N) (MY h i fk' fd') (EB i fk fd):=λc=>by
 have n:Ō (Hc N) (EB i fk' fd' c) (EB i fk fd c):=(Ō.of (cN _ _)).ù λ_=>(a c).ù λ_=>(b c).Ĕ λ_=>.ő (.ok _) .st;have q:Ō (Hc N) (MX i fk' fd' c) (EB i fk fd c):=(Ō.of (cN _ _)).ù λv=>(a c).ù λk=>(b c).ù λd=>by
  have:=fI (N:=N) (k:=k) (l:=v) (f:=λs=>Ñ ((ÂS s v).ø d)) λ_=>.ok _;rw[ÂG] at this;show this
 match h with
 |0=>show n
 |1=>show n
 |2=>show q
 |_+3=>show n
def ka(h i:Ï)(a:Bx (Hc N) fk' fk)(b:Bx (Hc N) fd' fd):Bx (Hc N) (Lv h i fk' fd') (DY i fk fd):=λc=>by
 have n:Ō (Hc N) (DY i fk' fd' c) (DY i fk fd c):=(b c).ù λ_=>(Ō.of (cN _ _)).ù λ_=>(a c).Ĕ λ_=>.ő (.ok _) .st;have q:Ō (Hc N) (Ls i fk' fd' c) (DY i fk fd c):=(b c).ù λd=>(Ō.of (cN _ _)).ù λv=>(a c).ù λk=>by
  have:=hO (N:=N) (k:=k) (l:=v) (Q:=v.Á<=100000) (f:=λs=>Ñ (c.set i (À (Ą.td (OH s v k d))),(Ã:Ë D))) λ_=>.ok _;rw[um] at this;show this
 match h with
 |0=>show n
 |1=>show n
 |2=>show q
 |_+3=>show n
def rC(h y i:Ï)(a:Bx (Hc N) fk' fk)(b:Bx (Hc N) fd' fd):Bx (Hc N) (Qu h y i fk' fd') (GW y i fk fd):=λc=>by
 have n:Ō (Hc N) (GW y i fk' fd' c) (GW y i fk fd c):=(Ō.of (cN _ _)).ù λ_=>(a c).ù λ_=>(b c).Ĕ λ_=>.ő (.ok _) .st;have q:Ō (Hc N) (Qs y i fk' fd' c) (GW y i fk fd c):=(Ō.of (cN _ _)).ù λv=>(a c).ù λk=>(b c).ù λd=>by
  have:=hO (N:=N) (k:=k) (l:=v) (Q:=v.Á<=100000) (f:=λs=>Ñ ((c.set i (À (.td (Kg s v)))).set y (À (.ê ((ÂS s v).ø d))),(Ã:Ë D))) λ_=>.ok _;rw[ÂG,uo] at this;show this
 match h with
 |0=>show n
 |1=>show n
 |2=>show q
 |_+3=>show n
end
def nW(h:Ï)(a b:ä):Ō (Hc N) (Qv h a b) (binI .ī a b):=by
 have k:Ō (Hc N) (Ág (.Ç [.Ê b])>>= λ_=>Ñ (.Ê (a.ī b))) (binI .ī a b):=ek λh=>à h
 match h with
 |0=>show k
 |1=>show k
 |2=>show k
 |3=>show dR λo h=>(à {h.1,h.2.1}).Ð (â Pure.Ñ h.2.2.symm)
 |h+4=>show k
def nX(h:Ï)(op:DO)(a b:ä):Ō (Hc N) (Qw h op a b) (binI op a b):=by
 cases op using DO.ď with
 |ļ=>show ek λh=>à h
 |ī=>show nW _ _ _
 |mod=>show ek λh=>à h
 |pow=>show ek λh=>à h
 |_=>show Ō.of (m:=binI _ a b) (me _ _ _)
def rE(h:Ï)(op:DO)(x y:D):Ō (Hc N) (TG h op x y) (Fe op x y):=by
 cases h with
 |ž=>show .of (oS _ _ _)
 |ś h=>induction x using ap<;>first|show .st|(induction y using ap<;>first|show .st|show nX _ _ _ _|show Ō.of (m:=Fe _ _ _) (oS _ _ _))
end
structure MZ(H:D->Prop)(a w:Cz):Prop where
 Cj:a.Cj=w.Cj
 DT:a.DT=w.DT
 F:∀f s,Ō H (a.F f s) (w.F f s)
 wh:∀c' c d b,Bx H c' c->Bx H d b->Bx H (a.wh c' d) (w.wh c b)
 G:∀e,a.G=À e->∃F,w.G=À F/\∀f s,Ō H (e f s) (F f s)
def nY(h:Ō H c m):Ō H (E_ c) (E_ m):=λos s=>by
 exists H c m os s,h;have b:=h os s;unfold E_;dsimp only;cases e:c.Ĉ (Ň os s) with
 |ok a p=>rw[e] at b;cases b with|ok q=>show .ok λz=>by show aj (q z) λd f=>?_;rw[f];show{d,Î}
 |exc k p=>rw[e] at b;cases b with|ex q=>show .ok λz=>by show aj (q z) λd f=>?_;rw[f];show{d,Î}
 |Û=>show .st
section
variable{w' w:Cz}{N:Nat}{hk:Nat}(W:MZ (Hc N) w' w)
include W
def aL(x:XE):Bx (Hc N) (x.BS w' hk).f (x.ev w):=by
 show XE.rec (ÂD:=λx=>EJ (Hc N) (x.BS w' hk).l (x.ev w)) (motive_3:=λx=>Bx (Hc N) (x.BS w' hk).f (x.ev w)) (motive_4:=λx=>Bx (Hc N) (x.BS w' hk).f (x.ev w)) (motive_5:=λx=>EJ (Hc N) (x.BS w' hk).l (x.ev w)) (motive_6:=λx=>Bx (Hc N) (x.BS w' hk).f (x.ev w))
  ?_ ?_ ?_ ?_ ?_ ?_ ?_ ?_ ?_ ?_ ?_ ?_ ?_ ?_ ?_ ?_ ?_ ?_ ?_ ?_ ?_ ?_ ?_ ?_ ?_ ?_ ?_ ?_ ?_ ?_ ?_ ?_ ?_ ?_ ?_ ?_ ?_ ?_ ?_ ?_ ?_ ?_ ?_ ?_ ?_ ?_ ?_ ?_ ?_ ?_ x
 ·show λ_=>.st
 ·show λ_=>.Ñ
 ·show λ_ _=>.Ñ
 ·show λ_ _=>.Ñ
 ·show λ_ _=>.Ñ
 ·show λ_ _=>.of (zf _ _)
 ·show λx d=>by change Ō _ (Jt w'.Cj x) (Jt w.Cj x);rw[W.Cj];show .of (aw _)
 ·show λ_ _ _ a b d=>(a d).ù λ_=>(b d).ù λ_=>rE _ _ _ _
 ·show λ_ a d=>(a d).Ĕ xd
 ·show λ_ a d=>((a d).Ĕ cy).Ĕ λ_=>.ok _
 ·show λ_ _ _ a b d=>(a d).ù λ_=>(b d).ù λ_=>rA _ _ _ _
 ·show λ_ _ a d=>(a d).Ĕ λ_=>.ok _
 ·show λ_ _ a b d=>(a d).ù λ_=>(b d).Ĕ λ_=>rv _ _
 ·show λ_ _ a=>uq _ _ a
 ·show λ_ a d=>(a.and d).Ĕ λ_=>.ok _
 ·show λ_ a d=>(a.or d).Ĕ λ_=>.ok _
 ·show λ_ _ _ c a b d=>((c d).Ĕ cy).ù λt=>(a d).ő (b d)
 ·show λ_ a d=>(a.Di d).Ĕ xj
 ·show λ_ a d=>(a.Di d).Ĕ mf
 ·show λ_ _ a b d=>(a d).ù λ_=>(b d).Ĕ λ_=>xe _ _
 ·show λ_ _ a d=>(Ō.of (cN _ _)).ù λ_=>(a d).ù λ_=>rB _ _ _
 ·show λ_ _ _=>.st
 ·show λi a d=>by change Ō _ ((i.BS w' hk).f d>>=Ia w'.DT) (i.ev w d>>=Ia w.DT);rw[W.DT];show(a d).Ĕ λ_=>uf _ _
 ·show λ_ _ a b d=>(a d).ù λ_=>(b d).Ĕ λ_=>uc _ _
 ·show λ_ _ a b d=>(a d).ù λ_=>(b d).Ĕ λ_=>xf _ _
 ·show λ_ a d=>(a d).Ĕ xg
 ·show λ_ _ a b d=>(a d).ù λ_=>(b d).Ĕ λ_=>xh _ _
 ·show λ_ _ a d=>(a.CF d).ù λ_=>W.F _ _
 ·show λ_ _ a d=>(a d).Ĕ λ_=>ud _ _
 ·show λ_ _ _ a b d=>(a d).ù λ_=>(b d).Ĕ λ_=>ud _ _
 ·show λ_ _=>(Ō.of (nV _ _)).Ĕ λ_=>.ő (.ok _) .st
 ·show λ_ _=>(Ō.of (nV _ _)).Ĕ λ_=>.ő (.ok _) .st
 ·show λ_ _ _ a b=>ml _ _ a b
 ·show λ_ _ _ _ _ a b d=>(b d).ù λ_=>fc a (λ_=>.Ñ) _ _
 ·show λ_ _ _ _ _ _ a b c d=>(b d).ù λ_=>fc a (c:=À _) (c':=À _) (λd=>(c d).Ĕ cy) _ _
 ·show λ_ _ _ _ _ _ _ a b c d=>(b d).ù λj=>jr (Ō.ő (mi c a _ _) .st)
 ·show λ_ _ _ _ _ _ a b c d=>((b d).ù λj=>jr ((rx a c _ _ _).Ĕ λ_=>.ok _)).Ĕ ue
 ·intro č e g a d;change Ō _ (w'.G.ç M.Û λF=>E_ (CF ((g.BS w' hk).l.Ö λe=>e (AA 0 č d))>>= λs=>F e s)) (w.G.ç M.Û λF=>E_ (CF ((g.ev w).Ö λe=>e (AA 0 č d))>>= λs=>F e s));cases h:w'.G with
  |Ã=>show .st
  |À k=>show ag (W.G k h) λF m r=>by rw[m];show nY ((a.CF _).ù λ_=>r _ _)
 ·show .å
 ·show λ_ _ a b=>.Æ a b
 ·show λ_ _=>.of (zg _ _)
 ·show λ_ a=>a
 ·show λ_ _=>.of (aba _ _)
 ·show λ_ a d=>(a d).Ĕ λ_=>.ok _
 ·show .å
 ·show λ_ _ a b=>.Æ a b
 ·show λ_ a d=>(a d).Ĕ jo
 ·show λ_ a d=>(a d).Ĕ jq
 ·show λ_ a d=>(a d).Ĕ mh
 ·show λ_ _=>(Ō.of (cN _ _)).Ĕ λ_=>.ok _
def oW:∀x:EL,EJ (Hc N) (x.BS w' hk).l (x.ev w)
 | .å=>.å
 | .Æ e a=>.Æ (aL W e) (oW a)
def xk:∀x:XO,Bx (Hc N) (x.BS w' hk).f (x.ev w)
 | .Đ _=>λ_=>.of (zg _ _)
 | .ex e=>aL W e
def xl:∀x:XI,Bx (Hc N) (x.BS w' hk).f (x.ev w)
 | .Ĕ e=>λa=>(aL W e a).Ĕ jo
 | .range e=>λa=>(aL W e a).Ĕ jq
 | .enum e=>λa=>(aL W e a).Ĕ mh
 | .items i=>λa=>(Ō.of (cN _ _)).Ĕ λ_=>.ok _
def oX:∀x:XH,Bx (Hc N) (x.BS w' hk).f (x.ev w)
 | .ê e=>λa=>(aL W e a).Ĕ λ_=>.ok _
 | .É l=>λa=>((oW W l).Di a).Ĕ λ_=>(mf _).ù ui
 | .rep x n=>λa=>(aL W x a).ù λ_=>(aL W n a).Ĕ λ_=>ug _ _
 | .copy e=>λa=>(xk W e a).Ĕ uh
 | .sd=>λ_=>.Ñ
 | .td=>λ_=>.Ñ
def oY:∀l:Â XH,EJ (Hc N) (l.Ö λh=>(h.BS w' hk).f) (l.Ö λh=>h.ev w)
 |[]=>.å
 |x::l=>.Æ (oX W x) (oY l)
def dS(x:Bc):Bx (Hc N) (x.HS w' hk).f (x.ex w):=by
 show Bc.rec (ÁO:=λx=>Bx (Hc N) (x.HS w' hk).f (x.ex w))
  ?_ ?_ ?_ ?_ ?_ ?_ ?_ ?_ ?_ ?_ ?_ ?_ ?_ ?_ ?_ ?_ ?_ ?_ ?_ ?_ ?_ ?_ ?_ x
 ·show λ_=>.st
 ·show λ_ e g=>(aL W e g).ù λ_=>(Ō.of (gy _ _ _)).Ĕ λ_=>.ok _
 ·show λ_ e g=>(aL W e g).ù λ_=>(Ō.of (gy _ _ _)).Ĕ λ_=>.ok _
 ·show λ_ h g=>(oX W h g).Ĕ λ_=>.ok _
 ·show λ_ l _ g=>((oY W l).CF g).Ĕ λ_=>.ok _
 ·show λ_ k e g=>(aL W e g).ù λ_=>(Ō.of (fa _ _)).ù λ_=>(aL W k g).Ĕ λk=>by induction k using ap<;>first|show .ő (.ok _) .st|show .st
 ·show λ_ k e=>ka _ _ (aL W k) (aL W e)
 ·show λ_ k e g=>(aL W e g).ù λ_=>(Ō.of (nV _ _)).ù λ_=>(aL W k g).Ĕ λk=>by induction k using ap<;>first|show .ő (.ok _) .st|show .st
 ·show λ_ _ _ _=>.st
 ·show λ_ _ e g=>(Ō.of (zf _ _)).ù λ_=>(aL W e g).Ĕ λ_=>(aw _).ù λ_=>.ok _
 ·show λ_ e g=>(Ō.of (fa _ _)).ù λ_=>(aL W e g).Ĕ λ_=>.ő (.ok _) .st
 ·show λ_ e g=>(Ō.of (fa _ _)).ù λ_=>(aL W e g).Ĕ λd=>by induction d using ap<;>first|show .ő (.ok _) .st|show .st
 ·show λ_ _ g=>(Ō.of (fa _ _)).Ĕ λ_=>uk _
 ·show λ_ _ k e=>rC _ _ _ (aL W k) (aL W e)
 ·show λe g=>(aL W e g).Ĕ λ_=>.ok _
 ·show λe g=>(aL W e g).Ĕ λ_=>.ok _
 ·show λc _ _ a b g=>((aL W c g).Ĕ cy).ù λt=>(a g).ő (b g)
 ·show λc _ b g=>(W.wh _ _ _ _ (λg=>(aL W c g).Ĕ cy) b g).Bh
 ·show λo m _ b g=>(xl W m g).ù λs=>(ry b s _).Bh
 ·show λk t g=>(aL W k g).ù λk=>(aL W t g).Ĕ λt=>by induction k using ap<;>first|show .st|(induction t using ap<;>first|show .st|show .ő (.ex _) .st)
 ·show λ_=>.Ñ
 ·show λ_ _ a b g=>(a g).ù λr=>by
   obtain⟨j,n⟩:=r;cases n using i7 with
   |Ã=>show b j
   |À d=>show .Ñ
 ·show λi _ b g=>((Ō.of (fa _ _)).Ĕ λ_=>.ok _).ù λj=>b j
end
end
section
section
variable{c:Aa->M Bool}{b:Aa->M (Aa×Option D)}
def rF(n:Ï):∀(ρ:Aa) (p:AK),(Dy c b n ρ).Ĉ p≠ .Û->(Dy c b (n+1) ρ).Ĉ p=(Dy c b n ρ).Ĉ p:=by
 induction n with
 |ž=>show λ_ _ h=>absurd rfl h
 |ś n i=>
  intro ρ p h;have a:(c ρ>>= λt=>if t then b ρ>>=DR (Dy c b n) else Ñ (ρ,Ã)).Ĉ p≠ .Û:=h;change(c ρ>>= λt=>if t then b ρ>>=DR (Dy c b (n+1)) else Ñ (ρ,Ã)).Ĉ p=(c ρ>>= λt=>if t then b ρ>>=DR (Dy c b n) else Ñ (ρ,Ã)).Ĉ p;rw[ar] at a⊢;rw[ar];cases e:(c ρ).Ĉ p with
  |ok t Bp=>
   rw[e] at a;dsimp only at a⊢;cases t using ci with
   |Å=>rfl
   |Ä=>
    rw[à Î] at a⊢;rw[à Î];rw[ar] at a⊢;rw[ar];cases f:(b ρ).Ĉ Bp with
    |ok r p2=>
     rw[f] at a;dsimp only at a⊢;obtain⟨g,l⟩:=r;cases l using i7 with
     |Ã=>show i g p2 a
     |À d=>rfl
    |exc=>rfl
    |Û=>rfl
  |exc=>rfl
  |Û=>rfl
def oZ(h:n<=m)(s:(Dy c b n ρ).Ĉ p≠ .Û):(Dy c b m ρ).Ĉ p=(Dy c b n ρ).Ĉ p:=by
 induction h with
 |ť=>rfl
 |ÁX _ i=>rw[rF _ _ _ (by rw[i];show s),i]
def o_(s:(Dy c b n ρ).Ĉ p≠ .Û):(GF c b ρ).Ĉ p=(Dy c b n ρ).Ĉ p:=by
 have h:∃n,(Dy c b n ρ).Ĉ p≠ .Û:={n,s};unfold GF;dsimp only;rw[dif_pos h];rcases Ï.le_total n h.choose with q|q
 ·show oZ q s
 ·show(oZ q h.ż).symm
def M.ext'{m a:M α}(h:∀p,m.Ĉ p=a.Ĉ p):m=a:=by
 cases m;cases a;congr 1;funext p;show h p
def pa(h:Dy c b n ρ=Ñ r):GF c b ρ=Ñ r:=M.ext' λp=>by
 rw[o_ (by rw[h];show λx=>by show oC x),h]
def ur(h:Dy c b n ρ=M.Áp k):GF c b ρ=M.Áp k:=M.ext' λp=>by
 rw[o_ (by rw[h];show λx=>by show oC x),h]
def nZ(h:c ρ=Ñ Ä)(a:b ρ=Ñ (ρ',Ã))(k:Dy c b n ρ'=m):Dy c b (n+1) ρ=m:=by
 change(c ρ>>= λt=>if t then b ρ>>=DR (Dy c b n) else Ñ (ρ,Ã))=m;rw[h,a];show k
def kb{n:Ï}(h:c ρ=Ñ Å):Dy c b (n+1) ρ=Ñ (ρ,Ã):=by
 change(c ρ>>= λt=>if t then b ρ>>=DR (Dy c b n) else Ñ (ρ,Ã))=_;rw[h];rfl
end
def uu{l:Â Ą}{ds:Â D}(h:ÁF l=À ds):l=ds.Ö .ê:=by
 induction l generalizing ds with
 |å=>obtain rfl:=al h;rfl
 |Æ s l i=>
  cases s using Ą.ď with
  |ê d=>
   show ag (h9.mp (h)) λc a b=>?_;subst b;rw[i a];rfl
  |_=>show nS h
def hP(g:Bx (Hc N) c' c)(i:Bx (Hc N) d b):Bx (Hc N) (Hb n c' d) (GF c b):=λf os s=>by
 exists N c' c d b n f os s,g i;have h:=uj g i n f os s;change Tells _ _ _ ((Dy c' d n f).Ĉ (Ň os s));cases e:(Dy c' d n f).Ĉ (Ň os s) with
 |Û=>show .st
 |ok a p=>
  rw[e] at h;cases h with|ok q=>show .ok λz=>{(q z).1,pa (q z).2}
 |exc a p=>
  rw[e] at h;cases h with|ex q=>show .ex λz=>{(q z).1,ur (q z).2}
def kc(k:Ï):∀d:Ï,k+N<=d->∀f s,Ō (Hc N) (RN hk S n k f s) (R d f s):=by
 induction k with
 |ž=>show λ_ _ _ _=>.st
 |ś k i=>
  intro d h f s;obtain⟨d,Î⟩:=eD (n:=k+N) (E2 k 1 N▸h);change Ō _ (match Uv S f with
   |Ä=>Qx f s
   |Å=>match C_ f with
    |Ã=>M.Û
    |À t=>if s.Á=t.np then(t.Ć.HS {Cj,DT,RN hk S n k,Hb n,Ã} hk).f (Bf s (t.nm.Á -t.np))>>=Cf else M.Û) _
  cases Uv S f with
  |Ä=>
   unfold Qx;cases e:ÁF s with
   |Ã=>show .st
   |À g=>
    rw[uu e];show dR λo a=>a _ (ac (f3 ..) h)
  |Å=>
   have e:R (d+1) f s=match C_ f with
    |Ã=>M.Û
    |À t=>if s.Á=t.np then t.Ć.ex (iF d) (Bf s (t.nm.Á -t.np))>>=Cf else M.Û:=by unfold iF;rw[oV,j_];rfl
   rw[e];have W:MZ (Hc N) {Cj,DT,RN hk S n k,Hb n,Ã} (iF d):={Î,Î,i d (by rw[E2] at h;show WP h),λ_ _ _ _ c b=>hP c b,λ_ h=>nS h};cases C_ f with
   |Ã=>show .st
   |À t=>show .ő ((dS W t.Ć _).Ĕ gw) .st
def Ó(N:Ï)(f:Þ)(l:Â D)(v:D):Prop:=∀d,N<=d->R d f (l.Ö .ê)=Ñ v
def WN(N:Ï)(f:Þ)(l:Â D)(k:Þ):Prop:=∀d,N<=d->R d f (l.Ö .ê)=M.Áp k
def mm{N n k d:Ï}{hk:Ï}{S:Â Þ}(a:k+N<=d):MZ (Hc N) {Cj,DT,RN hk S n k,Hb n,Ã} (iF d):={Î,Î,kc k d a,λ_ _ _ _ c b=>hP c b,λ_ h=>nS h}
def n_{N n k d:Ï}{hk:Ï}{S:Â Þ}(a:k+N<=d):MZ (Hc N) {Cj,DT,RN hk S n k,Hb n,À (RN hk S n k)} (iF (d+2)):={Î,Î,kc k _ (ac a (bv ..)),λ_ _ _ _ c b=>hP c b,λ_ h=>{R d,abb,al h▸kc k d a}}
def Ō.told(h:Ō H b m){os ŋ c:Â D}(Ĉ:b.Ĉ (Ň os [])= .ok r (Ň ŋ c))(s:Hs H c):m=Pure.Ñ r:=by
 have h:=h os [];rw[Ĉ] at h;generalize a:Ň ŋ c=p at h;cases h with
 | @ok _ o d q=>
  have:c=d:=by unfold Ň at a;injection a with a;injection a with _ a;injection a with a;injection a
  subst this;show(q s).2
def sr{N n k:Ï}{hk:Ï}{S:Â Þ}{f:Þ}{l:Â D}{v:D}{os ŋ c:Â D}(h:Hs (Hc N) c)(Ĉ:(RN hk S n k f (l.Ö .ê)).Ĉ (Ň os [])= .ok v (Ň ŋ c)):Ó (k+N) f l v:=λd a=>Ō.told (kc k d a f (l.Ö .ê)) Ĉ h
def dT{N n k d:Ï}{hk:Ï}{S:Â Þ}{b:Bc}{ρ:Aa}{r:Aa×Ë D}{os ŋ c:Â D}(h:k+N<=d)(s:Hs (Hc N) c)(Ĉ:((b.HS {Cj,DT,RN hk S n k,Hb n,Ã} hk).f ρ).Ĉ (Ň os [])= .ok r (Ň ŋ c)):b.ex (iF d) ρ=Ñ r:=Ō.told (dS (mm h) b ρ) Ĉ s
end
section
def Hs.å:Hs H []:=λ_ h=>nomatch h
def Hs.Æ{H:D->Prop}{c:D}{s:Â D}(h:H c)(b:Hs H s):Hs H (c::s):=λx a=>by
 cases a with
 |Ď=>show h
 |ě _ a=>show b x a
def kd(w:Cz)(c:XE)(bd:Bc)(m:ä->ä->Aa)(d:∀a b,0<=b->c.ev w (m a b)>>=Aw=Ñ (decide (b≠0)))(f:∀a b,b≠0->bd.ex w (m a b)=Ñ (m b (a.fmod b),Ã)):
  ∀(b a:Ï),∃n,Dy (λρ=>c.ev w ρ>>=Aw) (bd.ex w) n (m a b)=Ñ (m (Ï.gcd a b) 0,Ã):=by
 intro b;cases b using Ï.strongRecOn with
 |ind b i=>
  intro a;by_cases h:b=0
  ·subst h;show{1,by rw[kb (d _ _ _0),Ï.gcd_zero_right];rfl}
  ·show ao (i (a %b) (Ï.mod_lt _ (YH h)) b) λn e=>{n+1,nZ ((d _ _ (s1 _)).Ð (by rw[Ă (by lia)])) (f _ _ (by lia)) ?_};rw[ä.fmod_eq_emod_of_nonneg _ (s1 _)];rw[Ï.gcd_comm a b,Ï.gcd_rec b a,Ï.gcd_comm];show e
def bS{t:AF}(h:C_ f=À t)(n:s.Á=t.np):R (d+1) f s=t.Ć.ex (iF d) (Bf s (t.nm.Á -t.np))>>=Cf:=by
 unfold iF;rw[oV,j_];change(match C_ f with
  |Ã=>M.Û
  |À t=>if s.Á=t.np then t.Ć.ex (RF C_ Cj DT d) (Bf s (t.nm.Á -t.np))>>=Cf else M.Û)=_
 rw[h];show à n
def hQ{w:Cz}(a:w.wh=GF)(h:Dy (λρ=>c.ev w ρ>>=Aw) (bd.ex w) n ρ=Ñ (ρ',Ã)):XS.ex w (.while c bd) ρ=Ñ (ρ',Ã):=by
 change Bh (w.wh _ _ ρ)=_;rw[a,pa h];rfl
def hR{x:é}(h:x=b):(Ñ (ā.Ù x)>>=Aw)=Ñ b:=â Ñ h
def cD(a b:ä):Ó 1 DD [.Ê a,.Ê b] (.Ê (pi a b)):=λd f=>by
 obtain⟨d,Î⟩:=eD f;show ao (kd (iF d) (.cmp .ne (.Đ 1) (.Ê 0)) (.Æ (.par Ä [(.ê (.Đ 1)),(.ê (.bin .mod (.Đ 0) (.Đ 1)))] [0,1]) .å) (λa b=>[À (.ê (.Ê a)),À (.ê (.Ê b))])
  (λa b _=>hR (x:= !decide (b=0)) (by simp)) (λa b h=>dT (N:=0) (n:=0) (hk:=1) (S:=[]) (os:=[]) (ŋ:=[]) (j0 _) (.Æ (c:=.Ç [.Ã,.Ê b]) h .å) _2) b.ï a.ï) λn e=>?_
 rw[show R (d+1) DD ([.Ê a,.Ê b].Ö .ê)=_ from bS (t:=Qd) rfl Î];change(XS.ex (iF d) (.while (.cmp .ne (.Đ 1) (.Ê 0)) (.Æ (.par Ä [(.ê (.Đ 1)),(.ê (.bin .mod (.Đ 0) (.Đ 1)))] [0,1]) .å)) [À (.ê (.Ê a.ï)),À (.ê (.Ê b.ï))]>>=_)>>=Cf=_;rw[hQ Î e];rfl
def AB(q:ñ):D:=.Ç [.Ê q.õ,.Ê q.þ]
noncomputable def bd(k:Ï)(q:ñ):Prop:=q.õ.ï<2^k/\q.þ<2^k
def p2(h:a<=b):(2:Ï)^a<=2^b:=Ï.pow_le_pow_right _0 h
def aM{a:ä}{k:Ï}(h:a.ï<2^k)(hk:k<=8000):sm a=Ä:=by
 unfold sm;show Ă (ce h (p2 hk))
def dU(h:sm b=Ä)(c:a.ï<=b.ï):sm a=Ä:=by
 unfold sm at h⊢;show Ă (i9 c (Ø h))
def ÀT{j k:Ï}(h:a.ï<2^j)(c:b.ï<2^k)(d:j<=8000)(hk:k<=8000):AX a b=Ä:=by
 unfold AX;rw[aM h d,aM c hk];rfl
def bd.le(h:bd j q)(hk:j<=k):bd k q:={ce h.1 (p2 hk),ce h.2 (p2 hk)}
def pb(a b:ä)(h:b≠0):(wv a b).õ.ï<=a.ï/\(wv a b).þ<=b.ï:=by
 rw[ñ.num_divInt,ñ.den_divInt,ß h];show{?_,Ï.div_le_self _ _};have c:(b.sign*a/(b.gcd a)).ï<=(b.sign*a).ï:=ä.natAbs_ediv_le_natAbs _ _;show ac c ?_;rw[nw,ä.natAbs_sign_of_ne_zero h,TW];show a3 _
def eL(c:a.ï<2^j)(d:b.ï<2^j)(h:b≠0):bd j (wv a b):=
 {i9 (pb a b h).1 c,i9 (pb a b h).2 d}
def rG{a b g:ä}(e:b≠0)(i:g∣a)(d:0<g)(h:g∣b):(if 0<b then a.ī g else a.ī (-g))=b.sign*a/g/\(if 0<b then b.ī g else b.ī (-g))=(b.ï/g.ï:Ï):=by
 exists a b g,e i d h;obtain⟨k,Î⟩:=i;obtain⟨m,Î⟩:=h;exists k m,e;have c:g≠0:=X4 d;have n:=Yy.ĝ c;have j:(g*k).ī (-g)= -k:=by
  rw[show g*k=(-g)*(-k) by rw[ä.neg_mul_neg],t3 _ n]
 have l:(g*m).ī (-g)= -m:=by
  rw[show g*m=(-g)*(-m) by rw[ä.neg_mul_neg],t3 _ n]
 have o:(g*m).ï/g.ï=m.ï:=by
  rw[nw,V8 _ (ZM.ĝ c)]
 rw[j,l,o,t3 _ c,t3 _ c];split
 ·rename_i h;have f:0<m:=ä.pos_of_mul_pos_left (X5 g m▸h) d;rw[ä.sign_eq_one_of_pos h,R8,YY _ c];show{Î,(UV (YL f)).symm}
 ·rename_i h;have p:g*m<0:=(ä.lt_or_eq_of_le (Yp.mp h)).Ŏ e;have f:m<=0:=Yp.mp λq=>h (ä.mul_pos d q);rw[ä.sign_eq_neg_one_of_neg p,show -1*(g*k)=g*(-k) by rw[ä.mul_neg,ä.neg_mul,R8],YY _ c];show{Î,(Uf f).symm}
def hS{a b:ä}(h:b≠0):(0:ä)<pi a b/\(pi a b:ä).ï<=b.ï:=
 {Yz.ĝ (Yk a h),Ï.le_of_dvd (ZM.ĝ h) (Ï.gcd_dvd_right ..)}
def ke{a b:ä}(h:b≠0):(ā.Ç [.Ê (if 0<b then a.ī (pi a b) else a.ī (-(pi a b))),.Ê (if 0<b then b.ī (pi a b) else b.ī (-(pi a b)))])=AB (wv a b):=by
 exists a b,h;have g:(0:ä)<(pi a b):=(hS h).1;show aj (rG h (ä.gcd_dvd_left ..) g (ä.gcd_dvd_right ..)) λc d=>?_;rw[c,d];unfold AB;rw[ñ.num_divInt,ñ.den_divInt,ß h,ä.gcd_comm b a];rfl
def bT(a b:ä)(d:b≠0)(s:sm b=Ä):Ó 3 By [.Ê a,.Ê b] (AB (wv a b)):=by
 exists a b,d s;have g:(pi a b:ä)≠0:=X4 (hS d).1;have l:=(hS (a:=a) d).2;rw[<-ke d];by_cases h:0<b
 ·rw[à h,à h];have e:Hc 1 (.Ç [.Ê (pi a b:ä)]):={g,dU s l};show sr (N:=1) (k:=2) (n:=0) (hk:=1) (S:=[DD]) (os:=[.Ù Å,.Ù Ä,.Ê (pi a b)]) (ŋ:=[]) (.Æ e (.Æ e (.Æ (c:=.É [.Ý DD,.É [.Ê a,.Ê b],.Ê (pi a b)]) (cD a b) (.Æ (c:=.É [.Ù (decide (b>0)),.Ù Ä]) (Ă h) (.Æ (c:=.É [.Ù (decide (b=0)),.Ù Å]) (û d) .å))))) _2
 ·rw[ß h,ß h];have e:Hc 1 (.Ç [.Ê (0 -(pi a b:ä))]):={λq=>g (Zv.mp ((J3 _).symm.Ð q)),dU s (by rw[J3,U0];show l)};rw[<-J3];show sr (N:=1) (k:=2) (n:=0) (hk:=1) (S:=[DD]) (os:=[.Ù Å,.Ù Å,.Ê (pi a b)]) (ŋ:=[]) (.Æ e (.Æ e (.Æ (c:=.É [.Ý DD,.É [.Ê a,.Ê b],.Ê (pi a b)]) (cD a b) (.Æ (c:=.É [.Ù (decide (b>0)),.Ù Å]) (û h) (.Æ (c:=.É [.Ù (decide (b=0)),.Ù Å]) (û d) .å))))) _2
def bt(a b:ä)(g:b≠0)(s:sm b=Ä):Ó 1 Aq [.Ê a,.Ê b] (AB (wv a b)):=λd i=>by
 exists a b d,g s i;obtain⟨d,Î⟩:=eD i;have j:(pi a b:ä)≠0:=X4 (hS g).1;have l:=(hS (a:=a) g).2;show ao (kd (iF d) (.cmp .gt (.Đ 3) (.Ê 0)) (.Æ (.par Ä [(.ê (.Đ 3)),(.ê (.bin .mod (.Đ 2) (.Đ 3)))] [2,3]) .å) (λx y=>[À (.ê (.Ê a)),À (.ê (.Ê b)),À (.ê (.Ê x)),À (.ê (.Ê y))])
  (λx y h=>hR (Ł.ĝ ({X4,λq=>ZH.ĝ {h,S4 q}}))) (λx y h=>dT (N:=0) (n:=0) (hk:=1) (S:=[]) (os:=[]) (ŋ:=[]) (j0 _) (.Æ (c:=.Ç [.Ã,.Ê y]) h .å) _2) b.ï a.ï) λn e=>?_
 rw[show R (d+1) Aq ([.Ê a,.Ê b].Ö .ê)=_ from bS (t:=HJ) rfl Î];change(XS.ex (iF d) (.while (.cmp .gt (.Đ 3) (.Ê 0)) (.Æ (.par Ä [(.ê (.Đ 3)),(.ê (.bin .mod (.Đ 2) (.Đ 3)))] [2,3]) .å)) [À (.ê (.Ê a)),À (.ê (.Ê b)),À (.ê (.Ê a.ï)),À (.ê (.Ê b.ï))]>>=_)>>=Cf=_;rw[hQ Î e,<-ke g];change Bc.ex (iF d) (.Æ (.Bk 2 (.ő (.cmp .gt (.Đ 1) (.Ê 0)) (.Đ 2) (.bin .Ž (.Ê 0) (.Đ 2)))) (.Æ (.Ũ (.tup (.Æ (.bin .ī (.Đ 0) (.Đ 2)) (.Æ (.bin .ī (.Đ 1) (.Đ 2)) .å)))) .å)) [À (.ê (.Ê a)),À (.ê (.Ê b)),À (.ê (.Ê (pi a b))),À (.ê (.Ê 0))]>>=Cf=_;by_cases h:0<b
 ·rw[à h,à h];have f:Hc 0 (.Ç [.Ê (pi a b:ä)]):={j,dU s l};rw[dT (n:=0) (hk:=1) (S:=[]) (os:=[.Ù Ä]) (ŋ:=[]) (r:=([À (.ê (.Ê a)),À (.ê (.Ê b)),À (.ê (.Ê (pi a b))),À (.ê (.Ê 0))],À (.Ç [.Ê (a.ī (pi a b)),.Ê (b.ī (pi a b))]))) (j0 _) (.Æ f (.Æ f (.Æ (c:=.É [.Ù (decide (b>0)),.Ù Ä]) (Ă h) .å))) _2];rfl
 ·rw[ß h,ß h];have f:Hc 0 (.Ç [.Ê (0 -(pi a b:ä))]):={λq=>j (Zv.mp ((J3 _).symm.Ð q)),dU s (by rw[J3,U0];show l)};rw[<-J3];rw[dT (n:=0) (hk:=1) (S:=[]) (os:=[.Ù Å]) (ŋ:=[]) (r:=([À (.ê (.Ê a)),À (.ê (.Ê b)),À (.ê (.Ê (0 -(pi a b:ä)))),À (.ê (.Ê 0))],À (.Ç [.Ê (a.ī (0 -(pi a b:ä))),.Ê (b.ī (0 -(pi a b:ä)))]))) (j0 _) (.Æ f (.Æ f (.Æ (c:=.É [.Ù (decide (b>0)),.Ù Å]) (û h) .å))) _2];rfl
section
variable{a b:Rat}{j k:Nat}
def aB(a:ñ):(a.þ:ä)≠0:=U9.ĝ a.den_nz
def kf(a b:ñ):a+b=wv (a.õ*b.þ+b.õ*a.þ) (a.þ*b.þ):=by
 conv=>lhs;rw[<-sB a,<-sB b]
 show XV _ _ (aB a) (aB b)
def fe(a b:ñ):a*b=wv (a.õ*b.õ) (a.þ*b.þ):=by
 conv=>lhs;rw[<-sB a,<-sB b]
 show W9 _ _
def gz(a b:ñ):a/b=wv (a.õ*b.þ) (a.þ*b.õ):=by
 rw[Yt,ñ.inv_def];conv=>lhs;rw[<-sB a]
 show W9 _ _
def fg:b.õ≠0↔b≠0:=not_congr TD
def ÀW(h:x<2^j)(c:y<2^k):x*y<2^(j+k):=by
 rw[Ï.pow_add];show Ï.mul_lt_mul'' h c
def bd.ŧ(h:bd j a)(c:bd k b):bd (j+k+1) (a+b):=by
 rw[kf];have d:(a.õ*b.þ).ï<2^(j+k):=by rw[nw];show ÀW h.1 c.2
 have e:(b.õ*a.þ).ï<2^(j+k):=by rw[nw,lc];show ÀW c.1 h.2
 have f:((a.þ:ä)*b.þ).ï<2^(j+k):=by rw[nw];show ÀW h.2 c.2
 have:=ä.natAbs_add_le (a.õ*b.þ) (b.õ*a.þ);show eL (by rw[X0];show ln3 this e d) (by rw[X0];show ln1 f) (pc (aB a) (aB b))
def bd.ļ(h:bd j a)(c:bd k b):bd (j+k) (a*b):=by
 rw[fe];show eL (by rw[nw];show ÀW h.1 c.1) (by rw[nw];show ÀW h.2 c.2) (pc (aB a) (aB b))
def bd.neg(h:bd j a):bd j (-a):={by rw[ñ.neg_num,U0];show h.1,h.2}
def bd.div(c:bd j a)(d:bd k b):bd (j+k) (a/b):=by
 by_cases h:b=0
 ·subst h;have e:a/0=0:=by rw[Yt,acp,M1]
  rw[e];show{V7 _,i9 (Ï.mul_pos a.den_pos (Ï.zero_lt_one)) (ÀW c.2 d.2)}
 rw[gz];show eL (by rw[nw];show ÀW c.1 d.2) (by rw[nw];show ÀW c.2 d.1) (pc (aB a) (fg.ĝ h))
def dV(k:Ï):bd (k+1) 0:={V7 _,by change 1<_;rw[X0];have:=V7 k;show ln2 this this}
def kg(k:Ï):bd (k+1) 1:={by change 1<_;rw[X0];have:=V7 k;show ln2 this this,by change 1<_;rw[X0];have:=V7 k;show ln2 this this}
def mNN(c:bd j a)(d:bd k b)(h:j+k<=8000):AX a.õ b.õ=Ä:=ÀT c.1 d.1 (ac (bv ..) h) (ac (f3 ..) h)
def mND(c:bd j a)(d:bd k b)(h:j+k<=8000):AX a.õ b.þ=Ä:=ÀT c.1 d.2 (ac (bv ..) h) (ac (f3 ..) h)
def mDN(c:bd j a)(d:bd k b)(h:j+k<=8000):AX a.þ b.õ=Ä:=ÀT c.2 d.1 (ac (bv ..) h) (ac (f3 ..) h)
def mDD(c:bd j a)(d:bd k b)(h:j+k<=8000):AX a.þ b.þ=Ä:=ÀT c.2 d.2 (ac (bv ..) h) (ac (f3 ..) h)
def zh(c:bd j a)(d:bd k b)(h:j+k<=8000):sm (a.þ*b.þ)=Ä:=aM (by rw[nw];show ÀW c.2 d.2) h
def dA(d:bd j a)(e:bd k b)(h:j+k<=8000):Ó 5 Dj [AB a,AB b] (AB (a+b)):=by
 have r:=bT (a.õ*b.þ+b.õ*a.þ) (a.þ*b.þ) (pc (aB a) (aB b)) (zh d e h);rw[<-kf] at r;show sr (n:=0) (hk:=1) (S:=[By]) (os:=[AB (a+b)]) (ŋ:=[]) (.Æ (c:=.É [.Ý By,.É [.Ê _,.Ê _],AB (a+b)]) r (.Æ (c:=.Ç [.Ê _,.Ê _]) (mDD d e h) (.Æ (c:=.Ç [.Ê _,.Ê _]) (mND e d (lc j k▸h)) (.Æ (c:=.Ç [.Ê _,.Ê _]) (mND d e h) .å)))) _2
def dB(d:bd j a)(e:bd k b)(h:j+k<=8000):Ó 5 BP [AB a,AB b] (AB (a*b)):=by
 have r:=bT (a.õ*b.õ) (a.þ*b.þ) (pc (aB a) (aB b)) (zh d e h);rw[<-fe] at r;show sr (n:=0) (hk:=1) (S:=[By]) (os:=[AB (a*b)]) (ŋ:=[]) (.Æ (c:=.É [.Ý By,.É [.Ê _,.Ê _],AB (a*b)]) r (.Æ (c:=.Ç [.Ê _,.Ê _]) (mDD d e h) (.Æ (c:=.Ç [.Ê _,.Ê _]) (mNN d e h) .å))) _2
def oa(d:bd j a)(e:bd k b)(h:j+k<=8000)(f:b≠0):Ó 5 Fw [AB a,AB b] (AB (a/b)):=by
 have r:=bT (a.õ*b.þ) (a.þ*b.õ) (pc (aB a) (fg.ĝ f)) (aM (by rw[nw];show ÀW d.2 e.1) h);rw[<-gz] at r;show sr (n:=0) (hk:=1) (S:=[By]) (os:=[AB (a/b)]) (ŋ:=[]) (.Æ (c:=.É [.Ý By,.É [.Ê _,.Ê _],AB (a/b)]) r (.Æ (c:=.Ç [.Ê _,.Ê _]) (mDN d e h) (.Æ (c:=.Ç [.Ê _,.Ê _]) (mND d e h) .å))) _2
def ob(a:ñ):Ó 5 Fx [AB a] (AB (-a)):=by
 rw[show AB (-a)= .Ç [.Ê (0 -a.õ),.Ê a.þ] by rw[J3];rfl];show sr (N:=3) (n:=0) (hk:=1) (S:=[By]) (os:=[]) (ŋ:=[]) .å _2
def oc(d:bd j a)(h:j<=8000)(e:a≠0):Ó 5 Fy [AB a] (AB a⁻¹):=by
 have r:=bT a.þ a.õ (fg.ĝ e) (aM d.1 h);rw[<-ñ.inv_def] at r;show sr (n:=0) (hk:=1) (S:=[By]) (os:=[AB a⁻¹]) (ŋ:=[]) (.Æ (c:=.É [.Ý By,.É [.Ê _,.Ê _],AB a⁻¹]) r .å) _2
def eo(c:bd j a)(h:j<=8000):Ó 5 By [.Ê a.õ,.Ê a.þ] (AB a):=λd e=>by
 have r:=bT a.õ a.þ (aB a) (aM (by simpa using c.2) h) d (aQ e);rw[sB] at r;show r
end
end
section
abbrev cF(f:Þ)(l:Â D)(v:D):D:=.É [.Ý f,.É l,v]
abbrev cB(b o:é):D:=.É [.Ù b,.Ù o]
abbrev DA(a b:ä):D:=.Ç [.Ê a,.Ê b]
def af(h:(a&&b)=Ä):a=Ä:=(im.mp h).1
def ae(h:(a&&b)=Ä):b=Ä:=(im.mp h).2
def aa{N M:Ï}(h:Ó N f l v)(a:N<=M):Ó M f l v:=λd b=>h d (ac a b)
abbrev PE:=Lean.Grind.CommRing.ý
abbrev CQ:=N7 ñ
abbrev dn(c:CQ)(e:PE):ñ:=W3 c e
def GL(a b:PE):é:=a.toPoly==b.toPoly
def cz(h:GL a b=Ä):dn c a=dn c b:=Ix c a b h
def ay(c:CQ)(k:ä):dn c (.õ k)=k:=P3 k
def NQ:D->Â D
 | .É [_,v]=>[v]
 | .É [_,_,v]=>[v]
 | .Ç [_,_,_,v]=>[v]
 |_=>[]
def AR{α b:Type}(f:α->b):Â α->Â b
 |[]=>[]
 |a::l=>f a::AR f l
def ah{l:Â α}(h:AR f l=l.Ö g):∀a∈l,f a=g a:=by
 induction l with
 |å=>show nl
 |Æ b l i=>
  have h:=Â.Æ.inj h;intro a ha;rcases a5.mp ha with rfl|ha
  ·show h.1
  ·show i h.2 a ha
def Ce:PE->PE->é
 | .Đ i,.Đ j=>pp i j
 | .õ k,.õ l=>decide (k=l)
 | .neg a,.neg b=>Ce a b
 | .ŧ a b,.ŧ c d=>Ce a c&&Ce b d
 | .ļ a b,.ļ c d=>Ce a c&&Ce b d
 |_,_=>Å
def bU(a:PE):∀b,Ce a b=Ä->dn c a=dn c b:=by
 induction a with
 |Đ i=>intro b h;cases b<;>first|show fT h|rw[l0 h]
 |õ k=>intro b h;cases b<;>first|show fT h|rw[Ø h]
 |neg a d=>intro b h;cases b<;>first|show fT h|show â (- ·) (d _ h)
 |ŧ a b d f=>intro e h;cases e<;>first|show fT h|(change dn c a+dn c b=_;rw[d _ (af h),f _ (ae h)];rfl)
 |ļ a b d f=>intro e h;cases e<;>first|show fT h|(change dn c a*dn c b=_;rw[d _ (af h),f _ (ae h)];rfl)
 |_=>intro b h;show fT h
inductive FQ where
 |o
 |i
 |v(n d:PE)
noncomputable def FQ.n:FQ->PE
 | .o=>.õ 0
 | .i=>.õ 1
 | .v n _=>n
noncomputable def FQ.d:FQ->PE
 | .v _ d=>d
 |_=>.õ 1
def Bz(c:CQ)(a:FQ):ñ:=dn c a.n/dn c a.d
def GV:PE->é
 | .õ k=>decide (k=1)
 |_=>Å
def Dw(p q:PE):PE:=bif GV p then q else bif GV q then p else .ļ p q
def Kh:FQ->FQ->FQ
 | .o,b=>b
 |a,.o=>a
 |a,b=>bif Ce a.d b.d then .v (.ŧ a.n b.n) a.d else .v (.ŧ (Dw a.n b.d) (Dw b.n a.d)) (Dw a.d b.d)
def Lw:FQ->FQ
 | .o=>.o
 |a=>.v (.neg a.n) a.d
def EV:FQ->FQ->FQ
 | .o,_=>.o
 |_,.o=>.o
 | .i,b=>b
 |a,.i=>a
 |a,b=>bif Ce a.n b.d&&Ce a.d b.n then .i else .v (Dw a.n b.n) (Dw a.d b.d)
def FR:FQ->FQ
 | .v n d=>.v d n
 |a=>a
def Lx(a b:FQ):FQ:=EV a (FR b)
def Kv(B:Ï):PE->Ï
 | .Đ i=>bif J0 i 9 then B else 9999
 | .neg a=>Kv B a
 | .ŧ a b=>Kv B a+Kv B b+1
 | .Ž a b=>Kv B a+Kv B b+1
 | .ļ a b=>Kv B a+Kv B b
 | .õ k=>k.ï+1
 |_=>9999
def Uw(B:Ï)(a:FQ):é:=s4 (Kv B a.n+Kv B a.d) 2600
def Ux(ns:Â FQ)(e:PE):é:=Ce e (.õ 1)||ns.any λf=>Ce e f.n
def Mc(ns:Â FQ):PE->é
 | .ļ a b=>Ux ns (.ļ a b)||(Mc ns a&&Mc ns b)
 | .neg a=>Mc ns a
 |e=>Ux ns e
def Md:PE->ä
 | .Đ i=>[3,7,19,5,23,11,41,2].ø i 1
 | .õ k=>k
 | .neg a=> -Md a
 | .ŧ a b=>Md a+Md b
 | .Ž a b=>Md a -Md b
 | .ļ a b=>Md a*Md b
 |_=>0
def Qy(a b:PE):é:=decide (Md a=Md b)&&GL a b
def NR(a f:FQ):é:=Qy (.ļ a.n f.d) (.ļ f.n a.d)
def Uy(z ns:Â FQ)(a:FQ):é:=z.any (λf=>Ce a.n f.n)||(Qy a.n (.õ 0)||z.any λf=>Mc ns f.d&&NR a f)
def Pn(ns:Â FQ)(a:FQ):é:=Mc ns a.n||(Mc ns a.d&&ns.any (NR a))
def rH(h:a+b+1<=n):a<=n:=ac (ac (bv ..) (v3 _)) h
def ju(h:a+b+1<=n):b<=n:=ac (ac (f3 ..) (v3 _)) h
structure Kn(c:CQ)(B:Ï)(s ns:Â FQ):Prop where
 z:∀f∈s,dn c f.n=0
 n:∀f∈ns,dn c f.n≠0
 b:∀i,i<9->bd B (c.ĵ i)
section
variable{c:CQ}{B:Nat}{zs ns:List FQ}(w:Kn c B zs ns)
include w
def cO(e:PE):Mc ns e=Ä->dn c e≠0:=by
 have s:∀{e},Ux ns e=Ä->dn c e≠0:=λ{e} h=>by
  rcases g4.mp h with h|h
  ·rw[bU _ _ h,ay];show(by decide+kernel:((1:ä):ñ)≠0)
  ·show ag (ms.mp h) λf d q=>?_;rw[bU _ _ q];show w.n f d
 induction e with
 |ļ a b i g=>show λh=>(g4.mp h).ç s λh q=>(TE.mp q).ç (i (af h)) (g (ae h))
 |neg a i=>show λh q=>i h (by rw[<-ñ.neg_neg (dn c a)];show(â (- ·) q).Ð acn)
 |_=>show s
def od(h:Uy zs ns a=Ä):dn c a.n=0:=by
 rcases g4.mp h with h|h
 ·show ag (ms.mp h) λf b q=>?_;rw[bU _ _ q];show w.z f b
 ·rcases g4.mp h with h|h
  ·rw[cz (ae h),ay];rfl
  ·show ag (ms.mp h) λf b q=>?_;have e:dn c a.n*dn c f.d=dn c f.n*dn c a.d:=cz (ae (ae q));rw[w.z f b,Q6] at e;show(TE.mp e).Ŏ (cO w _ (af q))
def cq(h:Pn ns a=Ä):dn c a.n≠0:=by
 rcases g4.mp h with h|h
 ·show cO w _ h
 ·show ag (ms.mp (ae h)) λf e q=>?_;intro z;have b:dn c a.n*dn c f.d=dn c f.n*dn c a.d:=cz (ae q);rw[z,Q6] at b;show(TE.mp b.symm).ç (w.n f e) (cO w _ (af h))
def fJ(e:PE):Kv B e<=9000->bd (Kv B e) (dn c e):=by
 induction e with
 |Đ i=>
  intro h;by_cases q:i<9
  ·change bd (bif J0 i 9 then B else 9999) (c.ĵ i);rw[show J0 i 9=Ä from l4 q];show w.b i q
  ·have h:(bif J0 i 9 then B else 9999)<=9000:=h;rw[show J0 i 9=Å from AT.ĝ λz=>q (be z)] at h;show absurd h (show ¬9999<=9000 by decide)
 |neg a d=>show λh=>(d h).neg
 |ŧ a g d f=>show λh=>(d (rH h)).ŧ (f (ju h))
 |Ž a g d f=>
  intro h;change bd _ (dn c a -dn c g);rw[Op];show(d (rH h)).ŧ (f (ju h)).neg
 |ļ a g d f=>show λh=>(d (ac (bv _ _) h)).ļ (f (ac (f3 _ _) h))
 |õ k=>
  intro _;rw[ay];show{ce Yu (p2 (v3 _)),ce (show 1<2^1 by decide) (p2 (ol (j0 _)))}
 |_=>show λh=>absurd h (show ¬9999<=9000 by decide)
def pd(h:Uw B a=Ä):bd 2600 (Bz c a):=by
 have h:=be h;show((fJ w a.n (ac (ac (bv ..) h) _0)).div (fJ w a.d (ac (ac (f3 ..) h) _0))).le h
end
end
section
section
variable{c:CQ}
def cP(p q:PE):dn c (Dw p q)=dn c p*dn c q:=by
 have o:∀{p:PE},GV p=Ä->dn c p=1:=λ{p} h=>by
  cases p<;>first|show fT h|(rw[Ø h,ay];rfl)
 unfold Dw;cases h:GV p with
 |Ä=>rw[o h];show(A1 _).symm
 |Å=>
  cases k:GV q with
  |Ä=>rw[o k];show(Ys _).symm
  |Å=>rfl
def ct:Bz c .o=0:=by
 change dn c (.õ 0)/_=_;rw[ay];show Q6 _
def cY:Bz c .i=1:=by
 change dn c (.õ 1)/dn c (.õ 1)=_;rw[ay];decide+kernel
def dv(a b:ñ):a/b=a*b⁻¹ :=Yt a b
def cx{p q r:ñ}(h:q≠0):p*q*(q⁻¹ *r)=p*r:=by
 rw[L9,<-L9 q,Z4 q h,A1]
def kh(e:dn c a.d≠0)(f:dn c b.d≠0):Bz c (Kh a b)=Bz c a+Bz c b:=by
 have g:∀{a b:FQ},dn c a.d≠0->dn c b.d≠0->Bz c (bif Ce a.d b.d then .v (.ŧ a.n b.n) a.d else .v (.ŧ (Dw a.n b.d) (Dw b.n a.d)) (Dw a.d b.d))=Bz c a+Bz c b:=λ{a b} e f=>by
  cases h:Ce a.d b.d with
  |Ä=>
   change(dn c a.n+dn c b.n)/dn c a.d=dn c a.n/dn c a.d+dn c b.n/dn c b.d;rw[<-bU _ _ h,dv,dv,dv,ZR]
  |Å=>
   change(dn c (Dw a.n b.d)+dn c (Dw b.n a.d))/dn c (Dw a.d b.d)=dn c a.n/dn c a.d+dn c b.n/dn c b.d;rw[cP,cP,cP,dv,dv,dv,Zp,ZR,cx f,YE (dn c b.d)⁻¹,cx e]
 cases a with
 |o=>rw[ct,I3];rfl
 |i=>
  cases b with
  |o=>rw[ct,Db];rfl
  |_=>show g e f
 |v j k=>
  cases b with
  |o=>rw[ct,Db];rfl
  |_=>show g e f
def pe(a:FQ):Bz c (Lw a)= -Bz c a:=by
 have g:∀a,Bz c (.v (.neg a.n) a.d)= -Bz c a:=λa=>by
  change -(dn c a.n)/dn c a.d= -(dn c a.n/dn c a.d);rw[dv,dv,ñ.neg_mul]
 cases a with
 |o=>rw[ct];show ct.Ð acn.symm
 |_=>show g _
def lH{p r:ñ}(h:r≠0):p*r⁻¹ *(r*p⁻¹)=p*p⁻¹ :=by
 rw[L9,<-L9 r⁻¹,Z5 r h,A1]
def fh(k:dn c a.d≠0)(j:dn c b.d≠0):Bz c (EV a b)=Bz c a*Bz c b:=by
 cases a with
 |o=>rw[ct,Q6];show ct
 |i=>
  cases b with
  |o=>rw[ct,M1];show ct
  |i=>show cY.Ð (by rw[cY,A1])
  |v=>rw[cY,A1];rfl
 |v n e=>
  cases b with
  |o=>rw[ct,M1];show ct
  |i=>rw[cY,Ys];rfl
  |v f g=>
   change Bz c (bif Ce n g&&Ce e f then FQ.i else .v (Dw n f) (Dw e g))=dn c n/dn c e*(dn c f/dn c g);cases h:Ce n g&&Ce e f with
   |Ä=>
    have j:dn c g≠0:=j;have k:dn c e≠0:=k;rw[<-bU _ _ (af h)] at j;rw[<-bU _ _ (af h),<-bU _ _ (ae h)];generalize dn c n=p,dn c e=r at*;show cY.Ð ?_;rw[dv,dv,lH k,Z4 p j]
   |Å=>
    change dn c (Dw n f)/dn c (Dw e g)=_;rw[cP,cP];rw[dv,dv,dv,Zp,YE (dn c g)⁻¹,L9,L9,<-L9 (dn c f),YE (dn c f),L9]
def gA(a:FQ):Bz c (FR a)=(Bz c a)⁻¹ :=by
 cases a with
 |o=>rw[ct,acp];show ct
 |i=>rw[cY];show cY.Ð (by decide+kernel)
 |v n d=>
  change dn c d/dn c n=(dn c n/dn c d)⁻¹;rw[dv,dv,Zp,ñ.inv_inv]
def ki(h:dn c b.n≠0)(a:dn c b.d≠0):dn c (FR b).d≠0:=by
 cases b with
 |v=>show h
 |_=>show a
def pf(h:dn c a.d≠0)(e:dn c b.d≠0)(f:dn c b.n≠0):Bz c (Lx a b)=Bz c a/Bz c b:=by
 unfold Lx;rw[fh h (ki f e),gA];rfl
def da{a:FQ}(h:dn c a.d≠0):Bz c a=0↔dn c a.n=0:=by
 unfold Bz;rw[dv,TE];show{λq=>q.Ŏ λz=>h ?_,.Ę};rw[<-ñ.inv_inv (dn c a.d),z,acp]
def xm(a:FQ):dn c (Lw a).d=dn c a.d:=by cases a<;>rfl
def xn(h:dn c a.d≠0)(j:dn c b.d≠0):dn c (EV a b).d≠0:=by
 have f:dn c (.õ 1)≠0:=by rw[ay];decide+kernel
 cases a with
 |o=>show f
 |i=>cases b<;>show j
 |v n g=>cases b with
  |o=>show f
  |i=>show h
  |v m e=>
   change dn c (bif Ce n e&&Ce g m then FQ.i else .v (Dw n m) (Dw g e)).d≠0;cases Ce n e&&Ce g m with
   |Ä=>show f
   |Å=>show λq=>(TE.mp ((cP _ _).symm.Ð q)).ç h j
def xo(h:dn c a.d≠0)(e:dn c b.d≠0):dn c (Kh a b).d≠0:=by
 have g:∀{a b:FQ},dn c a.d≠0->dn c b.d≠0->dn c (bif Ce a.d b.d then FQ.v (.ŧ a.n b.n) a.d else .v (.ŧ (Dw a.n b.d) (Dw b.n a.d)) (Dw a.d b.d)).d≠0:=λ{a b} h e=>by
  cases Ce a.d b.d with
  |Ä=>show h
  |Å=>show λq=>(TE.mp ((cP _ _).symm.Ð q)).ç h e
 cases a with
 |o=>show e
 |_=>cases b with
  |o=>show h
  |_=>show g h e
end
def uv(x y z:ñ):wv (x.õ*y.þ*z.þ -x.þ*y.õ*z.õ) (x.þ*y.þ*z.þ)=x+ -(y*z):=by
 exists x y z,no;have e: -(y*z)=wv (-(y.õ*z.õ)) (y.þ*z.þ):=by rw[fe,ñ.neg_divInt]
 rw[e];conv=>rhs;rw[<-sB x]
 rw[XV _ _ (aB x) (pc (aB y) (aB z))];congr 1
 ·rw[ä.neg_mul,<-ä.sub_eq_add_neg,Y9,X5 (y.õ*z.õ),Y9]
 ·rw[Y9]
def aP{a b c:ä}(d:a.ï<2^2600)(e:b.ï<2^2600)(f:c.ï<2^2600):AX a b=Ä/\AX (a*b) c=Ä/\sm (a*b)=Ä/\sm (a*b*c)=Ä:=by
 have h:(a*b).ï<2^(2600+2600):=by rw[nw];show ÀW d e
 have g:(a*b*c).ï<2^(2600+2600+2600):=by rw[nw];show ÀW h f
 show{ÀT d e _0 _0,ÀT h f _0 _0,aM h _0,aM g _0}
def kj{a:ñ}:decide (a.õ=0)=decide (a=0):=Ł.ĝ TD
def uw{a:ñ}:(decide (a.õ=1)&&(decide ((a.þ:ä)=1)&&Ä))=decide (a=1):=by
 rw[Yl,<-YC];show Ł.ĝ {λh=>ñ.ext h.1 (by have:=h.2;change a.þ=1;lia),λh=>by subst h;show{Î,Î}}
def ux{a:ñ}:(decide (a.õ=0)&&(decide ((a.þ:ä)=1)&&Ä))=decide (a=0):=by
 rw[Yl,<-YC];show Ł.ĝ {λh=>TD.mp h.1,λh=>by subst h;show{Î,Î}}
def iO(h:a≠0):Ó 1 Dm [AB a] (.Ç [.É [AB a],.É [.Ç [.Ê 1,.Ê 1]]]):=λd b=>by
 exists a d,h b;obtain⟨d,Î⟩:=eD b;exists d,b;have e:f2 (AB a) (.Ç [.Ê 0,.Ê 1])=Å:=ux.Ð (û h);rw[show R (d+1) Dm ([AB a].Ö .ê)=_ from bS (t:=J_) rfl Î];have c:(XE.ő (.cmp .eq (.Đ 0) (.glob Ow)) (.É .å) (.É (.Æ (.Đ 0) .å))).ev (iF d) [À (.ê (AB a))]=Ñ (.É [AB a]):=by
  change(Ñ (.Ù (f2 (AB a) (.Ç [.Ê 0,.Ê 1])))>>=Aw>>= λt=>if t then _ else _)=_;rw[e];rfl
 change((((XE.ő (.cmp .eq (.Đ 0) (.glob Ow)) (.É .å) (.É (.Æ (.Đ 0) .å))).ev (iF d) [À (.ê (AB a))]>>=_)>>=Mq)>>=_>>=_)>>=Cf=_;rw[c];rfl
def aG(h:bd k a):(a.þ:ä).ï<2^k:=h.2
end
section
inductive AQ
 |ad(a b:FQ)|mu(a b:FQ)|dv(a b:FQ)|ng(a:FQ)|DN(a:FQ)|rt(a:FQ)
 |ze(a:FQ)(t:é)|zn(a:FQ)(t:é)|on(a:FQ)(t:é)|qz(a:FQ)(t:é)
 |ld(a b:FQ)|ls(x y t:FQ)|fn(a:FQ)|bo(b:é)|tm(a b:ä)|td(b:ä)|tv(b:ä)|rc(a b c d:ä)
abbrev Fr:=(FQ->ä)×(FQ->ä)
def Dl(r:Fr):FQ->ä
 | .o=>0
 | .i=>1
 |a=>r.1 a
def Cv(r:Fr):FQ->ä
 | .v n d=>r.2 (.v n d)
 |_=>1
def Jk(r:Fr)(a:FQ):D:=.Ç [.Ê (Dl r a),.Ê (Cv r a)]
def Sd(x y t:FQ):FQ:=Kh x (Lw (EV y t))
noncomputable def AQ.d(r:Fr):AQ->Â D
 | .ad a b=>[cF Dj [Jk r a,Jk r b] (Jk r (Kh a b))]
 | .mu a b=>[cF BP [Jk r a,Jk r b] (Jk r (EV a b))]
 | .dv a b=>[cF Fw [Jk r a,Jk r b] (Jk r (Lx a b))]
 | .ng a=>[cF Fx [Jk r a] (Jk r (Lw a))]
 | .DN a=>[cF Fy [Jk r a] (Jk r (FR a))]
 | .rt a=>[cF By [.Ê (Dl r a),.Ê (Cv r a)] (Jk r a)]
 | .ze a t=>[cB (decide (Dl r a=0)) t]
 | .zn a t=>[cB (!decide (Dl r a=0)) t]
 | .on a t=>[cB (decide (Dl r a=1)&&(decide (Cv r a=1)&&Ä)) t]
 | .qz a t=>[cB (!(decide (Dl r a=0)&&(decide (Cv r a=1)&&Ä))) t]
 | .ld a b=>[DA (Dl r a) (Cv r b),DA (Cv r a) (Dl r b),cF Aq [.Ê (Dl r a*Cv r b),.Ê (Cv r a*Dl r b)] (Jk r (Lx a b))]
 | .ls x y t=>[DA (Dl r x) (Cv r y),DA (Dl r x*Cv r y) (Cv r t),DA (Cv r x) (Dl r y),DA (Cv r x*Dl r y) (Dl r t),DA (Cv r x) (Cv r y),DA (Cv r x*Cv r y) (Cv r t),
   cF Aq [.Ê (Dl r x*Cv r y*Cv r t -Cv r x*Dl r y*Dl r t),.Ê (Cv r x*Cv r y*Cv r t)] (Jk r (Sd x y t))]
 | .fn a=>[cF Dm [Jk r a] (.Ç [.É (match a with
  | .o=>[]
  |_=>[Jk r a]),.É [.Ç [.Ê 1,.Ê 1]]])]
 | .bo b=>[cB b b]
 | .tm a b=>[DA a b]
 | .td b=>[.Ç [.Ê b]]
 | .tv b=>[.Ç [.Ã,.Ê b]]
 | .rc a b c d=>[cF By [.Ê a,.Ê b] (.Ç [.Ê c,.Ê d])]
def nt(h:(!b)=Ä):b=Å:=by induction b using ci<;>first|rfl|show fT h
def Hd(B:Ï)(ns:Â FQ)(a:FQ):é:=Uw B a&&Mc ns a.d
def HN(a:FQ):FQ:=Kh a (.v (.õ (-1)) (.õ 1))
def M_(z ns:Â FQ)(a:FQ)(t:é):é:=match t with
 |Ä=>Uy z ns a
 |Å=>Pn ns a
noncomputable def AQ.ok(B:Ï)(z ns:Â FQ):AQ->é
 | .ad a b=>Hd B ns a&&Hd B ns b
 | .mu a b=>Hd B ns a&&Hd B ns b
 | .dv a b=>Hd B ns a&&(Hd B ns b&&Pn ns b)
 | .ng a=>Hd B ns a
 | .DN a=>Hd B ns a&&Pn ns a
 | .rt a=>Hd B ns a
 | .ze a t=>Mc ns a.d&&M_ z ns a t
 | .zn a t=>Mc ns a.d&&M_ z ns a (!t)
 | .on a t=>Mc ns a.d&&M_ z ns (HN a) t
 | .qz a t=>Mc ns a.d&&M_ z ns a (!t)
 | .ld a b=>Hd B ns a&&(Hd B ns b&&Pn ns b)
 | .ls x y t=>Hd B ns x&&(Hd B ns y&&Hd B ns t)
 | .fn a=>match a with
  | .o=>Ä
  |a=>Mc ns a.d&&Pn ns a
 | .bo _=>Ä
 | .tm a b=>AX a b
 | .td b=> !decide (b=0)&&sm b
 | .tv b=> !decide (b=0)
 | .rc a b c d=> !decide (b=0)&&(sm b&&(decide ((wv a b).õ=c)&&decide (((wv a b).þ:ä)=d)))
def Ds(c:CQ):Fr:=(λa=>(Bz c a).õ,λa=>(Bz c a).þ)
section
variable{c:CQ}
def bu(a:FQ):Dl (Ds c) a=(Bz c a).õ:=by
 cases a with
 |o=>rw[ct];rfl
 |i=>rw[cY];rfl
 |v=>rfl
def bM(a:FQ):Cv (Ds c) a=(Bz c a).þ:=by
 cases a with
 |o=>rw[ct];rfl
 |i=>rw[cY];rfl
 |v=>rfl
def bc(a:FQ):Jk (Ds c) a=AB (Bz c a):=by unfold Jk;rw[bu,bM];rfl
variable{B:Nat}{zs ns:List FQ}(w:Kn c B zs ns)
include w
def kl(b:Mc ns a.d=Ä)(h:M_ zs ns a t=Ä):decide (Bz c a=0)=t:=by
 have z:=da (cO w _ b);cases t using ci with
 |Ä=>show Ă (z.ĝ (od w h))
 |Å=>show û λq=>cq w h (z.mp q)
def AQ.sound{N:Ï}(f:5<=N){x:AQ}(h:x.ok B zs ns=Ä):Hs (Hc N) (x.d (Ds c)):=by
 have v:∀{a},Hd B ns a=Ä->bd 2600 (Bz c a)/\dn c a.d≠0:=λh=>{pd w (af h),cO w _ (ae h)};cases x with
 |ad a b=>
  have r:=dA (v (af h)).1 (v (ae h)).1 _0;rw[<-kh (v (af h)).2 (v (ae h)).2,<-bc,<-bc,<-bc] at r;show .Æ (c:=cF _ _ _) (aa r f) .å
 |mu a b=>
  have r:=dB (v (af h)).1 (v (ae h)).1 _0;rw[<-fh (v (af h)).2 (v (ae h)).2,<-bc,<-bc,<-bc] at r;show .Æ (c:=cF _ _ _) (aa r f) .å
 |dv a b=>
  have g:=v (af (ae h));have r:=oa (v (af h)).1 g.1 _0 λq=>cq w (ae (ae h)) ((da g.2).mp q);rw[<-pf (v (af h)).2 g.2 (cq w (ae (ae h))),<-bc,<-bc,<-bc] at r;show .Æ (c:=cF _ _ _) (aa r f) .å
 |ng a=>
  have r:=ob (Bz c a);rw[<-pe,<-bc,<-bc] at r;show .Æ (c:=cF _ _ _) (aa r f) .å
 |DN a=>
  have j:=v (af h);have r:=oc j.1 _0 λq=>cq w (ae h) ((da j.2).mp q);rw[<-gA,<-bc,<-bc] at r;show .Æ (c:=cF _ _ _) (aa r f) .å
 |rt a=>
  have r:=eo (v h).1 _0;rw[<-bu,<-bM,<-bc] at r;show .Æ (c:=cF _ _ _) (aa r f) .å
 |ze a t=>
  have r:=kl w (af h) (ae h);show .Æ (c:=cB _ _) ?_ .å;rw[bu,<-r];show Ł.ĝ TD
 |zn a t=>
  have r:=kl w (af h) (ae h);show .Æ (c:=cB _ _) ?_ .å;change(!decide (Dl _ a=0))=t;rw[bu,Ł.ĝ TD,r,T3]
 |on a t=>
  show .Æ (c:=cB _ _) ?_ .å;have A:=cO w _ (af h);have m1:dn c (FQ.v (.õ (-1)) (.õ 1)).d≠0:=by change dn c (.õ 1)≠0;rw[ay];decide+kernel
  have E:Bz c (HN a)=Bz c a -1:=by
   have:Bz c (.v (.õ (-1)) (.õ 1))= -1:=by change dn c (.õ (-1))/dn c (.õ 1)=_;rw[ay,ay];decide+kernel
   unfold HN;rw[kh A m1,this,Op]
  have z:decide (Bz c (HN a)=0)=t:=by
   have k:=ae h;have u:dn c (HN a).d≠0:=xo A m1;have z:=da (c:=c) (a:=HN a) u;cases t using ci with
   |Ä=>show Ă (z.ĝ (od w k))
   |Å=>show û λq=>cq w k (z.mp q)
  rw[bu,bM,<-z,E];generalize Bz c a=x;rw[Yl,<-YC];show Ł.ĝ {λ⟨p,q⟩=>?_,λq=>?_}
  ·have:x=1:=by rw[<-sB x,p,show x.þ=1 by lia];rfl
   rw[this];decide+kernel
  ·have:x=1:=by rw[<-Z3 (a:=x) (b:=1),q];decide+kernel
   rw[this];show{Î,Î}
 |qz a t=>
  have r:=kl w (af h) (ae h);show .Æ (c:=cB _ _) ?_ .å;change(!(decide (Dl _ a=0)&&(decide (Cv _ a=1)&&Ä)))=t;have e:(decide (Dl (Ds c) a=0)&&(decide (Cv (Ds c) a=1)&&Ä))=decide (Bz c a=0):=by
   rw[bu,bM,Yl,<-YC];show Ł.ĝ {λq=>TD.mp q.1,λq=>by rw[q];show{Î,Î}}
  rw[e,r,T3]
 |ld a b=>
  have j:=(v (af h)).1;have g:=v (af (ae h));have G:=pf (v (af h)).2 g.2 (cq w (ae (ae h)));have H:Bz c b≠0:=λq=>cq w (ae (ae h)) ((da g.2).mp q);have r:=bt ((Bz c a).õ*(Bz c b).þ) ((Bz c a).þ*(Bz c b).õ) (pc (aB _) (fg.ĝ H)) (aP (aG j) g.1.1 j.1).2.2.1;rw[<-gz,<-G,<-bc,<-bu,<-bu,<-bM,<-bM] at r;show .Æ (c:=DA _ _) ?_ (.Æ (c:=DA _ _) ?_ (.Æ (c:=cF _ _ _) (aa r (aQ f)) .å))
  ·rw[bu,bM];show(aP j.1 (aG g.1) j.1).1
  ·rw[bu,bM];show(aP (aG j) g.1.1 j.1).1
 |ls x y t=>
  have s:=v (af h);have l:=v (af (ae h));have m:=v (ae (ae h));have a:=aP s.1.1 (aG l.1) (aG m.1);have b:=aP (aG s.1) l.1.1 m.1.1;have e:=aP (aG s.1) (aG l.1) (aG m.1);have r:=bt ((Bz c x).õ*(Bz c y).þ*(Bz c t).þ -(Bz c x).þ*(Bz c y).õ*(Bz c t).õ) ((Bz c x).þ*(Bz c y).þ*(Bz c t).þ) (pc (pc (aB _) (aB _)) (aB _)) e.2.2.2;have z:Bz c x+ -(Bz c y*Bz c t)=Bz c (Sd x y t):=by
   unfold Sd;have u:dn c (Lw (EV y t)).d≠0:=by rw[xm];show xn l.2 m.2
   rw[kh s.2 u,pe,fh l.2 m.2]
  rw[uv,z,<-bc] at r;simp only[<-bu,<-bM] at a b e r;show .Æ (c:=DA _ _) a.1 (.Æ (c:=DA _ _) a.2.1 (.Æ (c:=DA _ _) b.1 (.Æ (c:=DA _ _) b.2.1 (.Æ (c:=DA _ _) e.1 (.Æ (c:=DA _ _) e.2.1 (.Æ (c:=cF _ _ _) (aa r (aQ f)) .å))))))
 |fn a=>
  have n1:Ó 5 Dm [.Ç [.Ê 0,.Ê 1]] (.Ç [.É [],.É [.Ç [.Ê 1,.Ê 1]]]):=sr (N:=0) (k:=5) (n:=0) (hk:=0) (S:=[]) (os:=[]) (ŋ:=[]) .å _2;have C:∀a,(Mc ns a.d&&Pn ns a)=Ä->Ó N Dm [Jk (Ds c) a] (.Ç [.É [Jk (Ds c) a],.É [.Ç [.Ê 1,.Ê 1]]]):=λa h=>by
   have r:=iO λq=>cq w (ae h) ((da (cO w _ (af h))).mp q);rw[<-bc] at r;show aa r (aQ f)
  cases a with
  |o=>show .Æ (c:=cF _ _ _) (aa n1 f) .å
  |i=>show .Æ (c:=cF _ _ _) (C .i h) .å
  |v n I=>show .Æ (c:=cF _ _ _) (C (.v n I) h) .å
 |bo b=>show .Æ (c:=cB _ _) rfl .å
 |tm a b=>show .Æ (c:=DA _ _) h .å
 |td b=>show .Æ (c:=.Ç [.Ê _]) {š (nt (af h)),ae h} .å
 |tv b=>show .Æ (c:=.Ç [.Ã,.Ê _]) (š (nt h)) .å
 |rc a b x y=>
  have r:=bT a b (š (nt (af h))) (af (ae h));rw[show AB (wv a b)= .Ç [.Ê x,.Ê y] by unfold AB;rw[Ø (af (ae (ae h))),Ø (ae (ae (ae h)))]] at r;show .Æ (c:=cF _ _ _) (aa r (aQ f)) .å
end
end
section
inductive TR(α:Type) where
 |Ũ(a:α)
 |Ág(x:AQ)(k:TR α)
 |test(a:FQ)(y n:TR α)
noncomputable def TR.ù{α b:Type}(f:α->TR b):TR α->TR b
 | .Ũ a=>f a
 | .Ág x k=>.Ág x (k.ù f)
 | .test a y n=>.test a (y.ù f) (n.ù f)
instance:Monad TR where
 Ñ:=.Ũ
 ù m f:=m.ù f
structure Lf(α:Type) where
 zs:Â FQ
 ns:Â FQ
 as:Â AQ
 r:α
def TR.EN{α:Type}:TR α->Â FQ->Â FQ->Â AQ->Â (Lf α)
 | .Ũ a,z,ns,s=>[{z,ns,s.Ė,a}]
 | .Ág x k,z,ns,s=>k.EN z ns (x::s)
 | .test a y n,z,ns,s=>bif Uy z ns a then y.EN z ns s else bif Pn ns a then n.EN z (a::ns) s else y.EN (a::z) ns s++n.EN z (a::ns) s
def TR.fK(t:TR α):∀(s ns:Â FQ) (d:Â AQ),Kn c B s ns->∃l∈t.EN s ns d,Kn c B l.zs l.ns:=by
 induction t with
 |Ũ a=>show λs ns d w=>{_,.Ď _,w}
 |Ág x k p=>show λs ns d w=>p s ns (x::d) w
 |test a y i j m=>
  intro s ns d w;have o:dn c a.n≠0->Kn c B s (a::ns):=λh=>⟨w.z,λf e=>by
   rcases a5.mp e with rfl|e
   ·show h
   ·show w.n f e,w.b⟩
  have u:dn c a.n=0->Kn c B (a::s) ns:=λh=>⟨λf e=>by
   rcases a5.mp e with rfl|e
   ·show h
   ·show w.z f e,w.n,w.b⟩
  change ∃l∈(bif Uy s ns a then y.EN s ns d else bif Pn ns a then i.EN s (a::ns) d else y.EN (a::s) ns d++i.EN s (a::ns) d),Kn c B l.zs l.ns;cases h:Uy s ns a with
  |Ä=>show j s ns d w
  |Å=>
   cases k:Pn ns a with
   |Ä=>show m s (a::ns) d (o (cq w k))
   |Å=>
    by_cases q:dn c a.n=0
    ·show ag (j (a::s) ns d (u q)) λl g r=>{l,P7 _ g,r}
    ·show ag (m s (a::ns) d (o q)) λl g r=>{l,sK _ g,r}
noncomputable def AQ.ds(r:Fr)(a:Â AQ):Â D:=a.ĥ (AQ.d r)
def Uz(S:Â Þ)(f:Þ)(l c:Â D):Out D:=(RN 1 S 60 60 f (l.Ö .ê)).Ĉ (Ň (c.ĥ NQ) [])
def Lf.fact{α:Type}{c:CQ}{B:Ï}{l:Lf α}(w:Kn c B l.zs l.ns){S:Â Þ}{f:Þ}{s:Â AQ}{g:Â D}{v:D}(o:s.ş (AQ.ok B l.zs l.ns)=Ä)(Ĉ:Uz S f g (AQ.ds (Ds c) s)= .ok v (Ň [] (AQ.ds (Ds c) s).Ė)):Ó 65 f g v:=
 sr (N:=5) (k:=60) (λx h=>by
  show ag (F3.mp (SC.mp h)) λa b q=>AQ.sound w (a3 5) (an.mp o a b) x q) Ĉ
def TH(a b:FQ):TR FQ:=.Ág (.ad a b) (.Ũ (Kh a b))
noncomputable def mulM(a b:FQ):TR FQ:=.Ág (.mu a b) (.Ũ (EV a b))
def Vw(a b:FQ):TR FQ:=.Ág (.dv a b) (.Ũ (Lx a b))
def Vx(a:FQ):TR FQ:=.Ág (.ng a) (.Ũ (Lw a))
def TJ(a:FQ):TR FQ:=.Ág (.DN a) (.Ũ (FR a))
def Vy(b:é):TR ÂF:=.Ág (.bo b) (.Ũ ())
def OI{α c:Type}(f:α->TR c):Â α->TR (Â c)
 |[]=>.Ũ []
 |a::l=>f a>>= λb=>OI f l>>= λm=>.Ũ (b::m)
def NS(l:Â FQ):Ï->TR (Â FQ)
 |0=>Vy Å>>= λ_=>.Ũ []
 |n+1=>Vy Ä>>= λ_=>.test (l.ø n .o) (.Ág (.ze (l.ø n .o) Ä) (NS l n)) (.Ág (.ze (l.ø n .o) Å) (.Ũ (l.Ś (n+1))))
def NT(a b:Â FQ):TR (Â FQ):=OI (λi=>TH (a.ø i .o) (b.ø i .o)) (ty (max a.Á b.Á))>>= λl=>NS l l.Á
def UA(a b:Â FQ):TR (Â FQ):=OI Vx b>>= λb=>NT a b
def OJ(p:Â FQ)(r:FQ):TR (Â FQ):=.test r (.Ág (.zn r Å) (.Ũ [])) (.Ág (.zn r Ä) (OI (λx=>mulM x r) p))
def Se(n:Ï):Â FQ:=ln n .o
def Sf(p:Â FQ)(n:Ï):Â FQ:=match p with
 |[]=>[]
 |p=>Se n++p
noncomputable def lst(l:Â FQ):FQ:=l.ø (l.Á -1) .o
def Vz(b:Â FQ):Ï->Â FQ->Â FQ->TR (Â FQ×Â FQ)
 |n+1,f,r=>match J0 r.Á b.Á with
  |Ä=>.Ũ (f,r)
  |Å=>Vw (lst r) (lst b)>>= λq=>OJ (b.Ś (b.Á -1)) q>>= λs=>UA (r.Ś (r.Á -1)) (Sf s (r.Á -b.Á))>>= λa=>Vz b n (f.set (r.Á -b.Á) q) a
 |0,f,r=>.Ũ (f,r)
def Ki(a b:Â FQ):TR (Â FQ×Â FQ):=Vz b 4 (Se (a.Á+1 -b.Á)) a>>= λp=>NS p.1 p.1.Á>>= λf=>.Ũ (f,p.2)
def Qz(l:Â FQ):Ï->TR (Â FQ)
 |0=>.Ũ []
 |n+1=>.test (l.ø n .o) (.Ág (.ze (l.ø n .o) Ä) (Qz l n)) (.Ág (.ze (l.ø n .o) Å) (.Ũ (l.Ś (n+1))))
def QD(t:FQ)(s:Ï):Â FQ->Â FQ->Ï->TR (Â FQ)
 |f,[],_=>.Ũ f
 |f,y::o,i=>.Ág (.ls (f.ø (i+s) .o) y t) (QD t s (f.set (i+s) (Sd (f.ø (i+s) .o) y t)) o (i+1))
def VA(b:Â FQ):Ï->Â FQ->Â FQ->TR (Â FQ×Â FQ)
 |n+1,f,r=>match J0 r.Á b.Á with
  |Ä=>.Ũ (f,r)
  |Å=>let q:=Lx (lst r) (lst b)
   .Ág (.ld (lst r) (lst b)) (QD q (r.Á -b.Á) r b 0>>= λa=>Qz a a.Á>>= λa=>VA b n (f.set (r.Á -b.Á) q) a)
 |0,f,r=>.Ũ (f,r)
def Me(a b:Â FQ):TR (Â FQ×Â FQ):=VA b 4 (Se (a.Á+1 -b.Á)) a>>= λp=>Qz p.1 p.1.Á>>= λf=>.Ũ (f,p.2)
def BV(i n:Ï):Â FQ:=(ZS i n).Ö λk=>.v (.Đ k) (.õ 1)
def Cw(r:Fr)(l:Â FQ):D:=.É (l.Ö (Jk r))
def HO:Â (Ï×Ï):=[0,1,2,3].ĥ λa=>[1,2,3].Ö λb=>(a,b)
def MV(s:Ï×Ï):Â FQ:=(match s.1 with
 |0=>[]
 |n+1=>[.v (.Đ n) (.õ 1)])++[.v (.Đ (s.2+2)) (.õ 1)]
def QE:Â Þ:=[Dj,BP,Fw,Fx,Fy,By,Aq]
def QF(s:Ï×Ï):Â (Lf (Â FQ×Â FQ)):=(Ki (BV 0 s.1) (BV 3 s.2)).EN [] (MV s) []
def VB(s:Ï×Ï):Â (Lf (Â FQ×Â FQ)):=(Me (BV 0 s.1) (BV 3 s.2)).EN [] (MV s) []
def WO(r:Fr):Prop:=AR (λs=>AR (λl:Lf (Â FQ×Â FQ)=>Uz QE DE [Cw r (BV 0 s.1),Cw r (BV 3 s.2)] (AQ.ds r l.as)) (QF s)) HO=HO.Ö λs=>(QF s).Ö λl=>.ok (.Ç [Cw r l.r.1,Cw r l.r.2]) (Ň [] (AQ.ds r l.as).Ė)
abbrev Kj(P:Fr->Prop):Fr:=un λp=>¬P p
def aI[í α]{P:α->Prop}(h:P (un λp=>¬P p))(a:α):P a:=U2 λq=>Zl (p:=λp=>¬P p) {_,q} h
def XU:Fr:=Kj WO
def WQ(r:Fr):Prop:=AR (λs=>AR (λl:Lf (Â FQ×Â FQ)=>Uz QE Br [Cw r (BV 0 s.1),Cw r (BV 3 s.2)] (AQ.ds r l.as)) (VB s)) HO=HO.Ö λs=>(VB s).Ö λl=>.ok (.Ç [Cw r l.r.1,Cw r l.r.2]) (Ň [] (AQ.ds r l.as).Ė)
noncomputable def ldC:Fr:=Kj WQ
end
section
def AE(p:Â ñ):D:=.É (p.Ö AB)
structure Row(B:Ï)(p:Â ñ):Prop where
 ŏ:p.Á<=3
 AL:∀c,p.ÀR =À c->c≠0
 bd:∀c∈p,bd B c
def gB(f:Ï->α)(n:Ï):∃c:N7 α,∀i,c.ĵ i=f (min i n):=by
 induction n with
 |ž=>show{.leaf (f 0),λi=>by rw[Ï.min_zero];first|done|rfl}
 |ś n a=>
  show ao a λc h=>{.branch (n+1) c (.leaf (f (n+1))),λi=>?_};by_cases q:i<=n
  ·change é.rec (motive:=λ_=>α) (c.ĵ i) _ ((n+1).ble i)=_;rw[show(n+1).ble i=Å from AT.ĝ λz=>Ï.not_succ_le_self _ (ac (be z) q),Do (Ï.le_succ_of_le q)];have:=h i;rw[Do q] at this;show this
  ·change é.rec (motive:=λ_=>α) _ (f (n+1)) ((n+1).ble i)=_;rw[show(n+1).ble i=Ä from l4 (Zc q),Ï.min_eq_right (Zc q)]
def hT(k:Ï):Bz c (.v (.Đ k) (.õ 1))=c.ĵ k:=by
 change c.ĵ k/dn c (.õ 1)=_;rw[ay,Yt,show(((1:ä):ñ))⁻¹ =1 by decide+kernel,Ys]
def av(l:Â FQ):Cw (Ds c) l=AE (l.Ö (Bz c)):=by
 unfold Cw AE;rw[lf];show â _ (r0 λa _=>bc a)
structure Po(c:CQ)(B:Ï)(a b:Â ñ):Prop where
 ea:(BV 0 a.Á).Ö (Bz c)=a
 eb:(BV 3 b.Á).Ö (Bz c)=b
 bd:∀i,bd B (c.ĵ i)
 ga:∀i,i<a.Á->c.ĵ i=a.ø i 0
 gb:∀i,i<b.Á->c.ĵ (i+3)=b.ø i 0
def pg(n:1<=B)(Ft:a.Á<=3)(o:b.Á<=3)(p:∀x∈a,bd B x)(q:∀x∈b,bd B x):∃c,Po c B a b:=by
 show ao (gB (λi=>if i<3 then a.ø i 0 else b.ø (i -3) 0) 5) λc h=>?_;have j:∀i,i<a.Á->c.ĵ i=a.ø i 0:=λi f=>by have k:=ce f Ft;rw[h,Do (ac (i5 k) _0)];show à k
 have m:∀i,i<b.Á->c.ĵ (i+3)=b.ø i 0:=λi f=>by rw[h,Do (io (ww (ce f o)) 3)];show(ß (i8.ĝ (f3 3 i))).Ð (by rw[Ï.add_sub_cancel])
 have g:∀{l:Â ñ},(∀x∈l,bd B x)->∀i,bd B (l.ø i 0):=λ{l} r i=>by
  rw[i6];cases e:l[i]? with
  |Ã=>show(dV 0).le n
  |À x=>show r x (wS e)
 show{c,?_,?_,λi=>?_,j,m}
 ·unfold BV;apply B0
  ·simp
  ·intro i s d;rw[sp,sp,U7,hT,s6,TW,j i d];simp[d]
 ·unfold BV;apply B0
  ·simp
  ·intro i s d;rw[sp,sp,U7,hT,TW,lc,m i d];simp[d]
 ·rw[h];split
  ·show g p _
  ·show g q _
def Row.last(h:Row B p)(a:p≠[]):p.ø (p.Á -1) 0≠0:=by
 have:=h.AL (p.getLast a) (KE a);rw[Y5] at this;have b:p.Á -1<p.Á:=by have:=Ch.ĝ a;show Yo this _0
 simpa [b] using this
def Row.le{B C:Ï}(h:Row B p)(k:B<=C):Row C p:={h.ŏ,h.AL,λc a=>(h.bd c a).le k}
def Po.kn{c:CQ}(t:Po c B a b)(r:Row B a)(k:Row B b)(g:b≠[]):Kn c B [] (MV (a.Á,b.Á)) where
 z:=λf h=>nomatch h
 b:=λi _=>t.bd i
 n:=λf d=>by
  rcases dL.mp d with d|d
  ·cases e:a.Á with
   |ž=>rw[e] at d;cases d
   |ś n=>
    rw[e] at d;rw[am.mp d];have:=r.last λq=>by rw[q] at e;cases e
    rw[e] at this;show λz=>this ((t.ga n (Ps (p1 n) e.symm)).symm.Ð z)
  ·rw[am.mp d];have j:=Ch.ĝ g;have:=k.last g;rw[<-t.gb _ (Yo j _0)] at this;rwa [show b.Á -1+3=b.Á+2 from â (·+2) (us j)] at this
def QH(B:Ï)(z ns:Â FQ)(L:Ï)(l:Â FQ):é:=s4 l.Á L&&(l.ş (λa=>Mc ns a.d&&s4 (Kv B a.n+Kv B a.d) 100)&&match l.ÀR with
 |À a=>Pn ns a
 |Ã=>Ä)
def mn(w:Kn c B z ns)(f:L<=3)(h:QH B z ns L l=Ä):Row 100 (l.Ö (Bz c)) where
 ŏ:=by rw[a2];show ac (be (af h)) f
 AL:=λx b=>by
  rw[YX] at b;obtain⟨a,e,Î⟩:=h9.mp b;have k:=ae (ae h);rw[e] at k;show λq=>cq w k ((da (cO w _ (af (an.mp (af (ae h)) a (ZE e))))).mp q)
 bd:=λx b=>by
  obtain⟨a,e,Î⟩:=i1.mp b;have k:=be (ae (an.mp (af (ae h)) a e));show((fJ w a.n (ac (ac (bv ..) k) _0)).div (fJ w a.d (ac (ac (f3 ..) k) _0))).le k
def Sg(ns:Â FQ)(a b:FQ):é:=Mc ns a.d&&(Mc ns b.d&&NR a b)
def ph(w:Kn c B z ns)(h:Sg ns a b=Ä):Bz c a=Bz c b:=by
 have f:=cO w _ (af h);have g:=cO w _ (af (ae h));have e:dn c a.n*dn c b.d=dn c b.n*dn c a.d:=cz (ae (ae (ae h)));unfold Bz;grind
def CH(ns:Â FQ):Â FQ->Â FQ->é
 |[],[]=>Ä
 |a::l,b::m=>Sg ns a b&&CH ns l m
 |_,_=>Å
def aN(w:Kn c B z ns):∀{l m:Â FQ},CH ns l m=Ä->l.Ö (Bz c)=m.Ö (Bz c)
 |[],[],_=>rfl
 |a::l,b::m,h=>by rw[v7,v7,ph w (af h),aN w (ae h)]
def QK(s:Ï×Ï)(l:Lf (Â FQ×Â FQ)):Â (Lf (Â FQ×Â FQ)):=(Me (BV 0 s.1) (BV 3 s.2)).EN l.zs l.ns []
def VD(s:Ï×Ï):é:=(QF s).ş λl=>l.as.ş (AQ.ok 2 l.zs l.ns)&&(QH 2 l.zs l.ns 3 l.r.1&&(QH 2 l.zs l.ns (s.2 -1) l.r.2&&(QK s l).ş λk=>k.as.ş (AQ.ok 2 k.zs k.ns)&&(CH k.ns l.r.1 k.r.1&&CH k.ns l.r.2 k.r.2)))
def aae:HO.ş VD=Ä:=_2
def VE(f:Þ)(r:Fr)(s:Ï×Ï)(l:Lf (Â FQ×Â FQ)):Out D:=Uz QE f [Cw r (BV 0 s.1),Cw r (BV 3 s.2)] (AQ.ds r l.as)
def VF(r:Fr)(l:Lf (Â FQ×Â FQ)):Out D:=.ok (.Ç [Cw r l.r.1,Cw r l.r.2]) (Ň [] (AQ.ds r l.as).Ė)
def Sh(r:Fr):Prop:=AR (λs=>AR (λl=>(VE DE r s l,AR (VE Br r s) (QK s l))) (QF s)) HO=HO.Ö λs=>(QF s).Ö λl=>(VF r l,(QK s l).Ö (VF r))
def WR:Fr:=Kj Sh
def xp(r:Fr):Sh r:=aI (show Sh WR by unfold Sh;kernel_rfl) r
def aaf(b:i<=3)(a:1<=j)(c:j<=3):(i,j)∈HO:=(by decide:∀i,i<4->∀j,j<3->(i,j+1)∈HO) i (i4 b) (j -1) (ce (Yo a _0) (by assumption)) |> λh=>by rwa [us a] at h
def xq{a b:Â ñ}(f:Row 2 a)(d:Row 2 b)(h:b≠[]):∃q r,Ó 65 DE [AE a,AE b] (.Ç [AE q,AE r])/\Ó 65 Br [AE a,AE b] (.Ç [AE q,AE r])/\Row 100 q/\Row 100 r/\r.Á<b.Á:=by
 exists a b,f d h;have v:=Ch.ĝ h;show ao (pg _0 f.ŏ d.ŏ f.bd d.bd) λc t=>?_;have m:=aaf f.ŏ v d.ŏ;show ag (TR.fK (Ki (BV 0 a.Á) (BV 3 b.Á)) [] _ [] (t.kn f d h)) λl n w=>ag (TR.fK (Me (BV 0 a.Á) (BV 3 b.Á)) l.zs l.ns [] w) λk p g=>?_;have o:=an.mp (an.mp aae _ m) l n;have x:=ae (ae (ae o));have i:=an.mp x k p;have e:=f0 (ah (ah (xp (Ds c)) _ m) l n);have y:=ah e.2 k p;have s:=Lf.fact w (af o) e.1;have j:=Lf.fact g (af i) y;rw[av,av,av,av,t.ea,t.eb] at s j;rw[<-aN g (af (ae i)),<-aN g (ae (ae i))] at j;have u:=af (ae (ae o));show{_,_,s,j,mn w _0 (af (ae o)),mn w (by have:=d.ŏ;lia) u,?_};have:=be (af u);rw[a2];lia
end
section
def QM(p:Â FQ):TR (Â FQ):=match p with
 |[]=>.Ũ []
 |p=>TJ (lst p)>>= λw=>OJ p w
def OL:Ï->Â FQ->Â FQ->TR (Â FQ)
 |n+1,a,b=>match b with
  |[]=>QM a
  |b=>Ki a b>>= λp=>QM p.2>>= λm=>OL n b m
 |0,a,_=>.Ũ a
def QO:Ï->Â FQ->Â FQ->TR (Â FQ)
 |n+1,a,b=>match b with
  |[]=>.Ũ a
  |b=>Me a b>>= λp=>QO n b p.2
 |0,a,_=>.Ũ a
def Na:Â (Ï×Ï):=[0,1,2,3].ĥ λa=>[0,1,2,3].Ö λb=>(a,b)
def VG(s:Ï×Ï):Â FQ:=(match s.1 with
 |0=>[]
 |n+1=>[.v (.Đ n) (.õ 1)])++match s.2 with
 |0=>[]
 |n+1=>[.v (.Đ (n+3)) (.õ 1)]
def UB(s:Ï×Ï):Â (Lf (Â FQ)):=(OL 5 (BV 0 s.1) (BV 3 s.2)).EN [] (VG s) []
def UC(s:Ï×Ï)(l:Lf (Â FQ)):Â (Lf (Â FQ)):=(QO 5 (BV 0 s.1) (BV 3 s.2)).EN l.zs l.ns []
def WS:FQ->é
 | .i=>Ä
 |_=>Å
def NU(ns:Â FQ)(w:FQ):Â FQ->Â FQ->é
 |[_],[y]=>WS y
 |x::l,y::g=>Sg ns (EV x (FR w)) y&&NU ns w l g
 |_,_=>Å
def VH(s:Ï×Ï)(ns:Â FQ)(L g:Â FQ):é:=match L with
 |[]=>pp g.Á 0&&(pp s.1 0&&pp s.2 0)
 |L=>Pn ns (lst L)&&(NU ns (lst L) L g&&(L.ş (λa=>Mc ns a.d&&Uw 2 a)&&((L.Àc.ş λa=>s4 (Kv 2 (EV a (FR (lst L))).n+Kv 2 (EV a (FR (lst L))).d) 99)&&
  (s4 L.Á 2||(pp s.1 3&&CH ns L (BV 0 3)||pp s.2 3&&CH ns L (BV 3 3))))))
def VI(s:Ï×Ï):é:=(UB s).ş λl=>l.as.ş (AQ.ok 2 l.zs l.ns)&&(UC s l).ş λk=>k.as.ş (AQ.ok 2 k.zs k.ns)&&VH s k.ns k.r l.r
def xr:Na.ş VI=Ä:=_2
end
section
def FT:Ï->FQ
 |0=>.o
 |1=>.i
 |i+2=>.v (.Đ i) (.õ 1)
def Nb(n:Ï):ä:=(n:ä) -8
def WT(o x y z w:Ï):AQ:=match o with
 |2=>.ad .o (FT x)
 |3=>.ad (FT x) .o
 |4=>.mu .i (FT x)
 |5=>.mu (FT x) .i
 |6=>.dv (FT x) .i
 |7=>.rt (FT x)
 |8=>.ze (FT x) Å
 |9=>.ze (FT x) Ä
 |10=>.zn (FT x) Å
 |11=>.zn (FT x) Ä
 |12=>.on (FT x) Å
 |13=>.on (FT x) Ä
 |14=>.qz (FT x) Å
 |15=>.qz (FT x) Ä
 |16=>.bo Å
 |17=>.bo Ä
 |18=>.tm (Nb x) (Nb y)
 |19=>.td (Nb x)
 |20=>.tv (Nb x)
 |21=>.rc (Nb x) (Nb y) (Nb z) (Nb w)
 |22=>.fn (FT x)
 |23=>.fn .o
 |24=>.mu .o (FT x)
 |25=>.mu (FT x) .o
 |26=>.ng .o
 |_=>.DN .i
def WU(o:Ï):Ï:=match o with
 |16=>64
 |17=>64
 |23=>64
 |26=>64
 |27=>64
 |18=>262144
 |21=>1073741824
 |_=>4096
def Si:Ï->Ï->Â AQ
 |0,_=>[]
 |f+1,n=>match pp n 0 with
  |Ä=>[]
  |Å=>WT (n %64) (n/64 %64) (n/4096 %64) (n/262144 %64) (n/16777216 %64)::Si f (n/WU (n %64))
set_option genCtorIdx true in
inductive Kd where
 |z|o|g|n|u
inductive Kr:Kd->ñ->Prop
 |z:Kr .z 0
 |o:Kr .o 1
 |g {c}:c≠0->c≠1->Kr .g c
 |n {c}:c≠0->Kr .n c
 |u {c}:Kr .u c
inductive KL:Â Kd->Â ñ->Prop
 |å:KL [] []
 |Æ {k c s a}:Kr k c->KL s a->KL (k::s) (c::a)
def Wx:Ï->Â Kd->Â FQ
 |_,[]=>[]
 |i,k::s=>(match k with
  | .z=>[FT (i+2)]
  | .o=>[HN (FT (i+2))]
  |_=>[])++Wx (i+1) s
def Wz:Ï->Â Kd->Â FQ
 |_,[]=>[]
 |i,k::s=>(match k with
  | .o=>[FT (i+2)]
  | .n=>[FT (i+2)]
  | .g=>[FT (i+2),HN (FT (i+2))]
  |_=>[])++Wz (i+1) s
def KL.kn{c:CQ}(h:KL s d):∀i,(∀j,j<d.Á->c.ĵ (i+j)=d.ø j 0)->(∀f∈Wx i s,dn c f.n=0)/\∀f∈Wz i s,dn c f.n≠0:=by
 induction h with
 |å=>show λ_ _=>{λ_ h=>(nomatch h),λ_ h=>(nomatch h)}
 | @Æ k x s d r _ t=>
  intro i m;have e:dn c (FT (i+2)).n=x:=m 0 (pu _);have p:dn c (HN (FT (i+2))).n=x -1:=by
   change dn c (.Đ i)+dn c (.õ (-1))=_;rw[show dn c (.Đ i)=x from e,ay,Op];rfl
  show aj (t (i+1) λj v=>by rw[E2];show m (j+1) (Ï.succ_lt_succ v)) λz n=>?_;have w:x≠1->x -1≠0:=λh q=>h (by rw[<-Z3 (a:=x),q];decide+kernel);cases r with
  |z=>show{λf b=>(a5.mp b).ç (λq=>by rw[q];show e) (z f),n}
  |o=>show{λf b=>(a5.mp b).ç (λq=>by rw[q,p];decide+kernel) (z f),λf b=>(a5.mp b).ç (λq=>by rw[q,e];decide+kernel) (n f)}
  |g l y=>show{z,λf b=>(a5.mp b).ç (λq=>by rw[q,e];show l) λb=>(a5.mp b).ç (λq=>by rw[q,p];show w y) (n f)}
  |n l=>show{z,λf b=>(a5.mp b).ç (λq=>by rw[q,e];show l) (n f)}
  |u=>show{z,n}
structure Tr where
 ks:Â Kd
 ÁD:Ï
noncomputable def Tr.Ĉ(t:Tr)(S:Â Þ)(f:Þ)(l:Â D)(r:Fr):é×Out D:=((Si 400 t.ÁD).ş (AQ.ok 100 (Wx 0 t.ks) (Wz 0 t.ks)),Uz S f l (AQ.ds r (Si 400 t.ÁD)))
noncomputable def Tr.to(t:Tr)(v:D)(r:Fr):é×Out D:=(Ä,.ok v (Ň [] (AQ.ds r (Si 400 t.ÁD)).Ė))
def Tr.fact{c:CQ}{l:Â D}{t:Tr}(h:t.Ĉ S f l (Ds c)=t.to v (Ds c))(hk:KL t.ks s)(b:∀i,bd 100 (c.ĵ i))(a:∀j,j<s.Á->c.ĵ j=s.ø j 0):Ó 65 f l v:=aj (hk.kn 0 λj d=>by rw[s6];show a j d) λz n=>Lf.fact (l:={Wx 0 t.ks,Wz 0 t.ks,[],()}) {z,n,λi _=>b i} (â ZA h) (â Prod.snd h)
def VJ:Â Þ:=[By,Dj,BP,Fw,Fx,Fy]
def Es:D:=.Ç [.Ý FA,.Ý AD]
def Cy(k:Ï):D:=match k with
 |1=>Es
 |k=>.Ç [.Ý Ay,Es,.Ç [.Ý Cq,.Ê k,.Ê 1]]
def Aj(l:Â D):D:=.Ç [.Ý BH,.Ç l]
def Be(l:Â D):D:=.Ç [.Ý BU,.Ç l]
def Ag(p:ä×ä):D:=.Ç [.Ý Cq,.Ê p.1,.Ê p.2]
def D_:Ï->Kd->ä×ä->Â D
 |_,.z,_=>[]
 |0,_,c=>[Ag c]
 |i+1,.o,_=>[Cy (i+1)]
 |i+1,_,c=>[Aj [Ag c,Cy (i+1)]]
def OM:Ï->Â Kd->Â (ä×ä)->Â D
 |i,k::s,c::a=>OM (i+1) s a++D_ i k c
 |_,_,_=>[]
def BY:Â D->D
 |[]=>Ag (0,1)
 |[x]=>x
 |l=>Be l
def QR(k:Â Kd)(c:Â (ä×ä)):D:=BY (OM 0 k c)
noncomputable def Tr.ids(t:Tr):Â FQ:=(ty t.ks.Á).Ö λi=>FT (i+2)
noncomputable def Tr.nf(t:Tr)(r:Fr):D:=QR t.ks (t.ids.Ö λa=>(Dl r a,Cv r a))
def NV:Â Tr:=[
 {[],0x10},
 {[.n],0x22c2082202142109209215087},
 {[.z,.o],0x4114110420020cd0c80c80c80c42492495431c2242142109209215087},
 {[.z,.g],0x100cc0c80cb0c20020cc0c80c80c80c42492495431c2242142109209215087},
 {[.n,.o],0x22d14110420820cd0c80c80c80c42492495431c2202142109209215087},
 {[.n,.g],0x8b0cc0c80cb0c20820cc0c80c80c80c42492495431c2202142109209215087},
 {[.z,.z,.o],0x104504410800800843442042114511081044514492892951070c90c42492495431c2242142109209215087},
 {[.z,.z,.g],0x4043042042c40800800843042042114511081044514492892951070c90c42492495431c2242142109209215087},
 {[.z,.o,.o],0x1044925224a49040a4d14114504410810800843442042114511081044514492892951070cd0c80c80c80c42492495431c2242142109209215087},
 {[.z,.o,.g],0x41124948929241029310c10810b4504440810800843042042114511081044514492892951070cd0c80c80c80c42492495431c2242142109209215087},
 {[.z,.g,.o],0x4112494892924102934504433032032c10830800843442042114511081044514492892951070cc0c80c80c80c42492495431c2242142109209215087},
 {[.z,.g,.g],0x1044925224a49040a4c43042042c33032032c40830800843042042114511081044514492892951070cc0c80c80c80c42492495431c2242142109209215087},
 {[.n,.z,.o],0x8b4504410820c20843442042114511081044514492892951070c90c42492495431c2202142109209215087},
 {[.n,.z,.g],0x22c43042042c40820c20843042042114511081044514492892951070c90c42492495431c2202142109209215087},
 {[.n,.o,.o],0x8b44925224a49040a4d14114504410810820843442042114511081044514492892951070cd0c80c80c80c42492495431c2202142109209215087},
 {[.n,.o,.g],0x22d124948929241029310c10810b4504440810820843042042114511081044514492892951070cd0c80c80c80c42492495431c2202142109209215087},
 {[.n,.g,.o],0x22d12494892924102934504433032032c10830820843442042114511081044514492892951070cc0c80c80c80c42492495431c2202142109209215087},
 {[.n,.g,.g],0x8b44925224a49040a4c43042042c33032032c40830820843042042114511081044514492892951070cc0c80c80c80c42492495431c2202142109209215087}]
def NW:Â Tr:=[
 {[],0x9209215},
 {[.n],0x880850842482485421c920921508708f},
 {[.z,.o],0xcd0c80c80c80c42492495431c92492550c70cf08e},
 {[.z,.g],0xcc0c80c80c80c42492495431c92492550c70cf08e},
 {[.n,.o],0x22d14110420820cd0c80c80c80c42492495431c22021421092092150872492495431c33c920921508708f},
 {[.n,.g],0x8b0cc0c80cb0c20820cc0c80c80c80c42492495431c22021421092092150872492495431c33c920921508708f},
 {[.z,.z,.o],0x10d10810845144420411145124a24a5441c928929510710f0ce08e},
 {[.z,.z,.g],0x10c10810845144420411145124a24a5441c928929510710f0ce08e},
 {[.z,.o,.o],0x41124948929241029345045141104204210d10810845144420411145124a24a5441c33432032032031092492550c724a24a5441c43c92492550c70cf08e},
 {[.z,.o,.g],0x1044925224a49040a4c43042042d141110204210c10810845144420411145124a24a5441c33432032032031092492550c724a24a5441c43c92492550c70cf08e},
 {[.z,.g,.o],0x1044925224a49040a4d14110cc0c80cb0420c210d10810845144420411145124a24a5441c33032032032031092492550c724a24a5441c43c92492550c70cf08e},
 {[.z,.g,.g],0x41124948929241029310c10810b0cc0c80cb1020c210c10810845144420411145124a24a5441c33032032032031092492550c724a24a5441c43c92492550c70cf08e},
 {[.n,.z,.o],0x22d141104208210d10810845144420411145124a24a5441c220214210920921508724a24a5441c43c338920921508708f},
 {[.n,.z,.g],0x8b10c10810b10208210c10810845144420411145124a24a5441c220214210920921508724a24a5441c43c338920921508708f},
 {[.n,.o,.o],0x22d124948929241029345045141104204208210d10810845144420411145124a24a5441c33432032032031092492550c70880850842482485421c928929510710f2492495431c33c920921508708f},
 {[.n,.o,.g],0x8b44925224a49040a4c43042042d141110204208210c10810845144420411145124a24a5441c33432032032031092492550c70880850842482485421c928929510710f2492495431c33c920921508708f},
 {[.n,.g,.o],0x8b44925224a49040a4d14110cc0c80cb0420c208210d10810845144420411145124a24a5441c33032032032031092492550c70880850842482485421c928929510710f2492495431c33c920921508708f},
 {[.n,.g,.g],0x22d124948929241029310c10810b0cc0c80cb1020c208210c10810845144420411145124a24a5441c33032032032031092492550c70880850842482485421c928929510710f2492495431c33c920921508708f}]
def Sj(r:Fr):Prop:=AR (λt=>t.Ĉ VJ Bd [Cw r t.ids] r) NV=NV.Ö λt=>t.to (t.nf r) r
def WV:Fr:=Kj Sj
def xt(r:Fr):Sj r:=aI (show Sj WV by unfold Sj;kernel_rfl) r
def Sk(r:Fr):Prop:=AR (λt=>t.Ĉ VJ AN [Cw r t.ids,Es] r) NW=NW.Ö λt=>t.to (t.nf r) r
def WW:Fr:=Kj Sk
def xu(r:Fr):Sk r:=aI (show Sk WW by unfold Sk;kernel_rfl) r
end
section
def XK(r:Fr):Kd->FQ->D
 | .z,_=>.Ç [.Ê 0,.Ê 1]
 | .o,_=>.Ç [.Ê 1,.Ê 1]
 |_,a=>Jk r a
def ON(r:Fr):Â Kd->Â FQ->Â D
 |k::s,a::l=>XK r k a::ON r s l
 |_,_=>[]
def XW:Â Þ:=Dm::VJ
def NX:Â Tr:=[
 {[],0x5c9209215},
 {[.n],0x96087},
 {[.z,.o],0x0},
 {[.z,.g],0x444431401516c11116c32114114400832c31810811030831400836411110c545b04445b0c84500cb0c60420440c20c40d60c7},
 {[.n,.o],0x111104408545b04445b4114022c21822110834411810811104410c20820821410811000801425821c111104400545b04445b411411440091046042044411042002042044002005},
 {[.n,.g],0x11110c508545b04445b0c845008b0860884420c32c31810811032110c30820820850c20c50020050960870444431401516c11116c32114114400832c31810811032110c20020c20c50020050444431401516c11116c32114114400832c31810811030831400836411110c545b04445b0c84500cb0c60420440c20c40d60c7},
 {[.z,.z,.o],0x40a4d00444411001401516c11116d045045145100200244118108110108110008010008010a5112930444411001401516c11116d0450451451002002441181081101081100080100080140080611294451},
 {[.z,.z,.g],0x444441401401516c11116c42114114514400800842c418108110408414008464008465029340111104400500545b04445b41141145144008009104604204404204400200400200429444a4c111104400500545b04445b41141145144008009104604204404204400200400200500201844a51144111110545b04445b10845010b106042044102104116107},
 {[.z,.o,.o],0x111104404400545b04445b4114114400910464110430024411810811104410c108008108110008014108110008014008014111104400500545b04445b41141145144008009104604204441104200200204204400200500200540a4d00444411001401516c11116d045045145100200244118108110108110008010008010a5112930444411001401516c11116d0450451451002002441181081101081100080100080140080611294451},
 {[.z,.o,.g],0x111110504400545b04445b1084504510024411904410c00842c41810811042111030420020420440020051021050020050020050444441401401516c11116c42114114514400800842c41810811042111020020021021050020050020050444441401401516c11116c42114114514400800842c418108110408414008464008465029340111104400500545b04445b41141145144008009104604204404204400200400200429444a4c111104400500545b04445b41141145144008009104604204404204400200400200500201844a51144111110545b04445b10845010b106042044102104116107},
 {[.z,.g,.o],0x11110440c500545b04445b4114114400832c31832110c30024411810811104410c30800830831400801410811000801400801411110c500545b04445b0c84504510020cb0c60420440c20c50020d90444431516c11116c32114032c31810811030831035831c111104400500545b04445b41141145144008009104604204441104200200204204400200500200540a4d00444411001401516c11116d045045145100200244118108110108110008010008010a5112930444411001401516c11116d0450451451002002441181081101081100080100080140080611294451},
 {[.z,.g,.g],0x11111050c500545b04445b1084504510020cb0c60c84430c00842c41810811042111030c20020c20c50020051021050020050020050444431401516c11116c32114114400832c31810811030831400836411110c545b04445b0c84500cb0c60420440c20c40d60c70444441401401516c11116c42114114514400800842c41810811042111020020021021050020050020050444441401401516c11116c42114114514400800842c418108110408414008464008465029340111104400500545b04445b41141145144008009104604204404204400200400200429444a4c111104400500545b04445b41141145144008009104604204404204400200400200500201844a51144111110545b04445b10845010b106042044102104116107},
 {[.n,.z,.o],0x111104400508545b04445b4114022c21822114510020834411810811104410c00820820821410811000801400801425821c111104400500545b04445b41141145144008009104604204441104200200204204400200500200540a4d00444411001401516c11116d045045145100200244118108110108110008010008010a5112930444411001401516c11116d0450451451002002441181081101081100080100080140080611294451},
 {[.n,.z,.g],0x111110500508545b04445b10845008b0860884514400820c42c41810811042111030020820820851021050020050020050960870444441401401516c11116c42114114514400800842c41810811042111020020021021050020050020050444441401401516c11116c42114114514400800842c418108110408414008464008465029340111104400500545b04445b41141145144008009104604204404204400200400200429444a4c111104400500545b04445b41141145144008009104604204404204400200400200500201844a51144111110545b04445b10845010b106042044102104116107},
 {[.n,.o,.o],0x444411011021516c11116d045008b0860884420d10464110430834411810811104410c10c20820821410811010811000801425821c111104404400545b04445b4114114400910464110430024411810811104410c108008108110008014108110008014008014111104400500545b04445b41141145144008009104604204441104200200204204400200500200540a4d00444411001401516c11116d045045145100200244118108110108110008010008010a5112930444411001401516c11116d0450451451002002441181081101081100080100080140080611294451},
 {[.n,.o,.g],0x111110504408545b04445b10845008b0860884420d104641104308310b1060420441084440c10c20820821440841410811000801425821c111110504400545b04445b1084504510024411904410c00842c41810811042111030420020420440020051021050020050020050444441401401516c11116c42114114514400800842c41810811042111020020021021050020050020050444441401401516c11116c42114114514400800842c418108110408414008464008465029340111104400500545b04445b41141145144008009104604204404204400200400200429444a4c111104400500545b04445b41141145144008009104604204404204400200400200500201844a51144111110545b04445b10845010b106042044102104116107},
 {[.n,.g,.o],0x444411031421516c11116d045008b0860884420c32c31832110c30834411810811104410c30c20820821410811030831400801425821c11110440c500545b04445b4114114400832c31832110c30024411810811104410c30800830831400801410811000801400801411110c500545b04445b0c84504510020cb0c60420440c20c50020d90444431516c11116c32114032c31810811030831035831c111104400500545b04445b41141145144008009104604204441104200200204204400200500200540a4d00444411001401516c11116d045045145100200244118108110108110008010008010a5112930444411001401516c11116d0450451451002002441181081101081100080100080140080611294451},
 {[.n,.g,.g],0x11111050c508545b04445b10845008b0860884420c32c31832110c308310b1060420441084440c30c20820821440841430831400801425821c11111050c500545b04445b1084504510020cb0c60c84430c00842c41810811042111030c20020c20c50020051021050020050020050444431401516c11116c32114114400832c31810811030831400836411110c545b04445b0c84500cb0c60420440c20c40d60c70444441401401516c11116c42114114514400800842c41810811042111020020021021050020050020050444441401401516c11116c42114114514400800842c418108110408414008464008465029340111104400500545b04445b41141145144008009104604204404204400200400200429444a4c111104400500545b04445b41141145144008009104604204404204400200400200500201844a51144111110545b04445b10845010b106042044102104116107}]
def Sl(r:Fr):Prop:=AR (λt=>t.Ĉ XW Ac [t.nf r,.Ý AD] r) NX=NX.Ö λt=>t.to (.Ç [.É (ON r t.ks t.ids),.É [.Ç [.Ê 1,.Ê 1]]]) r
def WX:Fr:=Kj Sl
def xv(r:Fr):Sl r:=aI (show Sl WX by unfold Sl;kernel_rfl) r
def He(c:ñ):Kd:=if c=0 then .z else .n
def EO(c:ñ):Kd:=if c=0 then .z else if c=1 then .o else .g
def Hf:Â ñ->Â Kd
 |[]=>[]
 |c::s=>He c::s.Ö EO
def xw(c:ñ):Kr (He c) c:=by
 unfold He;split
 ·rename_i h;subst h;show .z
 ·rename_i h;show .n h
def pj(c:ñ):Kr (EO c) c:=by
 unfold EO;split
 ·rename_i h;subst h;show .z
 ·rename_i h;split
  ·rename_i h;subst h;show .o
  ·rename_i a;show .g h a
def er:∀p,KL (Hf p) p
 |[]=>.å
 |c::s=>.Æ (xw c) (by
  induction s with
  |å=>show .å
  |Æ c s i=>show .Æ (pj c) i)
noncomputable def Kd.eq(a b:Kd):é:=pp a.ÀF b.ÀF
def Kd.eq_eq{a b:Kd}(h:a.eq b=Ä):a=b:=by
 have e:=l0 h;have k:∀a:Kd,([.z,.o,.g,.n,.u]:Â Kd)[a.ÀF]? =À a:=λa=>by cases a<;>rfl
 show al ((k a).symm.Ð (by rw[e];show k b))
def QS:Â Kd->Â Kd->é
 |[],[]=>Ä
 |a::l,b::m=>a.eq b&&QS l m
 |_,_=>Å
def mq:∀{l m:Â Kd},QS l m=Ä->l=m
 |[],[],_=>rfl
 |a::l,b::m,h=>by
  show aj (im.mp h) λc d=>?_;rw[Kd.eq_eq c,mq d]
def IZ:Â (Â Kd):=[]::[.n]::(([.z,.n]:Â Kd).ĥ λa=>([.o,.g]:Â Kd).Ö λb=>[a,b])++([.z,.n]:Â Kd).ĥ λa=>([.z,.o,.g]:Â Kd).ĥ λb=>([.o,.g]:Â Kd).Ö λc=>[a,b,c]
def zi(c:ñ):He c∈([.z,.n]):=by unfold He;split;show .Ď _;show .ě _ (.Ď _)
def abd(c:ñ):EO c∈([.z,.o,.g]):=by unfold EO;split;show .Ď _;split;show .ě _ (.Ď _);show .ě _ (.ě _ (.Ď _))
def uy(h:c≠0):EO c∈([.o,.g]):=by unfold EO;rw[ß h];split;show .Ď _;show .ě _ (.Ď _)
def dW(h:Row B p):Hf p∈IZ:=by
 obtain⟨l,t,_⟩:=h
 match p,l,t with
 |[],_,_=>show .Ď _
 |[a],_,t=>change [He a]∈IZ;unfold He;rw[ß (t a Î)];show .ě _ (.Ď _)
 |[a,b],_,t=>show P7 _ (.ě _ (.ě _ (F3.ĝ {_,zi a,i1.ĝ {_,uy (t b Î),Î}})))
 |[a,b,c],_,t=>show sK _ (F3.ĝ {_,zi a,F3.ĝ {_,abd b,i1.ĝ {_,uy (t c Î),Î}}})
 |_::_::_::_::_,l,_=>show absurd l (by simp)
def UD(tab:Â Tr):é:=IZ.ş λk=>tab.any λt=>QS t.ks k
def hU{tab:Â Tr}(h:UD tab=Ä)(r:Row B p):∃c,({Hf p,c})∈tab:=by
 show ag (ms.mp (an.mp h _ (dW r))) λt a q=>?_;obtain⟨k,c⟩:=t;rw[<-mq (q)];show{c,a}
noncomputable def nf(p:Â ñ):D:=QR (Hf p) (p.Ö λc=>(c.õ,(c.þ:ä)))
def kds_len(p:Â ñ):(Hf p).Á=p.Á:=by induction p using i2<;>simp[Hf]
structure One(c:CQ)(B:Ï)(p:Â ñ):Prop where
 bd:∀i,bd B (c.ĵ i)
 g:∀j,j<p.Á->c.ĵ j=p.ø j 0
def es(a:1<=B){p:Â ñ}(b:∀x∈p,bd B x):∃c,One c B p:=by
 show ao (gB (λi=>p.ø i 0) p.Á) λc h=>{c,λi=>?_,λj d=>by rw[h,Do (i5 d)]};rw[h,i6];cases e:p[min i p.Á]? with
 |Ã=>show(dV 0).le a
 |À x=>show b x (wS e)
def One.ids(o:One c B p){n:Ï}:(Tr.ids {Hf p,n}).Ö (Bz c)=p:=by
 unfold Tr.ids;rw[kds_len,lf];apply B0
 ·simp
 ·intro i a h;rw[sp,YJ];change Bz c (.v (.Đ i) (.õ 1))=_;rw[hT,o.g i h];simp[h]
def One.nf(o:One c B p):Tr.nf {Hf p,n} (Ds c)=nf p:=by
 unfold Tr.nf PQ.Internal.nf;conv=>rhs;rw[<-o.ids (n:=n),lf]
 rw[show Hf ((Tr.ids {Hf p,n}).Ö (Bz c))=Hf p by rw[o.ids]];show â _ (r0 λa _=>by rw[bu,bM];rfl)
section
variable{p:List Rat}(r:Row 100 p)
include r
def fi:Ó 65 Bd [AE p] (nf p):=by
 show ao (hU (tab:=NV) _2 r) λn a=>ao (es _0 r.bd) λc o=>?_;have h:=ah (xt (Ds c)) _ a;rw[o.nf,av,o.ids] at h;show Tr.fact h (er p) o.bd o.g
def dX:Ó 65 AN [AE p,Es] (nf p):=by
 show ao (hU (tab:=NW) _2 r) λn a=>ao (es _0 r.bd) λc o=>?_;have h:=ah (xu (Ds c)) _ a;rw[o.nf,av,o.ids] at h;show Tr.fact h (er p) o.bd o.g
def uz{l:Â FQ}:∀{s:Â Kd},KL s (l.Ö (Bz c))->ON (Ds c) s l=(l.Ö (Bz c)).Ö AB:=by
 induction l with
 |å=>intro s h;cases h;rfl
 |Æ a l i=>
  intro s h;cases h with
  | @Æ k _ s _ b h=>
   change XK (Ds c) k a::ON (Ds c) s l=AB (Bz c a)::(l.Ö (Bz c)).Ö AB;rw[i h];show â (·::_) ?_;generalize d:Bz c a=x at b;cases b<;>first|rfl|show(bc a).Ð (â AB d)
def mr:Ó 65 Ac [nf p,.Ý AD] (.Ç [AE p,AE [1]]):=by
 show ao (hU (tab:=NX) _2 r) λn a=>ao (es _0 r.bd) λc o=>?_;have h:=ah (xv (Ds c)) _ a;rw[o.nf,uz r (by rw[o.ids];show er p),o.ids] at h;show Tr.fact h (er p) o.bd o.g
end
end
section
noncomputable def Bc.Ś:Ï->Bc->Bc
 |0,_=>.å
 |n+1,.Æ s l=>.Æ s (l.Ś n)
 |_+1,_=>.Æ .Û .å
noncomputable def Bc.Ń:Ï->Bc->Bc
 |n+1,.Æ _ l=>l.Ń n
 |_,l=>l
def rJ(w:Cz)(n:Ï):∀(l:Bc) (ρ ρ':Aa) (p p':AK),((l.Ś n).ex w ρ).Ĉ p= .ok (ρ',Ã) p'->(l.ex w ρ).Ĉ p=((l.Ń n).ex w ρ').Ĉ p':=by
 exists w n,no;induction n with
 |ž=>
  intro l ρ ρ' p p' h;injection h with a b;injection a with a;rw[a,b];cases l<;>rfl
 |ś n i=>
  intro l ρ ρ' p p' h;exists n l ρ ρ' p p',i h;cases l with
  |å=>show bf h
  |freeze=>show bf h
  |Æ s l=>
   exists s l,h;have h:(s.ex w ρ>>= λr=>match r.2 with
    |Ã=>(l.Ś n).ex w r.1
    |À d=>Ñ (r.1,À d)).Ĉ p= .ok (ρ',Ã) p':=h
   change(s.ex w ρ>>= λr=>match r.2 with
    |Ã=>l.ex w r.1
    |À d=>Ñ (r.1,À d)).Ĉ p=((l.Ń n).ex w ρ').Ĉ p'
   rw[ar] at h⊢;cases e:(s.ex w ρ).Ĉ p with
   |Û=>rw[e] at h;show oC h
   |exc=>rw[e] at h;show oC h
   |ok r Bp=>
    rw[e] at h;obtain⟨c,f⟩:=r;cases f using i7 with
    |Ã=>show i l c ρ' Bp p' h
    |À d=>cases h
def hV{l:Bc}(h:(l.Ś n).ex w ρ=Ñ (ρ',Ã)):l.ex w ρ=(l.Ń n).ex w ρ':=M.ext' λp=>rJ w n l ρ ρ' p p (by rw[h];rfl)
def bN{ρ ρ':Aa}(h:s.ex w ρ=Ñ (ρ',Ã)):(Bc.Æ s l).ex w ρ=l.ex w ρ':=by
 change(s.ex w ρ>>= λr=>match r.2 with
  |Ã=>l.ex w r.1
  |À d=>Ñ (r.1,À d))=_
 rw[h];rfl
def EW(a b:D):Aa:=[À (.ê a),À (.ê b),Ã,Ã,Ã,Ã,Ã]
def fL(d:Ï)(x0 x1 x2 x3 x4 x6:Ë Ą)(c v:ä)(a:0<=c):
  Bc.ex (iF d) (.Æ (.Bk 6 (.IP .abs (.Đ 6))) (.Æ (.while (.cmp .gt (.Đ 6) (.Ê 0)) (.Æ (.par Å [(.ê (.Đ 6)),(.ê (.bin .mod (.Đ 5) (.Đ 6)))] [5,6]) .å)) .å)) [x0,x1,x2,x3,x4,À (.ê (.Ê c)),À (.ê (.Ê v))]=Ñ ([x0,x1,x2,x3,x4,À (.ê (.Ê (pi c v))),À (.ê (.Ê 0))],Ã):=by
 show ao (kd (iF d) (.cmp .gt (.Đ 6) (.Ê 0)) (.Æ (.par Å [(.ê (.Đ 6)),(.ê (.bin .mod (.Đ 5) (.Đ 6)))] [5,6]) .å) (λx y=>[x0,x1,x2,x3,x4,À (.ê (.Ê x)),À (.ê (.Ê y))])
  (λx y h=>hR (x:=decide (y>0)) (Ł.ĝ ({X4,λq=>ZH.ĝ {h,S4 q}}))) (λx y h=>dT (N:=0) (k:=0) (n:=0) (hk:=1) (S:=[]) (os:=[]) (ŋ:=[]) (j0 _) (.Æ (c:=.Ç [.Ã,.Ê y]) h .å) _2) v.ï c.ï) λn e=>?_
 rw[UV a] at e;have e:=hQ (w:=(iF d)) rfl e;show(bN (ρ':=[x0,x1,x2,x3,x4,À (.ê (.Ê c)),À (.ê (.Ê v.ï))]) rfl).Ð ((bN e).Ð Î)
def Kk:Bc:=De.Ć.Ń 1
def uA{w:Cz}{ρ a c:Aa}{it:XI}(h:it.ev w ρ=Ñ [d0,d1])(o:it.PR=Ã)(d:b.ex w (ρ.set 6 (À (.ê d0)))=Ñ (a,Ã))(e:b.ex w (a.set 6 (À (.ê d1)))=Ñ (c,Ã)):XS.ex w (.for (.Ě 6) it b) ρ=Ñ (c,Ã):=by
 change(it.ev w ρ>>= λs=>Bh (EA (.Ě 6) (b.ex w) s (HY it.PR ρ)))=_;rw[h,o];change Bh (b.ex w (ρ.set 6 (À (.ê d0)))>>=DR (EA (.Ě 6) (b.ex w) [d1]))=_;rw[d];change Bh (b.ex w (a.set 6 (À (.ê d1)))>>=DR (EA (.Ě 6) (b.ex w) []))=_;rw[e];rfl
def abe(d:Ï){x y:ñ}(i:bd 2600 x)(j:bd 2600 y)(q:y≠0):Kk.ex (iF d) (EW (.É [AB x,AB y]) (.É []))>>=Cf=Ñ (.É [.Ç [.Ê (x/y).õ,.Ê 1],.Ç [.Ê (x/y).þ,.Ê 1]]):=by
 exists d x y,i j q;have B:(1*(x.þ:ä)*y.þ)=x.þ*y.þ:=by rw[R8]
 have A:x.õ*(1*(x.þ:ä)*y.þ).ī x.þ=x.õ*y.þ:=by rw[B,t3 _ (aB x)]
 have C:y.õ*(1*(x.þ:ä)*y.þ).ī y.þ=y.õ*x.þ:=by rw[B,X5 (x.þ:ä),t3 _ (aB y)]
 have m1:AX 1 (x.þ:ä)=Ä:=(aP (b:=x.þ) (c:=1) _0 i.2 _0).1;have m2:AX (1*(x.þ:ä)) y.þ=Ä:=by rw[R8];show(aP (a:=x.þ) (b:=y.þ) (c:=1) i.2 j.2 _0).1
 have E:(1*(x.þ:ä)*y.þ).ī x.þ=y.þ:=by rw[B,t3 _ (aB x)]
 have G:(1*(x.þ:ä)*y.þ).ī y.þ=x.þ:=by rw[B,X5 (x.þ:ä),t3 _ (aB y)]
 have m3:AX x.õ ((1*(x.þ:ä)*y.þ).ī x.þ)=Ä:=by rw[E];show(aP (c:=1) i.1 (aG j) _0).1
 have m4:AX y.õ ((1*(x.þ:ä)*y.þ).ī y.þ)=Ä:=by rw[G];show(aP (c:=1) j.1 (aG i) _0).1
 have H:sm (x.þ:ä)=Ä:=aM (aG i) _0;have I:sm (y.þ:ä)=Ä:=aM (aG j) _0;have J:(Kk.Ś 4).ex (iF d) (EW (.É [AB x,AB y]) (.É []))=Ñ ([À (.ê (.É [AB x,AB y])),À (.ê (.É [])),À (.ê (.Ê (1*(x.þ:ä)*y.þ))),À (.ê (AB y)),À (.ê (.É [.Ê (x.õ*(1*(x.þ:ä)*y.þ).ī x.þ),.Ê (y.õ*(1*(x.þ:ä)*y.þ).ī y.þ)])),À (.ê (.Ê 0)),Ã],Ã):=
  dT (N:=0) (k:=0) (n:=0) (hk:=1) (S:=[]) (os:=[]) (ŋ:=[]) (j0 _) (.Æ (c:=.Ç [.Ê _,.Ê _]) m4 (.Æ (c:=.Ç [.Ê _]) {aB y,I} (.Æ (c:=.Ç [.Ê _,.Ê _]) m3 (.Æ (c:=.Ç [.Ê _]) {aB x,H} (.Æ (c:=.Ç [.Ê _,.Ê _]) m2 (.Æ (c:=.Ç [.Ê _,.Ê _]) m1 .å)))))) _2
 rw[hV J,A,C];have m:y.õ*(x.þ:ä)≠0:=pc (fg.ĝ q) (aB x);have s:sm (y.õ*(x.þ:ä))=Ä:=(aP (c:=1) j.1 (aG i) _0).2.2.1;generalize t:x.õ*(y.þ:ä)=f at*;generalize u:y.õ*(x.þ:ä)=e at*;have v:(pi f e:ä)≠0:=U9.ĝ (A2 (Yk f m));have z:(pi f e:ä).ï<=e.ï:=Ï.le_of_dvd (ZM.ĝ m) (Ï.gcd_dvd_right ..);have L:=uA (w:=(iF d)) (it:=.Ĕ (.Đ 4)) (ρ:=[À (.ê (.É [AB x,AB y])),À (.ê (.É [])),À (.ê (.Ê (1*(x.þ:ä)*y.þ))),À (.ê (AB y)),À (.ê (.É [.Ê f,.Ê e])),À (.ê (.Ê 0)),Ã]) rfl Î (fL d _ _ _ _ _ Ã 0 f _0) (fL d _ _ _ _ _ Ã _ e (s1 _));rw[show Kk.Ń 4= .Æ (.for (.Ě 6) (.Ĕ (.Đ 4)) (.Æ (.Bk 6 (.IP .abs (.Đ 6))) (.Æ (.while (.cmp .gt (.Đ 6) (.Ê 0)) (.Æ (.par Å [(.ê (.Đ 6)),(.ê (.bin .mod (.Đ 5) (.Đ 6)))] [5,6]) .å)) .å))) (Kk.Ń 5) from rfl,bN L];have g:=ke (a:=f) m;rw[<-t,<-u,show(y.õ*(x.þ:ä))=x.þ*y.õ by rw[X5],<-gz] at g;rw[show(x.þ:ä)*y.õ=e by rw[X5,u],t] at g;have g:(if 0<e then f.ī (pi f e) else f.ī (-(pi f e:ä)))=(x/y).õ/\(if 0<e then e.ī (pi f e) else e.ī (-(pi f e:ä)))=(x/y).þ:=by
  injection g with g;injection g with o g;injection g with p;injection o with o;injection p with p;show{o,p}
 by_cases h:0<e
 ·rw[à h,à h] at g;have l:Hc 0 (.Ç [.Ê (pi f e:ä)]):={v,dU s z};rw[dT (N:=0) (k:=0) (n:=0) (hk:=1) (S:=[]) (os:=[.Ù Ä]) (ŋ:=[]) (r:=([À (.ê (.É [AB x,AB y])),À (.ê (.É [])),À (.ê (.Ê (1*(x.þ:ä)*y.þ))),À (.ê (AB y)),À (.ê (.É [.Ê f,.Ê e])),À (.ê (.Ê (pi f e))),À (.ê (.Ê 0))],À (.É [.Ç [.Ê (f.ī (pi f e)),.Ê 1],.Ç [.Ê (e.ī (pi f e)),.Ê 1]]))) (j0 _) (.Æ l (.Æ l (.Æ (c:=.É [.Ù (decide (e>0)),.Ù Ä]) (Ă h) .å))) _2,g.1,g.2];rfl
 ·rw[ß h,ß h] at g;have l:Hc 0 (.Ç [.Ê (0 -(pi f e:ä))]):=by rw[J3];show{Yy.ĝ v,dU s (by rw[U0];show z)}
  rw[<-J3] at g;rw[dT (N:=0) (k:=0) (n:=0) (hk:=1) (S:=[]) (os:=[.Ù Å]) (ŋ:=[]) (r:=([À (.ê (.É [AB x,AB y])),À (.ê (.É [])),À (.ê (.Ê (1*(x.þ:ä)*y.þ))),À (.ê (AB y)),À (.ê (.É [.Ê f,.Ê e])),À (.ê (.Ê (0 -(pi f e:ä)))),À (.ê (.Ê 0))],À (.É [.Ç [.Ê (f.ī (0 -(pi f e:ä))),.Ê 1],.Ç [.Ê (e.ī (0 -(pi f e:ä))),.Ê 1]]))) (j0 _) (.Æ l (.Æ l (.Æ (c:=.É [.Ù (decide (e>0)),.Ù Å]) (û h) .å))) _2,g.1,g.2];rfl
end
section
def gh(q:ñ):Ó 5 Bg [.É [.Ê q.õ,.Ê q.þ]] (.Ê 1):=by
 exists q,no;have a:=cD 0 q.õ;have h:=cD (pi 0 q.õ) q.þ;have e:(pi (pi 0 q.õ:ä) q.þ:ä)=1:=by
  change((Ï.gcd (Ï.gcd 0 q.õ.ï) q.þ:Ï):ä)=1;rw[Ï.gcd_zero_left];show â Ï.cast q.reduced
 rw[e] at h;show sr (N:=1) (k:=4) (n:=0) (hk:=1) (S:=[DD]) (os:=[.Ê (pi 0 q.õ),.Ê 1]) (ŋ:=[]) (.Æ (c:=.É [.Ý DD,.É [.Ê (pi 0 q.õ),.Ê q.þ],.Ê 1]) h (.Æ (c:=.É [.Ý DD,.É [.Ê 0,.Ê q.õ],.Ê (pi 0 q.õ)]) a .å)) _2
def den_pos(q:ñ):decide ((q.þ:ä)>0)=Ä:=Ă (by have:=q.den_pos;show Yz.ĝ this)
def fM(a:ä):a.ī 1=a:=ä.fdiv_one a
def iP(q:ñ):Ó 10 CC [.É [.Ê q.õ,.Ê q.þ]] (.É [.Ê q.õ,.Ê q.þ]):=by
 exists q,no;have h:=gh q;have d1:Hc 5 (.Ç [.Ê 1]):={_0,by decide+kernel};have:=sr (N:=5) (k:=5) (n:=0) (hk:=1) (S:=[Bg]) (f:=CC) (l:=[.É [.Ê q.õ,.Ê q.þ]]) (v:=.É [.Ê (q.õ.ī 1),.Ê ((q.þ:ä).ī 1)]) (os:=[.Ê 1,.Ù Ä]) (ŋ:=[]) (.Æ d1 (.Æ d1 (.Æ (c:=.É [.Ù (decide ((q.þ:ä)>0)),.Ù Ä]) (den_pos q) (.Æ (c:=.É [.Ý Bg,.É [.É [.Ê q.õ,.Ê q.þ]],.Ê 1]) h .å)))) _2;rw[fM,fM] at this;show this
def abf{q:ñ}(a:bd 2600 q):Ó 20 Ct [.É [AB q,.Ç [.Ê 1,.Ê 1]]] (.Ç [.É [.Ê q.õ,.Ê q.þ],AB (wv 1 q.þ)]):=by
 exists q,a;have e:(1*(q.þ:ä)).ī 1*1=q.þ:=by rw[fM,Y8,R8]
 have f:q.õ*((1*(q.þ:ä)).ī 1*1).ī q.þ=q.õ:=by rw[e,Wp (aB q),Y8]
 have b:1*((1*(q.þ:ä)).ī 1*1).ī 1=q.þ:=by rw[e,fM,R8]
 have d1:Hc 10 (.Ç [.Ê 1]):={_0,by decide+kernel};have j:Hc 10 (.Ç [.Ê q.þ]):={aB q,aM (aG a) _0};have g:=cD 1 q.þ;have i:=cD (1*(q.þ:ä)) 1;rw[show(pi 1 (q.þ:ä):ä)=1 by rw[ä.one_gcd];rfl] at g;rw[show(pi (1*(q.þ:ä)) 1:ä)=1 by rw[ä.gcd_one];rfl] at i;have m1:AX 1 (q.þ:ä)=Ä:=(aP (c:=1) _0 (aG a) _0).1;have m2:AX ((1*(q.þ:ä)).ī 1) 1=Ä:=by rw[fM,R8];show(aP (c:=1) (aG a) _0 _0).1
 have m3:AX q.õ (((1*(q.þ:ä)).ī 1*1).ī q.þ)=Ä:=by rw[e,Wp (aB q)];show(aP (c:=1) a.1 _0 _0).1
 have m4:AX 1 (((1*(q.þ:ä)).ī 1*1).ī 1)=Ä:=by rw[e,fM];show m1
 have z:Ó 10 Bg [.É [.Ê (q.õ*((1*(q.þ:ä)).ī 1*1).ī q.þ),.Ê (1*((1*(q.þ:ä)).ī 1*1).ī 1)]] (.Ê 1):=by rw[f,b];show λd h=>gh q d (aQ h)
 have l:Ó 10 CC [.É [.Ê (q.õ*((1*(q.þ:ä)).ī 1*1).ī q.þ),.Ê (1*((1*(q.þ:ä)).ī 1*1).ī 1)]] (.É [.Ê q.õ,.Ê q.þ]):=by rw[f,b];show iP q
 have m:decide (1*((1*(q.þ:ä)).ī 1*1).ī 1>0)=Ä:=by rw[b];show den_pos q
 have r:Ó 10 By [.Ê 1,.Ê ((1*(q.þ:ä)).ī 1*1)] (AB (wv 1 q.þ)):=by rw[e];show λd h=>bT 1 q.þ (aB q) (aM (aG a) _0) d (aQ h)
 show sr (N:=10) (k:=10) (n:=0) (hk:=1) (S:=[DD,Bg,CC,By]) (os:=[.Ê 1,.Ê 1,.Ê 1,.É [.Ê q.õ,.Ê q.þ],.Ù Ä,AB (wv 1 q.þ)]) (ŋ:=[])
  (.Æ (c:=.É [.Ý By,.É [_,_],AB (wv 1 q.þ)]) r (.Æ (c:=.É [.Ù _,.Ù Ä]) m (.Æ (c:=.É [.Ý CC,.É [_],.É [.Ê q.õ,.Ê q.þ]]) l (.Æ (c:=.É [.Ý Bg,.É [_],.Ê 1]) z
  (.Æ (c:=.Ç [.Ê _,.Ê _]) m4 (.Æ d1 (.Æ (c:=.Ç [.Ê _,.Ê _]) m3 (.Æ j (.Æ (c:=.Ç [.Ê _,.Ê _]) m2 (.Æ d1 (.Æ (c:=.É [.Ý DD,.É [.Ê (1*(q.þ:ä)),.Ê 1],.Ê 1]) (λd h=>i d (aQ h)) (.Æ (c:=.Ç [.Ê _,.Ê _]) m1 (.Æ d1 (.Æ (c:=.É [.Ý DD,.É [.Ê 1,.Ê q.þ],.Ê 1]) (λd h=>g d (aQ h)) .å)))))))))))))) _2
end
section
def Jl:Â ñ:=[-2,-1,-1/2,0,1/2,1,2]
def QU(x y z:ñ):Â ä:=
 let B:ä:=x.þ*y.þ*z.þ;let W:Â ä:=[x.õ*(B/x.þ),y.õ*(B/y.þ),z.õ*(B/z.þ)];let g:ä:=(pi (pi (W.ø 0 0) (W.ø 1 0)) (W.ø 2 0))
 W.Ö λw=>w/(if 0<W.ø 2 0 then g else -g)
def UE(l:Â ä):D:=.É (l.Ö λn=>.Ç [.Ê n,.Ê 1])
def WY(x y z:ñ):é×Out (Aa×Ë D)×Out D×Out D:=
 (!decide ((QU x y z).ø 2 0=0)&&(QU x y z).ş λn=>decide (n.ï<2^100),
  match(((Kk.HS {Cj,DT,RN 0 [] 40 20,Hb 40,Ã} 0).f (EW (.É [AB x,AB y,AB z]) (.É []))).Ĉ (Ň [] [])) with
  | .ok (_,d) p=>.ok ([],d) p
  |o=>o,
  (RN 0 [] 40 20 Ct [.ê (.É [AB (x*z⁻¹),AB (y*z⁻¹),.Ç [.Ê 1,.Ê 1]])]).Ĉ (Ň [] []),
  (RN 0 [] 40 20 Dc [.ê (.É ((QU x y z).Ö .Ê))]).Ĉ (Ň [] []))
def VK(x y z:ñ):D:=match(RN 0 [] 40 20 Ct [.ê (.É [AB (x*z⁻¹),AB (y*z⁻¹),.Ç [.Ê 1,.Ê 1]])]).Ĉ (Ň [] []) with
 | .ok (.Ç [_,s]) _=>s
 |_=>.Ã
def WZ(x y z:ñ):é×Out (Aa×Ë D)×Out D×Out D:=(Ä,.ok ([],À (UE (QU x y z))) (Ň [] []),.ok (.Ç [.É ((QU x y z).Ö .Ê),VK x y z]) (Ň [] []),.ok (UE (QU x y z)) (Ň [] []))
noncomputable def v6:Â ñ:=[-2,-1,-1/2,1/2,1,2]
def xx:AR (λx=>AR (λy=>AR (λz=>WY x y z) v6) Jl) Jl=Jl.Ö λx=>Jl.Ö λy=>v6.Ö λz=>WZ x y z:=_2
def uB{w:Cz}{ρ a:Aa}{it:XI}(h:it.ev w ρ=Ñ [d0])(o:it.PR=Ã)(c:b.ex w (ρ.set 6 (À (.ê d0)))=Ñ (a,Ã)):XS.ex w (.for (.Ě 6) it b) ρ=Ñ (a,Ã):=by
 change(it.ev w ρ>>= λd=>Bh (EA (.Ě 6) (b.ex w) d (HY it.PR ρ)))=_;rw[h,o];change Bh (b.ex w (ρ.set 6 (À (.ê d0)))>>=DR (EA (.Ě 6) (b.ex w) []))=_;rw[c];rfl
def rK{a:ä}(h:a≠0):(if 0<a then a.ī a.ï else a.ī (0 -(a.ï)))=1:=by
 split
 ·rename_i q;rw[UV (YL q),Wp h]
 ·rename_i q;rw[Uf (Yp.mp q),J3,ä.neg_neg,Wp h]
def abg(d:Ï){x:ñ}(e:bd 2600 x)(g:x≠0):Kk.ex (iF d) (EW (.É [AB x]) (.É []))>>=Cf=Ñ (UE [1]):=by
 exists d x,e g;have B:1*(x.þ:ä)=x.þ:=R8 _;have w:x.õ*(1*(x.þ:ä)).ī x.þ=x.õ:=by rw[B,Wp (aB x),Y8]
 have m1:AX 1 (x.þ:ä)=Ä:=(aP (b:=x.þ) (c:=1) _0 e.2 _0).1;have m3:AX x.õ ((1*(x.þ:ä)).ī x.þ)=Ä:=by rw[B,Wp (aB x)];show(aP (c:=1) e.1 _0 _0).1
 have l:sm (x.þ:ä)=Ä:=aM (aG e) _0;have E:(Kk.Ś 4).ex (iF d) (EW (.É [AB x]) (.É []))=Ñ ([À (.ê (.É [AB x])),À (.ê (.É [])),À (.ê (.Ê (1*(x.þ:ä)))),À (.ê (AB x)),À (.ê (.É [.Ê (x.õ*(1*(x.þ:ä)).ī x.þ)])),À (.ê (.Ê 0)),Ã],Ã):=
  dT (N:=0) (n:=0) (hk:=1) (S:=[]) (os:=[]) (ŋ:=[]) (j0 _) (.Æ (c:=.Ç [.Ê _,.Ê _]) m3 (.Æ (c:=.Ç [.Ê _]) {aB x,l} (.Æ (c:=.Ç [.Ê _,.Ê _]) m1 .å))) _2
 rw[hV E,w];have i:x.õ≠0:=fg.ĝ g;have s:sm x.õ=Ä:=aM e.1 _0;generalize x.õ=a at*;have m:=uB (it:=.Ĕ (.Đ 4)) (ρ:=[À (.ê (.É [AB x])),À (.ê (.É [])),À (.ê (.Ê (1*(x.þ:ä)))),À (.ê (AB x)),À (.ê (.É [.Ê a])),À (.ê (.Ê 0)),Ã]) rfl Î (fL d _ _ _ _ _ Ã 0 a _0);rw[show Kk.Ń 4= .Æ (.for (.Ě 6) (.Ĕ (.Đ 4)) (.Æ (.Bk 6 (.IP .abs (.Đ 6))) (.Æ (.while (.cmp .gt (.Đ 6) (.Ê 0)) (.Æ (.par Å [(.ê (.Đ 6)),(.ê (.bin .mod (.Đ 5) (.Đ 6)))] [5,6]) .å)) .å))) (Kk.Ń 5) from rfl,bN m];have y:=rK i;have j:(a.ï:ä)≠0:=U9.ĝ (ä.natAbs_ne_zero.ĝ i);by_cases h:0<a
 ·rw[à h] at y;have f:Hc 0 (.Ç [.Ê (a.ï:ä)]):={j,dU s (a3 _)};rw[dT (N:=0) (k:=0) (n:=0) (hk:=1) (S:=[]) (os:=[.Ù Ä]) (ŋ:=[]) (r:=([À (.ê (.É [AB x])),À (.ê (.É [])),À (.ê (.Ê (1*(x.þ:ä)))),À (.ê (AB x)),À (.ê (.É [.Ê a])),À (.ê (.Ê a.ï)),À (.ê (.Ê 0))],À (.É [.Ç [.Ê (a.ī a.ï),.Ê 1]]))) (j0 _) (.Æ f (.Æ (c:=.É [.Ù (decide (a>0)),.Ù Ä]) (Ă h) .å)) _2,y];rfl
 ·rw[ß h] at y;have f:Hc 0 (.Ç [.Ê (0 -(a.ï:ä))]):={λq=>j (Zv.mp ((J3 _).symm.Ð q)),dU s (by rw[J3,U0];show a3 _)};rw[dT (N:=0) (k:=0) (n:=0) (hk:=1) (S:=[]) (os:=[.Ù Å]) (ŋ:=[]) (r:=([À (.ê (.É [AB x])),À (.ê (.É [])),À (.ê (.Ê (1*(x.þ:ä)))),À (.ê (AB x)),À (.ê (.É [.Ê a])),À (.ê (.Ê (0 -(a.ï:ä)))),À (.ê (.Ê 0))],À (.É [.Ç [.Ê (a.ī (0 -(a.ï:ä))),.Ê 1]]))) (j0 _) (.Æ f (.Æ (c:=.É [.Ù (decide (a>0)),.Ù Å]) (û h) .å)) _2,y];rfl
def abh:Ó 20 Ct [.É [.Ç [.Ê 1,.Ê 1]]] (.Ç [.É [.Ê 1],.Ç [.Ê 1,.Ê 1]]):=sr (N:=0) (n:=40) (hk:=0) (S:=[]) (os:=[]) (ŋ:=[]) .å _2
end
section
structure Œ(p:Â ñ):Prop where
 ŏ:p.Á<=3
 AL:∀c,p.ÀR =À c->c≠0
 el:∀c∈p,c∈Jl
def Œ.row(h:Œ p):Row 2 p:=⟨h.ŏ,h.AL,λc a=>by
 have:∀c∈Jl,c.õ.ï<2^2/\c.þ<2^2:=by decide+kernel
 show this c (h.el c a)⟩
def pl(h:c∈Jl)(a:c≠0):c∈v6:=by
 have:∀c∈Jl,c=0\/c∈v6:=by decide+kernel
 show(this c h).ÀV a
inductive Ô:Â ñ->Â ñ->Prop
 |å:Ô [] []
 |one {x}:x≠0->bd 2600 x->Ô [x] [1]
 |two {x y}:y≠0->bd 2600 x->bd 2600 y->bd 99 (x*y⁻¹)->Ô [x,y] [x*y⁻¹,1]
 |three {x y z}:x∈Jl->y∈Jl->z∈v6->Ô [x,y,z] [x*z⁻¹,y*z⁻¹,1]
def VL(r:Fr)(s:Ï×Ï)(l:Lf (Â FQ)):Out D:=Uz QE ET [Cw r (BV 0 s.1),Cw r (BV 3 s.2)] (AQ.ds r l.as)
def VM(r:Fr)(s:Ï×Ï)(l:Lf (Â FQ)):Out (Aa×Ë D):=(((De.Ć.Ś 1).HS {Cj,DT,RN 1 QE 60 60,Hb 60,Ã} 1).f (EW (Cw r (BV 0 s.1)) (Cw r (BV 3 s.2)))).Ĉ (Ň ((AQ.ds r l.as).ĥ NQ) [])
def Sm(r:Fr):Prop:=AR (λs=>AR (λl=>(VL r s l,AR (VM r s) (UC s l))) (UB s)) Na=Na.Ö λs=>(UB s).Ö λl=>(.ok (Cw r l.r) (Ň [] (AQ.ds r l.as).Ė),(UC s l).Ö λk=>.ok (EW (Cw r k.r) (.É []),Ã) (Ň [] (AQ.ds r k.as).Ė))
def W_:Fr:=Kj Sm
def xy(r:Fr):Sm r:=aI (show Sm W_ by unfold Sm;kernel_rfl) r
def Po.knG(t:Po c B a b)(r:Row B a)(g:Row B b):Kn c B [] (VG (a.Á,b.Á)) where
 z:=λf h=>nomatch h
 b:=λi _=>t.bd i
 n:=λf d=>by
  rcases dL.mp d with d|d
  ·cases e:a.Á with
   |ž=>rw[e] at d;cases d
   |ś n=>
    rw[e] at d;rw[am.mp d];have:=r.last λq=>by rw[q] at e;cases e
    rw[e] at this;show λz=>this ((t.ga n (Ps (p1 n) e.symm)).symm.Ð z)
  ·cases e:b.Á with
   |ž=>rw[e] at d;cases d
   |ś n=>
    rw[e] at d;rw[am.mp d];have:=g.last λq=>by rw[q] at e;cases e
    rw[e] at this;show λz=>this ((t.gb n (Ps (p1 n) e.symm)).symm.Ð z)
section
variable{c:CQ}{zs ns:List FQ}(w:Kn c 2 zs ns)
include w
def Rw(c:CQ)(v:FQ):Â FQ->Â ñ
 |[]=>[]
 |[_]=>[1]
 |x::l=>Bz c x*(Bz c v)⁻¹ ::Rw c v l
def gC(a:dn c v.n≠0)(b:dn c v.d≠0):∀(L g:Â FQ),NU ns v L g=Ä->(∀x∈L,dn c x.d≠0)->g.Ö (Bz c)=Rw c v L
 |[_],[y],h,_=>by
  have:y= .i:=by cases y<;>first|rfl|show fT h
  subst this;show â (λx=>[x]) cY
 |x::z::l,y::g,h,e=>by
  change Bz c y::g.Ö (Bz c)=Bz c x*(Bz c v)⁻¹ ::Rw c v (z::l);rw[gC a b (z::l) g (ae h) λx h=>e x (.ě _ h),<-ph w (af h),fh (e x (.Ď _)) (ki a b),gA]
 |[x],y::z::g,h,_=>by
  have h:(Sg ns (EV x (FR v)) y&&Å)=Ä:=h;show absurd (ae h) _0
def aag{a b:Â ñ}(k:Œ a)(o:Œ b)(t:Po c 2 a b){L g:Â FQ}(h:VH (a.Á,b.Á) ns L g=Ä):Ô (L.Ö (Bz c)) (g.Ö (Bz c))/\(L=[]->a=[]/\b=[]):=by
 match L with
 |[]=>
  rw[V9.mp (l0 (af h))];show{.å,λ_=>{V9.mp (l0 (af (ae h))),V9.mp (l0 (ae (ae h)))}}
 |x::L=>
  have p:=af h;have m:=af (ae h);have h:=ae (ae h);have v:∀y∈x::L,dn c y.d≠0/\bd 2600 (Bz c y):=λy f=>{cO w _ (af (an.mp (af h) y f)),pd w (ae (an.mp (af h) y f))};have h:=ae h;have n0:=cq w p;show{?_,λq=>nomatch q};rcases L with _|⟨y,_|⟨z,_|⟨u,L⟩⟩⟩
  ·rw[gC w n0 (v x (.Ď _)).1 _ _ m λy f=>(v y f).1];show .one (λq=>n0 ((da (v x (.Ď _)).1).mp q)) (v x (.Ď _)).2
  ·have y2:=v y (.ě _ (.Ď _));have n0:dn c y.n≠0:=n0;rw[gC w n0 y2.1 _ _ m λy f=>(v y f).1];have b9:Kv 2 (EV x (FR y)).n+Kv 2 (EV x (FR y)).d<=99:=be (an.mp (af h) x (.Ď _));have b:bd 99 (Bz c (EV x (FR y))):=((fJ w _ (ac (ac (bv ..) b9) _0)).div (fJ w _ (ac (ac (f3 ..) b9) _0))).le b9;rw[fh (v x (.Ď _)).1 (ki n0 y2.1),gA] at b;show .two (λq=>n0 ((da y2.1).mp q)) (v x (.Ď _)).2 y2.2 b
  ·have j:=v z (.ě _ (.ě _ (.Ď _)));rw[gC w n0 j.1 _ _ m λy f=>(v y f).1];have l:∀r∈[Bz c x,Bz c y,Bz c z],r∈Jl:=by
    have h:=(g4.mp (ae h)).ÀV (show ¬s4 3 2=Ä by decide);rcases g4.mp h with h|h
    ·have i:[Bz c x,Bz c y,Bz c z]=_:=aN w (ae h);have e:=t.ea;rw[show a.Á=3 from l0 (af h)] at e;rw[i,e];show k.el
    ·have i:[Bz c x,Bz c y,Bz c z]=_:=aN w (ae h);have e:=t.eb;rw[show b.Á=3 from l0 (af h)] at e;rw[i,e];show o.el
   show .three (l _ (.Ď _)) (l _ (.ě _ (.Ď _))) (pl (l _ (.ě _ (.ě _ (.Ď _)))) λq=>n0 ((da j.1).mp q))
  ·have h:=(g4.mp (ae h)).ÀV λq=>by have:=be q;simp at this
   rcases g4.mp h with h|h<;>cases ae (ae (ae (ae h)))
end
def hW(h:i<=3)(a:j<=3):(i,j)∈Na:=(by decide:∀i,i<4->∀j,j<4->(i,j)∈Na) i (i4 h) j (i4 a)
def aah(f:Œ a)(h:Œ b)(i:a≠[]\/b≠[]):∃L g,Ô L g/\L≠[]/\Ó 65 ET [AE a,AE b] (AE g)/\∀d,65<=d->(De.Ć.Ś 1).ex (iF d) (EW (AE a) (AE b))=Ñ (EW (AE L) (.É []),Ã):=by
 exists a b,f h i;show ao (pg _0 f.ŏ h.ŏ f.row.bd h.row.bd) λc t=>?_;have m:=hW f.ŏ h.ŏ;show ag (TR.fK (OL 5 (BV 0 a.Á) (BV 3 b.Á)) [] _ [] (t.knG f.row h.row)) λl j w=>ag (TR.fK (QO 5 (BV 0 a.Á) (BV 3 b.Á)) l.zs l.ns [] w) λk n o=>?_;have p:=an.mp (an.mp xr _ m) l j;have s:=an.mp (ae p) k n;have e:=f0 (ah (ah (xy (Ds c)) _ m) l j);have u:=Lf.fact w (af p) e.1;rw[av,av,av,t.ea,t.eb] at u;show aj (aag o f h t (ae s)) λv z=>{_,_,v,λq=>?_,u,λd A=>?_}
 ·have:=z (N6.mp q);show i.ç (· this.1) (· this.2)
 ·have r:=dT A (λx B=>by
   show ag (F3.mp (SC.mp B)) λy C q=>AQ.sound o (a3 5) (an.mp (af s) y C) x q) (ah e.2 k n)
  rw[av,av,av,t.ea,t.eb] at r;show r
end
section
def QV:Â Tr:=IZ.Ö λk=>{k,0}
def Ip(n:Ï):Â D:=bif s4 2 n then [.Ý AD] else []
def QW(r:Fr):Prop:=AR (λt=>(t.Ĉ [] Ao [t.nf r] r,t.Ĉ [] AZ [bif s4 2 t.ks.Á then t.nf r else Es] r)) QV=QV.Ö λt=>(t.to (.É (Ip t.ks.Á)) r,t.to (.Ù Å) r)
def Xa:Fr:=Kj QW
def pq(r:Fr):QW r:=aI (P:=QW) (show QW Xa by unfold QW;kernel_rfl) r
def jv{B:Ï}{p:Â ñ}(r:Row B p):({Hf p,0}:Tr)∈QV:=i1.ĝ {_,dW r,Î}
def Gz(p:Â ñ):Â D:=if 2<=p.Á then [.Ý AD] else []
def mv{p:Â ñ}(r:Row 100 p):Ó 65 Ao [nf p] (.É (Gz p)):=by
 show ao (es _0 r.bd) λc o=>?_;have h:=(f0 (ah (pq (Ds c)) _ (jv r))).1;have e:Ip (Hf p).Á=Gz p:=by
  unfold Ip Gz;rw[kds_len];by_cases q:2<=p.Á
  ·rw[à q,l4 q];rfl
  ·rw[ß q,AT.ĝ λz=>q (be z)];rfl
 rw[o.nf] at h;have h:=Tr.fact h (er p) o.bd o.g;rw[e] at h;show h
def hX{p:Â ñ}(r:Row 100 p)(a:2<=p.Á):Ó 65 AZ [nf p] (.Ù Å):=by
 show ao (es _0 r.bd) λc o=>?_;have h:=(f0 (ah (pq (Ds c)) _ (jv r))).2;dsimp only at h;rw[o.nf,kds_len,l4 a] at h;show Tr.fact h (er p) o.bd o.g
def cg{p:Â ñ}(r:Row 100 p):Ó 70 Bj [nf p,.Ý AD] (AE p):=
 sr (N:=65) (k:=5) (n:=0) (hk:=1) (S:=[Ac]) (os:=[.Ç [AE p,AE [1]]]) (ŋ:=[]) (.Æ (c:=.É [.Ý Ac,.É [nf p,.Ý AD],.Ç [AE p,AE [1]]]) (mr r) .å) _2
def uC{a b:Â ñ}(r:Row 100 a)(g:Row 100 b)(h:2<=a.Á\/2<=b.Á):Ó 70 Cn [.É [nf a,nf b]] (.Ý AD):=by
 have d:=mv r;have f:=mv g;unfold Gz at d f;by_cases q:2<=a.Á
 ·rw[à q] at d;by_cases e:2<=b.Á
  ·rw[à e] at f;show sr (N:=65) (k:=5) (n:=0) (hk:=0) (S:=[Ao]) (os:=[.É [.Ý AD],.É [.Ý AD]]) (ŋ:=[]) (.Æ (c:=.É [.Ý Ao,.É [nf b],.É [.Ý AD]]) f (.Æ (c:=.É [.Ý Ao,.É [nf a],.É [.Ý AD]]) d .å)) _2
  ·rw[ß e] at f;show sr (N:=65) (k:=5) (n:=0) (hk:=0) (S:=[Ao]) (os:=[.É [.Ý AD],.É []]) (ŋ:=[]) (.Æ (c:=.É [.Ý Ao,.É [nf b],.É []]) f (.Æ (c:=.É [.Ý Ao,.É [nf a],.É [.Ý AD]]) d .å)) _2
 ·rw[ß q] at d;rw[à (h.ÀV q)] at f;show sr (N:=65) (k:=5) (n:=0) (hk:=0) (S:=[Ao]) (os:=[.É [],.É [.Ý AD]]) (ŋ:=[]) (.Æ (c:=.É [.Ý Ao,.É [nf b],.É [.Ý AD]]) f (.Æ (c:=.É [.Ý Ao,.É [nf a],.É []]) d .å)) _2
def uD{a b:Â ñ}(e:Œ a)(f:Œ b)(j:b≠[]):∃q r,Ó 75 BD [nf a,nf b,.Ý AD] (.Ç [nf q,nf r])/\Ó 65 Br [AE a,AE b] (.Ç [AE q,AE r])/\Row 100 q/\Row 100 r:=by
 show iD (xq e.row f.row j) λq r l m g i _=>?_;have p:=cg (e.row.le _0);have o:=cg (f.row.le _0);have t:=dX g;have AL:=dX i;show⟨q,r,sr (N:=70) (k:=5) (n:=0) (hk:=1) (S:=[Bj,DE,AN]) (os:=[AE a,AE b,.Ç [AE q,AE r],nf q,nf r]) (ŋ:=[])
  (.Æ (c:=.É [.Ý AN,.É [AE r,Es],nf r]) (λd h=>AL d (aQ h)) (.Æ (c:=.É [.Ý AN,.É [AE q,Es],nf q]) (λd h=>t d (aQ h)) (.Æ (c:=.É [.Ý DE,.É [AE a,AE b],.Ç [AE q,AE r]]) (λd h=>l d (aQ h)) (.Æ (c:=.É [.Ý Bj,.É [nf b,.Ý AD],AE b]) o (.Æ (c:=.É [.Ý Bj,.É [nf a,.Ý AD],AE a]) p .å))))) _2,m,g,i⟩
end
section
def UG(l:Â ä):Â ñ:=l.Ö λn:ä=>(n:ñ)
def km(l:Â ä):UE l=AE (UG l):=by
 unfold UE AE UG;rw[lf];rfl
def Row.ofInts(b:l.Á<=3)(d:∀n,l.ÀR =À n->n≠0)(e:∀n∈l,n.ï<2^100):Row 100 (UG l) where
 ŏ:=by unfold UG;rw[a2];show b
 AL:=λc h=>by
  unfold UG at h;rw[YX] at h;obtain⟨n,a,Î⟩:=h9.mp h;show λq=>d n a (ñ.intCast_eq_zero_iff.mp q)
 bd:=λc h=>by
  obtain⟨n,a,Î⟩:=i1.mp h;show{e n a,Ï.one_lt_two_pow _0}
def abi(a b:ä):Ó 5 Dc [.É [.Ê a,.Ê b]] (UE [a,b]):=sr (N:=0) (n:=0) (hk:=1) (S:=[]) (os:=[]) (ŋ:=[]) .å _2
def abj:Ó 5 Dc [.É [.Ê 1]] (UE [1]):=sr (N:=0) (n:=0) (hk:=1) (S:=[]) (os:=[]) (ŋ:=[]) .å _2
def rL{L g:Â ñ}(h:Ô L g)(q:L≠[]):∃z:Â ñ,Row 100 z/\(∀d,20<=d->Kk.ex (iF d) (EW (AE L) (.É []))>>=Cf=Ñ (AE z))/\∃A s,Ó 20 Ct [AE g] (.Ç [A,s])/\Ó 20 Dc [A] (AE z):=by
 exists L g,h q;cases h with
 |å=>show absurd rfl q
 | @one x t j=>
  show{[1],{_0,λc u=>?_,λc u=>?_},λd _=>abg d j t,_,_,abh,λd b=>abj d (aQ b)}
  ·(have l:=al u;clear u;subst l);decide
  ·rw[am.mp u];show kg 99
 | @two x y t j m v=>
  exists x y,t j m v q;have e:x/y=x*y⁻¹ :=Yt x y;have r:Row 100 (UG [(x/y).õ,((x/y).þ:ä)]):=Row.ofInts (v3 2) (λn a=>by(have l:=al a;clear a;subst l);show aB _) (λn a=>by
   rw[e] at a;rcases a5.mp a with rfl|a
   ·show ce v.1 (p2 _0)
   ·rw[am.mp a];show ce v.2 (p2 _0))
  show{_,r,λd _=>?_,.É [.Ê (x*y⁻¹).õ,.Ê (x*y⁻¹).þ],_,abf (v.le _0),λd b=>?_}
  ·rw[<-km];show abe d j m t
  ·rw[<-km,e];show abi _ _ d (aQ b)
 | @three x y z j m B=>
  exists x y z,j m B q;have h:=ah (ah (ah xx x j) y m) z B;show aj (f0 h) λC h=>aj (f0 h) λi h=>aj (f0 h) λE G=>?_;have H:(QU x y z).ø 2 0≠0:=š ((wP _).mp (af C));have r:Row 100 (UG (QU x y z)):=Row.ofInts (a3 3) (λn a=>by
   have:(QU x y z).ÀR =À ((QU x y z).ø 2 0):=rfl;rw[this] at a;(have l:=al a;clear a;subst l);show H) (λn a=>Ø (an.mp (ae C) n a))
  show{_,r,λd b=>?_,.É ((QU x y z).Ö .Ê),VK x y z,?_,?_}
  ·exists d,b;rw[<-km];revert i;generalize w:((Kk.HS {Cj,DT,RN 0 [] 40 20,Hb 40,Ã} 0).f (EW (.É [AB x,AB y,AB z]) (.É []))).Ĉ (Ň [] [])=o;exists o,w;intro i
   match o,w,i with
   | .ok (O,Q) p,w,i=>
    injection i with i I;injection i with i J;subst J I;have:=dT (N:=0) (k:=20) (n:=40) (hk:=0) (S:=[]) (d:=d) b .å w;rw[show EW (AE [x,y,z]) (.É [])=EW (.É [AB x,AB y,AB z]) (.É []) from rfl,this];rfl
  ·show λd b=>sr (N:=0) (k:=20) (n:=40) (hk:=0) (S:=[]) .å E d b
  ·rw[<-km];show λd b=>sr (N:=0) (k:=20) (n:=40) (hk:=0) (S:=[]) .å G d b
def uE{a b:Â ñ}(j:Œ a)(o:Œ b)(h:2<=a.Á\/2<=b.Á)(f:∃w,Ó 65 AZ [nf a] (.Ù w)):∃z,Row 100 z/\Ó 75 Cu [nf a,nf b] (nf z)/\Ó 66 Dd [AE a,AE b] (AE z):=by
 exists a b,j o h f;have B:a≠[]\/b≠[]:=h.imp (λh q=>by subst q;simp at h) (λh q=>by subst q;simp at h);show cb (aah j o B) λL g E G H p=>au (rL E G) λz x I J=>aD J λi s O Q=>?_;have r:=j.row.le (C:=100) _0;have u:=o.row.le (C:=100) _0;have T:=uC r u h;have U:=cg r;have V:=cg u;have Y:=dX x;show{z,x,?_,λd e=>?_}
 ·show ao f λw v=>?_;have tl:Hs (Hc 70) [.É [.Ý AN,.É [AE z,Es],nf z],.É [.Ý Dc,.É [i],AE z],.É [.Ý Ct,.É [AE g],.Ç [i,s]],.É [.Ý ET,.É [AE a,AE b],AE g],.É [.Ý Bj,.É [nf b,.Ý AD],AE b],.É [.Ý Bj,.É [nf a,.Ý AD],AE a],.É [.Ý Cn,.É [.É [nf a,nf b]],.Ý AD]]:=
   .Æ (λd e=>Y d (aQ e)) (.Æ (λd e=>Q d (aQ e)) (.Æ (λd e=>O d (aQ e)) (.Æ (λd e=>H d (aQ e)) (.Æ V (.Æ U (.Æ T .å))))))
  have y:∀{l:Â D},Hs (Hc 70) l->Hs (Hc 70) ([.É [.Ý AN,.É [AE z,Es],nf z],.É [.Ý Dc,.É [i],AE z],.É [.Ý Ct,.É [AE g],.Ç [i,s]],.É [.Ý ET,.É [AE a,AE b],AE g],.É [.Ý Bj,.É [nf b,.Ý AD],AE b],.É [.Ý Bj,.É [nf a,.Ý AD],AE a],.É [.Ý Cn,.É [.É [nf a,nf b]],.Ý AD]]++l):=λhl c p=>(dL.mp p).ç (tl c) (hl c);cases w using ci with
  |Å=>show sr (N:=70) (k:=5) (n:=0) (hk:=1) (S:=[AZ,Cn,Bj,ET,Ct,Dc,AN]) (os:=[.Ù Å,.Ý AD,AE a,AE b,AE g,.Ç [i,s],AE z,nf z]) (ŋ:=[]) (y (.Æ (c:=.É [.Ý AZ,.É [nf a],.Ù Å]) (λd e=>v d (aQ e)) .å)) _2
  |Ä=>
   by_cases A:2<=b.Á
   ·have wb:=hX u A;show sr (N:=70) (k:=5) (n:=0) (hk:=1) (S:=[AZ,Cn,Bj,ET,Ct,Dc,AN]) (os:=[.Ù Ä,.Ù Å,.Ý AD,AE a,AE b,AE g,.Ç [i,s],AE z,nf z]) (ŋ:=[]) (y (.Æ (c:=.É [.Ý AZ,.É [nf b],.Ù Å]) (λd e=>wb d (aQ e)) (.Æ (c:=.É [.Ý AZ,.É [nf a],.Ù Ä]) (λd e=>v d (aQ e)) .å))) _2
   ·have f:=hX r (h.Ŏ A) 65 (a3 _);have:=v 65 (a3 _);rw[f] at this;have:=â (λm=>m.Ĉ Ã) this;cases this
 ·obtain⟨d,Î⟩:=eD e;rw[show R (d+1) Dd ([AE a,AE b].Ö .ê)=_ from bS (t:=De) rfl Î];change De.Ć.ex _ (EW (AE a) (AE b))>>=Cf=_;rw[hV (p d (kW e))];show I d (kW e)
end
section
section
variable{w' w:Cz}{N:Nat}{hk:Nat}(W:MZ (Hc N) w' w)
include W
def hY(f:Aa->M (Aa×Ë D))(ρ:Aa):Gf f (λρ=>Ñ (ρ,Ã)) ρ=f ρ:=by
 change(f ρ>>= λr=>match r.2 with
  |Ã=>Ñ (r.1,Ã)
  |À d=>Ñ (r.1,À d))=f ρ
 rw[show(λr:Aa×Ë D=>(match r.2 with
  |Ã=>Ñ (r.1,Ã)
  |À d=>Ñ (r.1,À d):M (Aa×Ë D)))= λr=>Ñ r by funext r;obtain⟨a,b⟩:=r;induction b using i7<;>rfl,M.ÂI]
def xA(s:XS):Bx (Hc N) (s.HS w' hk).f (s.ex w):=λa=>by
 have h:=dS W (hk:=hk) (.Æ s .å) a;rw[show(Bc.HS w' hk (.Æ s .å)).f a=Gf (s.HS w' hk).f (λa=>Ñ (a,Ã)) a from rfl,show Bc.ex w (.Æ s .å) a=Gf (s.ex w) (λa=>Ñ (a,Ã)) a from rfl,hY W,hY W] at h;show h
end
end
section
abbrev rI(hk:Ï)(S:Â Þ)(n k:Ï):Cz:={Cj,DT,RN hk S n k,Hb n,À (RN hk S n k)}
def ro{N n k d:Ï}{hk:Ï}{S:Â Þ}{t:AF}(l:Â Ą){os ŋ c:Â D}(a:C_ f=À t)(b:l.Á=t.np)(h:k+N+3<=d)(s:Hs (Hc N) c)(Ĉ:((t.Ć.HS (rI hk S n k) hk).f (Bf l (t.nm.Á -t.np))>>=Cf).Ĉ (Ň os [])= .ok v (Ň ŋ c)):R d f l=Ñ v:=by
 obtain⟨d,Î⟩:=yZ h;rw[bS a b (d:=d+2),Ō.told ((dS (n_ (On h)) t.Ć _).Ĕ gw) Ĉ s]
def ÂT(h:AV v=Ä):B_ .eq v v=Ñ (.Ù Ä):=by
 change(if(AV v&&AV v)=Ä then Ñ (f2 v v) else M.Û)>>=_=_;rw[h];rw[Yb _ (af h)];rfl
def Kl(v:D):é:=v.Àx&&s4 v.ű 60
def uF(c:Ï->ä×ä):(IZ.Ö λk=>Kl (QR k (([0,1,2].Ś k.Á).Ö c)))=IZ.Ö λ_=>Ä:=_2
def kp(r:Row B p):Kl (nf p)=Ä:=by
 have h:=Q3.mp (uF λi=>((p.ø i 0).õ,((p.ø i 0).þ))) _ (dW r);have l:=r.ŏ;clear r;rcases p with _|⟨a,_|⟨b,_|⟨c,_|⟨d,p⟩⟩⟩⟩
 ·show h
 ·show h
 ·show h
 ·show h
 ·show absurd l (by simp)
def uG(h:Kl v=Ä):AV (.Ç [.Ý "told",v])=Ä:=by
 show im.ĝ {?_,Ă ?_}
 ·change((ā.Ý _).Àx&&(v.Àx&&Ä))=Ä;rw[af h];kernel_rfl
 ·show ol (V3.ĝ {_0,V3.ĝ {ac (be (ae h)) _0,_0}})
def rM(h:Kl v=Ä)(k:Kl w=Ä):AV (.Ç [.Ý "told",.Ç [v,w]])=Ä:=by
 show im.ĝ {?_,Ă ?_}
 ·change((ā.Ý _).Àx&&((v.Àx&&(w.Àx&&Ä))&&Ä))=Ä;rw[af h,af k];kernel_rfl
 ·show ol (V3.ĝ {_0,V3.ĝ {ol (V3.ĝ {ac (be (ae h)) _0,V3.ĝ {ac (be (ae k)) _0,_0}}),_0}})
def div_right{a b:Â ñ}(f:Œ a)(e:Œ b){d:Ï}(h:100<=d):R d BJ [.ê (AE a),.ê (AE b),.ê (nf a),.ê (nf b)]=Ñ (.Ù Ä):=by
 exists a b d,f e h;by_cases g:b=[]
 ·subst g;have p:=cg (f.row.le _0);have o:=cg (e.row.le _0);show ro (k:=10) (n:=10) (hk:=1) (S:=[Bj]) (t:=BK) _ (os:=[AE a,.É [],.Ù Ä]) (ŋ:=[]) _2 Î (aQ h) (.Æ (c:=.Ç [.Ù Ä,.Ç [.Ý "refused",.Ý "division by zero"],.Ç [.Ý "refused",.Ý "division by zero"],.Ù Ä]) (ÂT _2) (.Æ (c:=.É [.Ý Bj,.É [nf [],.Ý AD],.É []]) o (.Æ (c:=.É [.Ý Bj,.É [nf a,.Ý AD],AE a]) p .å))) _2
 ·show cb (uD f e g) λq r i j l m=>?_;exists q r,i j l m;have v:=fi l;have w:=fi m;have s:Hs (Hc 75) [.Ç [.Ù Ä,.Ç [.Ý "told",.Ç [nf q,nf r]],.Ç [.Ý "told",.Ç [nf q,nf r]],.Ù Ä],.É [.Ý BD,.É [nf a,nf b,.Ý AD],.Ç [nf q,nf r]],.É [.Ý Bd,.É [AE r],nf r],.É [.Ý Bd,.É [AE q],nf q],.É [.Ý Br,.É [AE a,AE b],.Ç [AE q,AE r]]]:=
   .Æ (ÂT (rM (kp l) (kp m))) (.Æ i (.Æ (λd h=>w d (aQ h)) (.Æ (λd h=>v d (aQ h)) (.Æ (λd h=>j d (aQ h)) .å))))
  obtain⟨A,_,_⟩:=e;clear i j;rcases b with _|⟨x,_|⟨y,_|⟨z,_|⟨u,b⟩⟩⟩⟩
  ·show absurd rfl g
  ·show ro (k:=10) (n:=10) (hk:=1) (S:=[Br,Bd,BD]) (t:=BK) _ (os:=[.Ç [AE q,AE r],nf q,nf r,.Ç [nf q,nf r],.Ù Ä]) (ŋ:=[]) _2 Î (aQ h) s _2
  ·show ro (N:=75) (k:=10) (n:=10) (hk:=1) (S:=[Br,Bd,BD]) (t:=BK) _ (os:=[.Ç [AE q,AE r],nf q,nf r,.Ç [nf q,nf r],.Ù Ä]) (ŋ:=[]) _2 Î (aQ h) s _2
  ·show ro (N:=75) (k:=10) (n:=10) (hk:=1) (S:=[Br,Bd,BD]) (t:=BK) _ (os:=[.Ç [AE q,AE r],nf q,nf r,.Ç [nf q,nf r],.Ù Ä]) (ŋ:=[]) _2 Î (aQ h) s _2
  ·show absurd A (by simp)
end
section
def KD(k:Â Kd)(c:Ï->ä×ä):D:=QR k (([0,1,2].Ś k.Á).Ö c)
def Nc(p:Â ñ)(i:Ï):ä×ä:=((p.ø i 0).õ,((p.ø i 0).þ:ä))
def oe(r:Row B p):nf p=KD (Hf p) (Nc p):=by
 obtain⟨h,_,_⟩:=r
 match p,h with
 |[],_=>rfl
 |[a],_=>rfl
 |[a,b],_=>rfl
 |[a,b,c],_=>rfl
 |_::_::_::_::_,h=>show absurd h (by simp)
def Bn:Ï->D->D->D
 |0,a,_=>.Ç [.Ý FA,a]
 |1,a,b=>.Ç [.Ý Ay,a,b]
 |2,a,_=>.Ç [.Ý BH,a]
 |_,a,_=>.Ç [.Ý BU,a]
def Fb:D->Ï×D×D
 | .Ç [.Ý k,a]=>(match IY k FA with|Ä=>0|Å=>match IY k BH with|Ä=>2|Å=>3,a,.Ã)
 | .Ç [.Ý k,a,b]=>(1,a,b)
 |_=>(0,.Ã,.Ã)
def uH(c:Ï->ä×ä):((IZ.ÀX λk=>s4 2 k.Á).Ö λk=>(s4 (Fb (KD k c)).1 3,Bn (Fb (KD k c)).1 (Fb (KD k c)).2.1 (Fb (KD k c)).2.2))=(IZ.ÀX λk=>s4 2 k.Á).Ö λk=>(Ä,KD k c):=_2
def ps(r:Row B p)(h:2<=p.Á):∃k∈[0,1,2,3],∃a b,nf p=Bn k a b:=by
 show aj (f0 (Q3.mp (uH (Nc p)) _ (Yw.ĝ {dW r,by rw[kds_len];show l4 h}))) λq c=>?_;rw[<-oe r] at q c;show{_,M4.ĝ (i4 (be q)),_,_,c.symm}
def et{B:Ï}(r:Row B p)(h:¬2<=p.Á):nf p=Ag (Nc p 0):=by
 match p,h,r with
 |[],_,_=>rfl
 |[a],_,r=>
  have e:Hf [a]=[.n]:=by change [He a]=_;unfold He;rw[ß (r.AL a Î)]
  unfold nf;rw[e];rfl
 |_::_::_,h,_=>show absurd (by simp) h
def xB(c:ä×ä):∃w,Ó 65 AZ [Ag c] (.Ù w):=by
 exists c,no;have h:∀w,decide (c.2=1)=w->Ó 65 AZ [Ag c] (.Ù w):=λw e=>by
  have s:Hs (Hc 1) [.É [.Ù (decide (c.2=1)),.Ù w]]:=.Æ e .å;cases w using ci with
  |Ä=>show λd a=>sr (k:=5) (n:=5) (hk:=1) (S:=[]) (os:=[.Ù Ä]) (ŋ:=[]) s _2 d (aQ a)
  |Å=>show λd a=>sr (k:=5) (n:=5) (hk:=1) (S:=[]) (os:=[.Ù Å]) (ŋ:=[]) s _2 d (aQ a)
 show{_,h _ Î}
def Xb:Â Þ:=[Cu,Dd,Bd]
def VN(A B Z t u z:D):Out D:=((CG.Ć.HS (rI 1 Xb 10 10) 1).f (Bf [.ê A,.ê B,.ê t,.ê u] 3)>>=Cf).Ĉ (Ň [z,Z,z,.Ù Ä] [])
def VO(A B Z t u z:D):Â D:=[.É [.Ù (f2 (.Ç [.Ý "told",z]) (.Ç [.Ý "told",z])),.Ù Ä],.É [.Ý Bd,.É [Z],z],.É [.Ý Dd,.É [A,B],Z],.É [.Ý Cu,.É [t,u],z]]
def VP(A B Z t u z:D):Out D:=.ok (.Ù Ä) (Ň [] (VO A B Z t u z))
def abk(A B Z u:D)(x y:D)(c:Ï->ä×ä):AR (λk=>AR (λs=>VN A B Z (Bn k x y) u (KD s c)) IZ) [0,1,2,3]=[0,1,2,3].Ö λk=>IZ.Ö λs=>VP A B Z (Bn k x y) u (KD s c):=_2
def abl(A B Z:D)(x y:D)(q:ä×ä)(c:Ï->ä×ä):AR (λk=>AR (λs=>VN A B Z (Ag q) (Bn k x y) (KD s c)) IZ) [0,1,2,3]=[0,1,2,3].Ö λk=>IZ.Ö λs=>VP A B Z (Ag q) (Bn k x y) (KD s c):=_2
noncomputable def v1:Â (Â ñ):=[]::v6.Ö λx=>[x]
def pv(h:Œ a)(q:¬2<=a.Á):a∈v1:=by
 match a,q,h with
 |[],_,_=>show .Ď _
 |[x],_,h=>show .ě _ (i1.ĝ {x,pl (h.el x (.Ď _)) (h.AL x Î),Î})
 |_::_::_,q,_=>show absurd (by simp) q
def TK(a b:Â ñ):Out D:=((CG.Ć.HS (rI 0 [] 20 20) 0).f (Bf [.ê (AE a),.ê (AE b),.ê (Ag (Nc a 0)),.ê (Ag (Nc b 0))] 3)>>=Cf).Ĉ (Ň [] [])
def abm:AR (λa=>AR (λb=>TK a b) v1) v1=v1.Ö λ_=>v1.Ö λ_=>.ok (.Ù Ä) (Ň [] []):=_2
def rN{a b:Â ñ}(i:Œ a)(j:Œ b){d:Ï}(c:100<=d):R d BF [.ê (AE a),.ê (AE b),.ê (nf a),.ê (nf b)]=Ñ (.Ù Ä):=by
 exists a b d,i j c;have g:=i.row.le (C:=100) _0;have m:=j.row.le (C:=100) _0;have t:C_ BF=À CG:=_2
 by_cases h:2<=a.Á\/2<=b.Á
 ·have A:∃w,Ó 65 AZ [nf a] (.Ù w):=by
   by_cases q:2<=a.Á
   ·show{_,hX g q}
   ·rw[et g q];show xB _
  show au (uE i j h A) λz f n o=>?_;exists z,f n o;have B:=fi f;have E:=uG (kp f);have s:Hs (Hc 75) (VO (AE a) (AE b) (AE z) (nf a) (nf b) (nf z)):=.Æ (Yb _ (af E)) (.Æ (λd c=>B d (aQ c)) (.Æ (λd c=>o d (aQ c)) (.Æ n .å)));have p:=dW f;by_cases q:2<=a.Á
  ·show ag (ps g q) λk l G=>bB G λx y e=>?_;have r:=ah (ah (abk (AE a) (AE b) (AE z) (nf b) x y (Nc z)) k l) _ p;rw[<-oe f,<-e] at r;show ro _ t Î (aQ c) s r
  ·show ag (ps m (h.ÀV q)) λk l H=>bB H λx y e=>?_;have I:=et g q;have r:=ah (ah (abl (AE a) (AE b) (AE z) x y (Nc a 0) (Nc z)) k l) _ p;rw[<-oe f,<-e,<-I] at r;show ro _ t Î (aQ c) s r
 ·have u:¬2<=a.Á:=λq=>h (.Ę q);have v:¬2<=b.Á:=λq=>h (.Ġ q);have r:=ah (ah abm a (pv i u)) b (pv j v);unfold TK at r;rw[<-et g u,<-et m v] at r;show ro (N:=0) _ t Î (aQ c) .å r
end
section
def Ğ{α:Type}(m:M α)(p:AK)(a:α)(p':AK):Prop:=m.Ĉ p= .ok a p'
section
variable{α β:Type}{p p' p'':AK}{w:Cz}{ρ ρ':Aa}{s:XS}{l a b:Bc}{c e e':XE}{x y z v:D}{r:Aa×Option D}
def Ğ.of{m:M α}{a:α}(h:m=Ñ a)(p:AK):Ğ m p a p:=by rw[h];rfl
def Ğ.ù{m:M α}{f:α->M β}{a:α}{b:β}(h:Ğ m p a p')(k:Ğ (f a) p' b p''):Ğ (m>>=f) p b p'':=by
 unfold Ğ at*;rw[ar,h];show k
def kQ(h:Ğ (s.ex w ρ) p (ρ',Ã) p')(k:Ğ (l.ex w ρ') p' r p''):Ğ ((Bc.Æ s l).ex w ρ) p r p'':=.ù h k
def aaV(h:Ğ (e.ev w ρ) p v p'):Ğ ((Bc.Æ (.Ũ e) l).ex w ρ) p (ρ,À v) p':=.ù (.ù h Î) rfl
def acF(h:Ğ (c.ev w ρ) p (.Ù Ä) p')(k:Ğ (a.ex w ρ) p' (ρ',À v) p''):Ğ ((Bc.Æ (.ő c a b) l).ex w ρ) p (ρ',À v) p'':=.ù (.ù (.ù h Î) k) rfl
def xC(h:Ğ (c.ev w ρ) p (.Ù Å) p')(k:Ğ (l.ex w ρ) p' r p''):Ğ ((Bc.Æ (.ő c a .å) l).ex w ρ) p r p'':=.ù (.ù (.ù h Î) rfl) k
def rO{op:DO}(h:Ğ (e.ev w ρ) p x p')(k:Ğ (e'.ev w ρ) p' y p'')(q:Fe op x y=Ñ z):Ğ ((XE.bin op e e').ev w ρ) p z p'':=.ù h (.ù k (.of q _))
def acG{op:Fd}(h:Ğ (e.ev w ρ) p x p')(k:Ğ (e'.ev w ρ) p' y p'')(q:B_ op x y=Ñ z):Ğ ((XE.cmp op e e').ev w ρ) p z p'':=.ù h (.ù k (.of q _))
end
def Jr(ns:Â ä)(c:Ï)(r:ä):Â D:=[.É (ns.Ö .Ê),.Ê c,.Ê r]
abbrev AW(ns:Â ä)(c:Ï)(r:ä):AK:=À (Jr ns c r)
def xD{c:Ï}(h:c<=1000000):sm (c:ä)=Ä:=aM (k:=20) (by change c<2^20;show i9 h _0) _0
def uI(a:ä){m:Ï}(c:0<m):∃v:Ï,v<m/\Fe .mod (.Ê a) (.Ê m)=Ñ (.Ê v):=by
 have h:(0:ä)<m:=Yz.ĝ c;obtain⟨v,b⟩:=Za (ä.fmod_nonneg_of_pos a h);show{v,X3.mp (b▸ä.fmod_lt_of_pos a h),b▸à (X4 h)}
def abn{c n:Ï}(h:c<n):ÁI (c:ä) n=À c:=by
 unfold ÁI;dsimp only;rw[ß (Yp.ĝ (s1 c)),à (im.ĝ {Ă (s1 c),Ă (X3.ĝ h)})];rfl
section
variable{w:Cz}{ns:List Int}{c:Nat}{r:Int}{ρ:Aa}
def mS:Ğ (XE.ev w (.Ec 0 0) (À .Az::ρ)) (AW ns c r) (.É (ns.Ö .Ê)) (AW ns c r):=rfl
def abo:Ğ (XE.ev w (.Ec 0 1) (À .Az::ρ)) (AW ns c r) (.Ê c) (AW ns c r):=rfl
def ac6:Ğ (XE.ev w (.Ec 0 2) (À .Az::ρ)) (AW ns c r) (.Ê r) (AW ns c r):=rfl
theorem Pi{i:ä}{p:AK}:Ğ (XE.ev w (.Ê i) ρ) p (.Ê i) p:=rfl
theorem Pv{p:AK}{d:D}{x:Ë Ą}:Ğ (XE.ev w (.Đ 1) (x::À (.ê d)::ρ)) p d p:=rfl
end
def cj{d:Ï}(f:1<=d){ns:Â ä}(n:ns.Á<=100){c:Ï}(i:c<=500){r:ä}(m:Ï)(g:0<m):∃v:Ï,v<m/\Ğ (R d BG [.Az,.ê (.Ê m)]) (AW ns c r) (.Ê v) (AW ns (c+1) r):=by
 exists d ns c r m,f n i g;obtain⟨d,Î⟩:=eD f;exists d,f;have l:Ğ (XE.ev (iF d) (.IP .ŏ (.ex (.Ec 0 0))) [À .Az,À (.ê (.Ê m))]) (AW ns (c+1) r) (.Ê ns.Á) (AW ns (c+1) r):=by
  show .ù (mS (w:=(iF d))) (.of ?_ _);change(if(ns.Ö ā.Ê).Á<=100000 then Ñ (.Ê (ns.Ö ā.Ê).Á) else M.Û:M D)=_;rw[à (by rw[a2];show ac (by assumption) _0),a2]
 have p:∀t,decide (((c+1:Ï):ä)<=ns.Á)=t->Ğ (XE.ev (iF d) (.cmp .le (.Ec 0 1) (.IP .ŏ (.ex (.Ec 0 0)))) [À .Az,À (.ê (.Ê m))]) (AW ns (c+1) r) (.Ù t) (AW ns (c+1) r):=λt o=>
  acG abo l (by rw[<-o];rfl)
 rw[show R (d+1) BG [.Az,.ê (.Ê m)]=_ from bS (t:=II) rfl Î];by_cases h:c+1<=ns.Á
 ·show ag (uI (ns[c]'(h)) g) λv b e=>?_;exists v,b e;show{v,b,.ù (a:=([À .Az,À (.ê (.Ê m))],À (.Ê v))) (p':=AW ns (c+1) r) (kQ (ρ':=[À .Az,À (.ê (.Ê m))]) (p':=AW ns (c+1) r) rfl (acF (p Ä (Ă (X3.ĝ h))) (aaV (rO (x:=.Ê (ns[c]'(h))) (y:=.Ê m) (.ù (mS (w:=(iF d))) (.ù (a:=.Ê c) (rO abo Pi (by change Ñ (ā.Ê (((c+1:Ï):ä) -1))=_;congr 2;show ä.add_sub_cancel (c:ä) 1)) (.of ?_ _))) Pv e)))) rfl};change Df (if(ns.Ö ā.Ê).Á<=100000 then(ÁI (c:ä) (ns.Ö ā.Ê).Á).ù λj=>(ns.Ö ā.Ê)[j]? else Ã)=_;rw[à (by rw[a2];show ac (by assumption) _0),a2,abn h];change Df ((ns.Ö ā.Ê)[c]?)=_;rw[j1,ch h];rfl
 ·show ag (uI (5*((c+1:Ï):ä)+(((c+1:Ï):ä)*((c+1:Ï):ä)).ī 6+r) g) λv b e=>?_;have s:=xD (c:=c+1) (i9 i _0);show{v,b,.ù (a:=([À .Az,À (.ê (.Ê m))],À (.Ê v))) (p':=AW ns (c+1) r) (kQ (ρ':=[À .Az,À (.ê (.Ê m))]) (p':=AW ns (c+1) r) rfl (xC (p Å (û (λq=>h (J4.mp q)))) (aaV (rO (rO (rO (rO Pi abo (à ?_)) (rO (rO abo abo (à ?_)) Pi (à {_0,aM (k:=3) _0 _0})) rfl) ac6 Î) Pv e)))) rfl}
  ·show(by unfold AX;rw[aM (a:=5) (k:=3) _0 _0,s];rfl:AX 5 ((c+1:Ï):ä)=Ä)
  ·unfold AX;rw[s];rfl
end
section
def Ly(a b:Â FQ):TR (Â FQ):=match a,b with
 |[],_=>.Ũ []
 |_,[]=>.Ũ []
 |a,b=>g b a 0 (Se (a.Á+b.Á -1))
where
 g (b:Â FQ):Â FQ->Ï->Â FQ->TR (Â FQ)
  |[],_,f=>.Ũ f
  |x::l,i,f=>n x i b 0 f>>= λf=>g b l (i+1) f
 n (x:FQ) (i:Ï):Â FQ->Ï->Â FQ->TR (Â FQ)
  |[],_,f=>.Ũ f
  |y::l,j,f=>mulM x y>>= λm=>TH (f.ø (i+j) .o) m>>= λs=>n x i l (j+1) (f.set (i+j) s)
def OO(a b:Â FQ):TR (Â FQ×Â FQ):=match a with
 |[]=>.Ũ ([],[.i])
 |a=>OL 6 a b>>= λg=>(match J0 1 g.Á with
  |Ä=>Ki a g>>= λp=>Ki b g>>= λq=>.Ũ (p.1,q.1)
  |Å=>.Ũ (a,b))>>= λp=>TJ (lst p.2)>>= λs=>OJ p.1 s>>= λt=>OJ p.2 s>>= λu=>.Ũ (t,u)
def DI(n:Ï):Â FQ:=BV 0 n
def Iq:Â FQ:=[.v (.Đ 4) (.õ 1),.i]
def Hg(n:Ï):Â FQ:=match n with
 |0=>[]
 |n+1=>[.v (.Đ n) (.õ 1)]
def Rp:Â Ï:=[0,1,2,3,4]
def Xc:Â Þ:=[Dj,BP,Fw,Fx,Fy,By]
def XX(n:Ï):Â FQ:=Hg n
def Sn(n:Ï):=(Ly (DI n) [.i]).EN [] (Hg n) []
def So(n:Ï):=(Ly [.i] (DI n)).EN [] (Hg n) []
def Sp(n:Ï):=(Ly (DI n) Iq).EN [] (Hg n) []
def Sr(n:Ï):=(OO (DI n) [.i]).EN [] (Hg n) []
def Ss(n:Ï):=(OO (DI n) Iq).EN [] (.v (.Đ 4) (.õ 1)::Hg n) []
def Su(s:Ï×Ï):=(NT (BV 0 s.1) (BV 4 s.2)).EN [] (Hg s.1++match s.2 with
 |0=>[]
 |n+1=>[.v (.Đ (n+4)) (.õ 1)]) []
def Nd{α:Type}(l:Â (Lf α)):é:=l.ş λl=>l.as.ş (AQ.ok 100 l.zs l.ns)
def gD:(Rp.ş λn=>Nd (Sn n)&&(Nd (So n)&&(Nd (Sp n)&&(Nd (Sr n)&&(Nd (Ss n)&&Rp.ş λm=>Nd (Su (n,m)))))))=Ä:=_2
def Nf{α:Type}(r:Fr)(f:Þ)(a:Â D)(l:Â (Lf α)):Â (Out D):=AR (λl:Lf α=>Uz Xc f a (AQ.ds r l.as)) l
def Ng{α:Type}(r:Fr)(g:α->D)(l:Â (Lf α)):Â (Out D):=l.Ö λl=>.ok (g l.r) (Ň [] (AQ.ds r l.as).Ė)
def WA(r:Fr)(p:Â FQ×Â FQ):D:=.Ç [Cw r p.1,Cw r p.2]
def Q_(r:Fr):Prop:=AR (λn=>(Nf r Bl [Cw r (DI n),Cw r [.i]] (Sn n),Nf r Bl [Cw r [.i],Cw r (DI n)] (So n),Nf r Bl [Cw r (DI n),Cw r Iq] (Sp n),Nf r Bw [Cw r (DI n),Cw r [.i]] (Sr n),Nf r Bw [Cw r (DI n),Cw r Iq] (Ss n),AR (λm=>Nf r Fz [Cw r (BV 0 n),Cw r (BV 4 m)] (Su (n,m))) Rp)) Rp=
 Rp.Ö λn=>(Ng r (Cw r) (Sn n),Ng r (Cw r) (So n),Ng r (Cw r) (Sp n),Ng r (WA r) (Sr n),Ng r (WA r) (Ss n),Rp.Ö λm=>Ng r (Cw r) (Su (n,m)))
def Xd:Fr:=Kj Q_
def gE(r:Fr):Q_ r:=aI (P:=Q_) (show Q_ Xd by unfold Q_;kernel_rfl) r
end
section
noncomputable def ev:Â ñ->ñ->ñ
 |[],_=>0
 |c::p,x=>c+x*ev p x
structure Ax(L B:Ï)(p:Â ñ):Prop where
 ŏ:p.Á<=L
 AL:∀c,p.ÀR =À c->c≠0
 bd:∀c∈p,bd B c
def Ax.le(h:Ax L B p)(a:L<=L')(b:B<=d):Ax L' d p:={ac h.ŏ a,h.AL,λc e=>(h.bd c e).le b}
def Row.n(h:Row B p):Ax 3 B p:={h.ŏ,h.AL,h.bd}
def Ax.last(h:Ax L B p)(a:p≠[]):p.ø (p.Á -1) 0≠0:=by
 have:=h.AL (p.getLast a) (KE a);rw[Y5] at this;have b:p.Á -1<p.Á:=by have:=Ch.ĝ a;show Yo this _0
 simpa [b] using this
def mw(h:∀i,i<l.Á->c.ĵ (k+i)=l.ø i 0):(BV k l.Á).Ö (Bz c)=l:=by
 unfold BV;apply B0
 ·simp
 ·intro i b a;rw[sp,sp,U7,hT,TW,h i a];simp[a]
structure T4(c:CQ)(p q:Â ñ)(x:ñ):Prop where
 ga:∀i,i<p.Á->c.ĵ i=p.ø i 0
 gb:∀i,i<q.Á->c.ĵ (4+i)=q.ø i 0
 gx:c.ĵ 9=x
 z:∀i,i<9->c.ĵ i=if i<4 then p.ø i 0 else q.ø (i -4) 0
def dY{p q:Â ñ}(b:p.Á<=4)(d:q.Á<=4)(x:ñ):∃c,T4 c p q x:=by
 show ao (gB (λi=>if i<4 then p.ø i 0 else if i<9 then q.ø (i -4) 0 else x) 9) λc h=>{c,λi a=>by rw[h,Do (leU (i5 (ce a b)))];show à (ac a b),λi a=>?_,by rw[h];rfl,λi a=>?_}
 ·rw[h,Do (ac (g5 (i5 (ce a d)) 4) _0)];show(ß (i8.ĝ (bv 4 i))).Ð ((à (ce (R2 (ce a d) 4) _0)).Ð (by rw[pt]))
 ·rw[h,Do (i5 a)];by_cases k:i<4
  ·rw[à k,à k]
  ·rw[ß k,ß k,à a]
abbrev Bt:=Ï×Ï×Ï
def Km:PE->Bt
 | .Đ i=>bif J0 i 4 then(1,0,0) else(0,1,0)
 | .neg a=>Km a
 | .ŧ a b=>((Km a).1+(Km b).1,(Km a).2.1+(Km b).2.1,(Km a).2.2+(Km b).2.2+1)
 | .Ž a b=>((Km a).1+(Km b).1,(Km a).2.1+(Km b).2.1,(Km a).2.2+(Km b).2.2+1)
 | .ļ a b=>((Km a).1+(Km b).1,(Km a).2.1+(Km b).2.1,(Km a).2.2+(Km b).2.2)
 | .õ k=>(0,0,k.ï+1)
 |_=>(0,0,0)
noncomputable def Bt.at(t:Bt)(a b:Ï):Ï:=t.1*a+t.2.1*b+t.2.2
def kq(s t:Bt)(a b k:Ï):Bt.at (s.1+t.1,s.2.1+t.2.1,s.2.2+t.2.2+k) a b=Bt.at s a b+Bt.at t a b+k:=by
 unfold Bt.at;rw[Ï.add_mul,Ï.add_mul];lia
def aai(h:∀i,i<9->bd (if i<4 then B else C) (c.ĵ i))(e:PE):Kv 0 e<=9000->bd (Bt.at (Km e) B C) (dn c e):=by
 induction e with
 |Đ i=>
  intro q;have q:(bif J0 i 9 then 0 else 9999)<=9000:=q;have g:i<9:=by
   by_cases z:i<9
   ·show z
   ·rw[show J0 i 9=Å from AT.ĝ λy=>z (be y)] at q;show absurd q (show ¬9999<=9000 by decide)
  have r:=h i g;by_cases z:i<4
  ·rw[à z] at r;show r.le ?_;change B<=Bt.at (bif J0 i 4 then(1,0,0) else(0,1,0)) B C;rw[show J0 i 4=Ä from l4 z];change B<=1*B+0*C+0;rw[TW,YG];show a3 _
  ·rw[ß z] at r;show r.le ?_;change C<=Bt.at (bif J0 i 4 then(1,0,0) else(0,1,0)) B C;rw[show J0 i 4=Å from AT.ĝ λy=>z (be y)];change C<=0*B+1*C+0;rw[TW,YG,s6];show a3 _
 |neg a d=>show λq=>(d q).neg
 |ŧ a b d f=>show λq=>((d (rH q)).ŧ (f (ju q))).le (lm (kq _ _ _ _ 1).symm)
 |Ž a b d f=>
  intro q;change bd _ (dn c a -dn c b);rw[Op];show((d (rH q)).ŧ (f (ju q)).neg).le (lm (kq _ _ _ _ 1).symm)
 |ļ a b d f=>show λq=>((d (ac (bv _ _) q)).ļ (f (ac (f3 _ _) q))).le (lm (kq _ _ _ _ 0).symm)
 |õ k=>
  intro _;change bd (0*B+0*C+(k.ï+1)) (dn c (.õ k));rw[ay,YG,YG,s6];show{ce Yu (p2 (v3 _)),ce (show 1<2^1 by decide) (p2 (ol (j0 _)))}
 |_=>show λq=>absurd q (show ¬9999<=9000 by decide)
def pz(h:∀i,i<9->c.ĵ i=c'.ĵ i)(e:PE):Kv 0 e<=9000->dn c e=dn c' e:=by
 induction e with
 |Đ i=>
  intro q;have q:(bif J0 i 9 then 0 else 9999)<=9000:=q;by_cases z:i<9
  ·show h i z
  ·rw[show J0 i 9=Å from AT.ĝ λy=>z (be y)] at q;show absurd q (show ¬9999<=9000 by decide)
 |neg a d=>show λq=>â (- ·) (d q)
 |ŧ a b d f=>intro q;change dn c a+dn c b=dn c' a+dn c' b;rw[d (rH q),f (ju q)]
 |Ž a b d f=>intro q;change dn c a -dn c b=dn c' a -dn c' b;rw[d (rH q),f (ju q)]
 |ļ a b d f=>intro q;change dn c a*dn c b=dn c' a*dn c' b;rw[d (ac (bv _ _) q),f (ac (f3 _ _) q)]
 |õ k=>intro _;rw[ay,ay]
 |_=>show λq=>absurd q (show ¬9999<=9000 by decide)
def Sv(ns:Â FQ)(L:Ï)(t:Bt)(l:Â FQ):é:=s4 l.Á L&&(l.ş (λa=>GV a.d&&(s4 (Kv 0 a.n) 9000&&(s4 (Km a.n).1 t.1&&(s4 (Km a.n).2.1 t.2.1&&s4 (Km a.n).2.2 t.2.2))))&&match l.ÀR with
 |À a=>Pn ns a
 |Ã=>Ä)
def jw(h:GV a.d=Ä):Bz c a=dn c a.n:=by
 have:dn c a.d=1:=by
  generalize a.d=p at h;cases p<;>first|show fT h|(rw[Ø h,ay];rfl)
 unfold Bz;rw[this,Yt,show((1:ñ))⁻¹ =1 by decide+kernel,Ys]
def kr{K B C:Ï}(w:Kn c K z ns)(h:∀i,i<9->bd (if i<4 then B else C) (c.ĵ i))(k:Sv ns L t l=Ä){M:Ï}(e:Bt.at t B C<=M):Ax L M (l.Ö (Bz c)) where
 ŏ:=by rw[a2];show be (af k)
 AL:=λx b=>by
  rw[YX] at b;obtain⟨a,d,Î⟩:=h9.mp b;have q:=ae (ae k);rw[d] at q;rw[jw (af (an.mp (af (ae k)) a (ZE d)))];show cq w q
 bd:=λx b=>by
  obtain⟨a,d,Î⟩:=i1.mp b;have q:=an.mp (af (ae k)) a d;rw[jw (af q)];have q:=ae q;show((aai h a.n (be (af q))).le ?_).le e;have q:=ae q;show ii (ii (Yd _ (be (af q))) (Yd _ (be (af (ae q))))) (be (ae (ae q)))
def EP(X:PE):Â FQ->PE
 |[]=>.õ 0
 |a::l=>.ŧ a.n (.ļ X (EP X l))
def bY{c:CQ}{X:PE}{x:ñ}(e:dn c X=x)(l:Â FQ)(h:∀a∈l,GV a.d=Ä):dn c (EP X l)=ev (l.Ö (Bz c)) x:=by
 induction l with
 |å=>change dn c (.õ 0)=0;rw[ay];rfl
 |Æ a l i=>
  change dn c a.n+dn c X*dn c (EP X l)=Bz c a+x*ev (l.Ö (Bz c)) x;rw[e,i λb f=>h b (.ě _ f),jw (h a (.Ď _))]
end
section
def I_:PE:=.Đ 9
def Nh(l:Â FQ):é:=l.ş λa=>GV a.d&&s4 (Kv 0 a.n) 9000
def Xe(n:Ï):é:=J0 3 n||(Sp n).ş λl=>Nh l.r&&(Sv l.ns 4 (2,1,2) l.r&&Qy (.ļ (EP I_ (DI n)) (EP I_ Iq)) (EP I_ l.r))
def Lz(s:Ï×Ï):Â FQ:=(ty (max s.1 s.2)).Ö λi=>Kh ((BV 0 s.1).ø i .o) ((BV 4 s.2).ø i .o)
def Xf(s:Ï×Ï):é:=Nh (Lz s)&&(Qy (.ŧ (EP I_ (BV 0 s.1)) (EP I_ (BV 4 s.2))) (EP I_ (Lz s))&&(Su s).ş λl=>Sv l.ns 4 (1,1,1) l.r&&(CH l.ns l.r ((Lz s).Ś l.r.Á)&&((Lz s).Ń l.r.Á).ş (Uy l.zs l.ns)))
def Ub(n:Ï):é:=(Sn n).ş (λl=>CH l.ns l.r (DI n))&&((So n).ş (λl=>CH l.ns l.r (DI n))&&(Sr n).ş λl=>CH l.ns l.r.1 (DI n)&&CH l.ns l.r.2 [.i])
def Pp(n:Ï):FQ:=.v (EP (.neg (.Đ 4)) (DI n)) (.õ 1)
def Xg:Â PE:=
 let n:PE:=.Đ 4;let s:PE:=.Ž (.ļ I_ I_) (.ļ n n)
 [.õ 1,.õ (-1),n,.neg n,.ļ n n,.neg (.ļ n n),.ŧ I_ n,.neg (.ŧ I_ n),s,.neg s]
def Py(s:Â FQ):Ï->PE->é
 |0,e=>Qy e (.õ 0)
 |k+1,e=>Py s k e||s.any λz=>Xg.any λf=>Py s k (.Ž e (.ļ z.n f))
def Xh(n:Ï):é:=(Ss n).ş λl=>(CH l.ns l.r.2 [.i]&&(Nh l.r.1&&(Sv l.ns 4 (3,3,2) l.r.1&&(Py l.zs 3 (.Ž (.Ž (EP I_ (DI n)) (.ļ (EP I_ l.r.1) (EP I_ Iq))) (Pp n).n)&&(Py l.zs 3 (Pp n).n&&l.zs.ş λz=>s4 (Kv 0 z.n) 9000)))))||(CH l.ns l.r.1 (DI n)&&(CH l.ns l.r.2 Iq&&l.ns.any λf=>Py l.zs 3 (.Ž (Pp n).n f.n)))
def gF:(Rp.ş λn=>Xe n&&(Ub n&&(Xh n&&Rp.ş λm=>Xf (n,m))))=Ä:=_2
def mx(h:n<=4):n∈Rp:=(by decide:∀n,n<5->n∈Rp) n (i4 h)
def og(w:∀f∈s,dn c f.n=0)(k:Ï)(e:PE)(h:Py s k e=Ä):dn c e=0:=by
 induction k generalizing e with
 |ž=>rw[cz (ae h),ay];rfl
 |ś k i=>
  rcases g4.mp h with h|h
  ·show i e h
  ·show ag (ms.mp h) λz a h=>ag (ms.mp h) λf _ h=>?_;have q:dn c e -dn c z.n*dn c f=0:=i _ h;rw[w z a,Q6,Op,acn,Db] at q;show q
section
variable{p q:List Rat}{n x:Rat}{c:CQ}
def T4.ea(t:T4 c p q x):(DI p.Á).Ö (Bz c)=p:=mw λi h=>by rw[s6];show t.ga i h
def T4.eb(t:T4 c p q x):(BV 4 q.Á).Ö (Bz c)=q:=mw t.gb
def T4.en(t:T4 c p [n] x):Iq.Ö (Bz c)=[n,1]:=by
 change [Bz c (.v (.Đ 4) (.õ 1)),Bz c .i]=_;rw[hT,cY,t.gb 0 (pu _)];rfl
def T4.bd{B C:Ï}(t:T4 c p q x)(h:∀y∈p,bd B y)(a:∀y∈q,bd C y)(b:1<=B)(d:1<=C):∀i,i<9->PQ.Internal.bd (if i<4 then B else C) (c.ĵ i):=λi f=>by
 have g:∀{D:Ï} {l:Â ñ},1<=D->(∀y∈l,PQ.Internal.bd D y)->∀i,PQ.Internal.bd D (l.ø i 0):=λ{D l} j m i=>by
  rw[i6];cases e:l[i]? with
  |Ã=>show(dV 0).le j
  |À y=>show m y (wS e)
 rw[t.z i f];by_cases k:i<4
 ·rw[à k,à k];show g b h _
 ·rw[ß k,ß k];show g d a _
def hZ(h:Ax L B p)(t:∀i,i<p.Á->c.ĵ i=p.ø i 0):∀f∈Hg p.Á,dn c f.n≠0:=λf a=>by
 cases e:p.Á with
 |ž=>rw[e] at a;cases a
 |ś n=>
  rw[e] at a;rw[am.mp a];have:=h.last λq=>by rw[q] at e;cases e
  rw[e] at this;show λz=>this ((t n (Ps (p1 n) e.symm)).symm.Ð z)
def h_(h:∀i,i<9->bd (if i<4 then B else C) (c.ĵ i))(b:B<=100)(d:C<=100):∀i,i<9->bd 100 (c.ĵ i):=λi a=>(h i a).le (by split<;>show ac (by assumption) _0)
def ones(h:Nh l=Ä):∀a∈l,GV a.d=Ä:=λa b=>af (an.mp h a b)
def fj(k n:Ï):∀a∈BV k n,GV a.d=Ä:=λa h=>by
 obtain⟨i,_,Î⟩:=i1.mp h;rfl
def pA:∀a∈Iq,GV a.d=Ä:=λa ha=>by
 rcases a5.mp ha with rfl|ha
 ·rfl
 ·rw[am.mp ha];rfl
def ia{c':CQ}(h:∀i,i<9->c.ĵ i=c'.ĵ i){l:Â FQ}(k:Nh l=Ä):l.Ö (Bz c)=l.Ö (Bz c'):=r0 λa b=>by
 have q:=an.mp k a b;rw[jw (af q),jw (af q),pz h _ (be (ae q))]
def gG(t:T4 c p q x)(a:T4 c' p q y):∀i,i<9->c.ĵ i=c'.ĵ i:=λi h=>(t.z i h).Ð (a.z i h).symm
def zj{B:Ï}(h:Ax 3 B p)(i:1<=B)(j:B<=100)(o:bd 2 n):∃r,Ax 4 (2*B+4) r/\Ó 65 Bl [AE p,AE [n,1]] (AE r)/\∀x,ev r x=ev p x*(n+x):=by
 exists p n B,h i j o;show ao (dY (q:=[n]) (ac h.ŏ _0) (ol (j0 3)) 0) λc t=>?_;have s:=t.bd h.bd (λy u=>by rw[am.mp u];show o) i _0;have m:=mx (ac h.ŏ _0);show ag (TR.fK (Ly (DI p.Á) Iq) [] (Hg p.Á) [] {λf h=>(nomatch h),hZ h t.ga,h_ s j _0}) λl d w=>?_;have k:=(g4.mp (af (an.mp gF _ m))).ÀV λq=>by have:=be q;have:=h.ŏ;lia
 have k:=an.mp k l d;have f:=Lf.fact w (an.mp (af (ae (ae (an.mp gD _ m)))) l d) (ah ((f0 (f0 (f0 (ah (gE (Ds c)) _ m)).2).2).1) l d);rw[av,av,av,t.ea,t.en] at f;show{_,kr w s (af (ae k)) (by change 2*B+1*2+2<=_;show a3 _),f,λx=>ao (dY (q:=[n]) (ac h.ŏ _0) (ol (j0 3)) x) λa b=>?_};have g:dn a (EP I_ (DI p.Á))*dn a (EP I_ Iq)=dn a (EP I_ l.r):=cz (ae (ae (ae k)));have e:dn a I_=x:=b.gx;rw[bY e (DI p.Á) (fj 0 _),bY e _ pA,bY e _ (ones (af k)),b.ea,b.en] at g;rw[ia (gG t b) (af k),<-g];change ev p x*(n+x*(1+x*0))=_;rw[M1,Db,Ys]
def oh{B C:Ï}(i:Ax 4 B p)(j:Ax 4 C q)(T:1<=B)(U:1<=C)(V:B<=100)(Y:C<=100):∃r,Ax 4 (B+C+1) r/\Ó 65 Fz [AE p,AE q] (AE r)/\∀x,ev r x=ev p x+ev q x:=by
 exists p q B C,i j T U V Y;show ao (dY i.ŏ j.ŏ 0) λc t=>?_;have tb:=t.bd i.bd j.bd T U;have m:=mx i.ŏ;have G:=mx j.ŏ;have nq:∀f∈(match q.Á with
   |0=>[]
   |n+1=>[.v (.Đ (n+4)) (.õ 1)]:Â FQ),dn c f.n≠0:=λf s=>by
  cases e:q.Á with
  |ž=>rw[e] at s;cases s
  |ś n=>
   rw[e] at s;rw[am.mp s];have:=j.last λq=>by rw[q] at e;cases e
   rw[e] at this;show λz=>this ((t.gb n (Ps (p1 n) e.symm)).symm.Ð ((â c.ĵ (lc 4 n)).Ð z))
 show ag (TR.fK (NT (BV 0 p.Á) (BV 4 q.Á)) [] _ [] ({λf h=>(nomatch h),λf s=>(dL.mp s).ç (hZ i t.ga f) (nq f),h_ tb V Y}:Kn c 100 [] (Hg p.Á++_))) λl H w=>?_;have ok:=an.mp (an.mp (ae (ae (ae (ae (ae (an.mp gD _ m)))))) _ G) l H;have k:=an.mp (ae (ae (ae (an.mp gF _ m)))) _ G;have I:=af k;have k2:=af (ae k);have J:=an.mp (ae (ae k)) l H;have e:=ah (ah (f0 (f0 (f0 (f0 (f0 (ah (gE (Ds c)) _ m)).2).2).2).2).2 _ G) l H;have f:=Lf.fact w ok e;rw[av,av,av,t.eb,show(BV 0 p.Á).Ö (Bz c)=p from t.ea] at f;show{_,kr w tb (af J) (by change 1*B+1*C+1<=_;rw[TW,TW];show a3 _),f,λx=>?_};show ao (dY (p:=p) (q:=q) i.ŏ j.ŏ x) λu A=>?_;have L:dn u I_=x:=A.gx;have g:dn u (EP I_ (BV 0 p.Á))+dn u (EP I_ (BV 4 q.Á))=dn u (EP I_ (Lz (p.Á,q.Á))):=cz (ae k2);rw[bY L _ (fj _ _),bY L _ (fj _ _),bY L _ (ones I),A.eb,show(BV 0 p.Á).Ö (Bz u)=p from A.ea,<-ia (gG t A) I] at g;rw[g,aN w (af (ae J))];have z:=ae (ae J);generalize hr:l.r.Á=E at z;have N:=ones I;generalize Lz (p.Á,q.Á)=R at z N;clear g hr;have zt:∀l:Â FQ,l.ş (Uy ‹Lf (Â FQ)›.zs ‹Lf (Â FQ)›.ns)=Ä->(∀a∈l,GV a.d=Ä)->ev (l.Ö (Bz c)) x=0:=λl=>by
  induction l with
  |å=>show λ_ _=>rfl
  |Æ a l O=>
   intro h o;change Bz c a+x*ev (l.Ö (Bz c)) x=0;rw[jw (o a (.Ď _)),od w (af h),O (ae h) λb Q=>o b (.ě _ Q),M1,I3]
 induction R generalizing E with
 |å=>rw[Z9]
 |Æ a R O=>
  cases E with
  |ž=>show(zt (a::R) z N).symm
  |ś E=>show â (λy=>Bz c a+x*y) (O E z λb Q=>N b (.ě _ Q))
def uJ(h:Ax 4 100 p):Ó 65 Bl [AE p,AE [1]] (AE p)/\Ó 65 Bl [AE [1],AE p] (AE p)/\Ó 65 Bw [AE p,AE [1]] (.Ç [AE p,AE [1]]):=by
 exists p,h;show ao (dY (q:=[]) h.ŏ (j0 4) 0) λc t=>?_;have m:=mx h.ŏ;have K:Kn c 100 [] (Hg p.Á):={λf h=>(nomatch h),hZ h t.ga,h_ (t.bd (C:=100) h.bd (λy B=>nomatch B) _0 _0) _0 _0};have k:=af (ae (an.mp gF _ m));have o:=an.mp gD _ m;have e:=f0 (ah (gE (Ds c)) _ m);have j:[FQ.i].Ö (Bz c)=[1]:=by change [Bz c .i]=_;rw[cY]
 have s:∀{f:Þ} {a:Â D} {l:Â (Lf (Â FQ))},Nd l=Ä->Nf (Ds c) f a l=Ng (Ds c) (Cw (Ds c)) l->l.ş (λl=>CH l.ns l.r (DI p.Á))=Ä->(∃k∈l,Kn c 100 k.zs k.ns)->Ó 65 f a (AE p):=λ{f a l} E e G ⟨k,b,w⟩=>by
  have u:=Lf.fact w (an.mp E k b) (ah e k b);rw[av,aN w (an.mp G k b),t.ea] at u;show u
 have v:=s (af o) e.1 (af k) (TR.fK _ _ _ _ K);have z:=s (af (ae o)) (f0 e.2).1 (af (ae k)) (TR.fK _ _ _ _ K);show ag (TR.fK (OO (DI p.Á) [.i]) [] (Hg p.Á) [] K) λl d w=>?_;have g:=Lf.fact w (an.mp (af (ae (ae (ae o)))) l d) (ah (f0 (f0 (f0 e.2).2).2).1 l d);have A:=an.mp (ae (ae k)) l d;unfold WA at g;rw[av,av,av,av,aN w (af A),aN w (ae A),t.ea,j] at g;rw[av,av,t.ea,j] at v z;show{v,z,g}
def zk{B:Ï}(h:Ax 4 B p)(A:1<=B)(C:B<=100)(E:bd 2 n)(n0:n≠0):(∃r,Ax 4 (3*B+8) r/\Ó 65 Bw [AE p,AE [n,1]] (.Ç [AE r,AE [1]])/\∀x,ev p x=ev r x*(n+x))\/(Ó 65 Bw [AE p,AE [n,1]] (.Ç [AE p,AE [n,1]])/\ev p (-n)≠0):=by
 exists p n B,h A C E n0;show ao (dY (q:=[n]) h.ŏ (ol (j0 3)) 0) λc t=>?_;have G:=t.bd h.bd (λy J=>by rw[am.mp J];show E) A _0;have m:=mx h.ŏ;have L:dn c (.Đ 4)=n:=t.gb 0 (pu _);show ag (TR.fK (OO (DI p.Á) Iq) [] (.v (.Đ 4) (.õ 1)::Hg p.Á) [] {λf h=>(nomatch h),λf j=>(a5.mp j).ç (λq=>by rw[q];show λd=>n0 (L.symm.Ð d)) (hZ h t.ga f),h_ G C _0}) λl o w=>?_;have N:=an.mp (af (ae (ae (ae (ae (an.mp gD _ m)))))) l o;have k:=an.mp (af (ae (ae (an.mp gF _ m)))) l o;have e:=ah (f0 (f0 (f0 (f0 (f0 (ah (gE (Ds c)) _ m)).2).2).2).2).1 l o;have f:=Lf.fact w N e;unfold WA at f;rw[av,av,av,av,t.ea,t.en] at f;have O:∀{a:CQ} {y:ñ},T4 a p [n] y->dn a (Pp p.Á).n=ev p (-n):=λ{a y} b=>by
  have Q:dn a (.Đ 4)=n:=b.gb 0 (pu _);have q:=bY (X:=.neg (.Đ 4)) (x:= -n) (c:=a) (â (- ·) Q) (DI p.Á) (fj 0 _);rw[b.ea] at q;show q
 rcases g4.mp k with k|k
 ·show .Ę {_,kr w G (af (ae (ae k))) (by change 3*B+3*2+2<=_;show a3 _),by rw[aN w (af k),show [FQ.i].Ö (Bz c)=[1] by change [Bz c .i]=_;rw[cY]] at f;show f,λx=>?_};show ao (dY (p:=p) (q:=[n]) h.ŏ (ol (j0 3)) x) λa b=>?_;have s:dn a I_=x:=b.gx;have H:=af (ae k);have u:=ae (ae (ae k));have I:∀f∈l.zs,dn a f.n=0:=λf j=>by rw[<-pz (gG t b) _ (be (an.mp (ae (ae u)) f j))];show w.z f j
  have g:dn a (EP I_ (DI p.Á)) -dn a (EP I_ l.r.1)*dn a (EP I_ Iq) -dn a (Pp p.Á).n=0:=og I 3 _ (af u);rw[bY s (DI p.Á) (fj 0 _),bY s _ pA,bY s _ (ones H),b.ea,b.en,og I 3 _ (af (ae u)),<-ia (gG t b) H] at g;have g:ev p x -ev (l.r.1.Ö (Bz c)) x*(n+x*(1+x*0)) -0=0:=g;grind
 ·rw[aN w (af k),aN w (af (ae k)),t.ea,t.en] at f;show .Ġ {f,?_};show ag (ms.mp (ae (ae k))) λd T q=>?_;have q:dn c (Pp p.Á).n -dn c d.n=0:=og w.z 3 _ q;rw[O t] at q;intro y;rw[y,Op,I3] at q;show w.n d T (by rw[<-ñ.neg_neg (dn c d.n),q];rfl)
def gi(h:Ax 4 100 p):Ó 65 Bl [AE p,AE [1]] (AE p):=(uJ h).1
def pB(h:Ax 4 100 p):Ó 65 Bl [AE [1],AE p] (AE p):=(uJ h).2.1
def zl(h:Ax 4 100 p):Ó 65 Bw [AE p,AE [1]] (.Ç [AE p,AE [1]]):=(uJ h).2.2
def ku(n:ñ)(a:bd 2 n):Ó 65 Bl [AE [n,1],AE [1]] (AE [n,1])/\Ó 65 Bl [AE [1],AE [n,1]] (AE [n,1]):=by
 have r:Ax 4 100 [n,1]:=⟨show 2<=4 by decide,λc h=>by(have z:=al h;clear h;subst z);show(show(1:ñ)≠0 by decide+kernel),λc h=>by
  rcases a5.mp h with rfl|h
  ·show a.le _0
  ·rw[am.mp h];show kg 99⟩
 show{gi r,pB r}
end
end
section
def sb{N n k:Ï}{S:Â Þ}{t:AF}(a:C_ f=À t)(l:Â D){os c:Â D}(b:l.Á=t.np)(s:Hs (Hc N) c)(Ĉ:((t.Ć.HS {Cj,DT,RN 1 S n k,Hb n,Ã} 1).f (Bf (l.Ö .ê) (t.nm.Á -t.np))>>=Cf).Ĉ (Ň os [])= .ok v (Ň [] c)):Ó (k+N+1) f l v:=λd h=>by
 obtain⟨d,Î⟩:=eD h;rw[bS a (by rw[a2];show b)];show Ō.told ((dS (mm (ww h)) t.Ć _).Ĕ gw) Ĉ s
section
variable{a b c d d' t x y v:D}{N:Nat}
def ib(h:Ó N Bl [a,d'] x)(e:Ó N Bl [b,d] y)(f:Ó N Fz [x,y] t)(g:Ó N Bl [d,d'] c)(i:Ó N Bw [t,c] v):Ó (5+N) Ba [.Ç [a,d],.Ç [b,d']] v:=
 sr (n:=0) (hk:=1) (S:=[Bl,Fz,Bw]) (os:=[x,y,t,c,v]) (ŋ:=[]) (.Æ (c:=.É [.Ý Bw,.É [t,c],v]) i (.Æ (c:=.É [.Ý Bl,.É [d,d'],c]) g (.Æ (c:=.É [.Ý Fz,.É [x,y],t]) f (.Æ (c:=.É [.Ý Bl,.É [b,d],y]) e (.Æ (c:=.É [.Ý Bl,.É [a,d'],x]) h .å))))) _2
def ie(h:Ó N Bl [a,b] x)(e:Ó N Bl [d,d'] c)(f:Ó N Bw [x,c] v):Ó (5+N) BC [.Ç [a,d],.Ç [b,d']] v:=
 sr (n:=0) (hk:=1) (S:=[Bl,Bw]) (os:=[x,c,v]) (ŋ:=[]) (.Æ (c:=.É [.Ý Bw,.É [x,c],v]) f (.Æ (c:=.É [.Ý Bl,.É [d,d'],c]) e (.Æ (c:=.É [.Ý Bl,.É [a,b],x]) h .å))) _2
end
def F1(p:Â ñ):D:=.Ç [AE p,AE [1]]
def FS(p:Â ñ)(n:ñ):D:=.Ç [AE p,AE [n,1]]
inductive DS(n:ñ)(B:Ï)(f:ñ->ñ):D->Prop
 |p {r}:Ax 4 B r->(∀x,ev r x*(n+x)=f x)->DS n B f (F1 r)
 |s {r}:Ax 4 B r->Ó 65 Bw [AE r,AE [n,1]] (FS r n)->ev r (-n)≠0->(∀x,ev r x=f x)->DS n B f (FS r n)
def xE:Ax 4 100 [1]:={_0,λc h=>by(have z:=al h;clear h;subst z);decide,λc h=>by rw[am.mp h];show kg 99}
def fk(a:Ax 4 B p)(b:Ax 4 C q)(d:1<=B)(e:1<=C)(h:B+C+1<=100):∃r,Ax 4 (B+C+1) r/\Ó 70 Ba [F1 p,F1 q] (F1 r)/\∀x,ev r x=ev p x+ev q x:=au (oh a b d e (ac (ac (bv B C) (v3 _)) h) (ac (ac (f3 C B) (v3 _)) h)) λr c f g=>{r,c,ib (gi (a.le (a3 4) (ac (ac (bv B C) (v3 _)) h))) (gi (b.le (a3 4) (ac (ac (f3 C B) (v3 _)) h))) f (gi xE) (zl (c.le (a3 4) h)),g}
section
variable{n:Rat}(hn:bd 2 n)(n0:n≠0)
include hn n0
def made(h:Ax 4 B p)(a:1<=B)(b:B<=100):∃v,Ó 65 Bw [AE p,AE [n,1]] v/\DS n (3*B+8) (ev p) v:=by
 rcases zk h a b hn n0 with⟨r,c,F,e⟩|⟨F,e⟩
 ·show{_,F,.p c λx=>(e x).symm}
 ·show{_,F,.s (h.le (a3 4) (ac (wT B _0) (bv ..))) F e λx=>rfl}
def uK{T:Â ñ}{B:Ï}(h:Ax 4 B T)(a:1<=B)(b:B<=100)(c:ev T (-n)≠0):Ó 65 Bw [AE T,AE [n,1]] (FS T n)/\DS n B (ev T) (FS T n):=by
 rcases zk h a b hn n0 with⟨r,d,F,e⟩|⟨F,e⟩
 ·show absurd (by rw[e,YF,M1]) c
 ·show{F,.s h F e λx=>rfl}
def DS.of(h:DS n B f v)(e:∀x,f x=g x):DS n B g v:=by
 cases h with
 |p a b=>show .p a λx=>(b x).Ð (e x)
 |s a b c d=>show .s a b c λx=>(d x).Ð (e x)
def add_r(g:Ax 3 B p)(o:DS n C f b)(j:1<=B)(k:1<=C)(h:2*B+C+5<=100):∃v,Ó 70 Ba [F1 p,b] v/\DS n (2*B+C+5) (λx=>ev p x*(n+x)+f x) v:=by
 cases o with
 | @p q a c=>
  show au (fk (g.le _0 (a3 B)) a j k (ac (ii (io (wT B _0) C) _0) h)) λr d F e=>{_,F,.p (d.le (a3 4) (ii (io (wT B _0) C) _0)) λx=>by rw[e,ZR,c]}
 | @s q a FT t c=>
  have a1:2*B+4<=100:=ac (ii (bv _ C) _0) h;have l:C<=100:=ac (ac (f3 C (2*B)) (bv _ 5)) h;show au (zj g j (ac (wT B _0) (ac (bv _ 4) a1)) hn) λA u w m=>au (oh u a (pu _) k a1 l) λr d F e=>?_;have y:∀x,ev r x=ev p x*(n+x)+f x:=λx=>by rw[e,m,c]
  show aj (uK hn n0 (d.le (a3 4) (show _<=2*B+C+5 by rw[E2 (2*B) 4 C];show a3 _)) (pu _) (ac (by assumption) _0) (by rw[e,m,YF,M1,I3];show t)) λz i=>{_,ib w (gi (a.le (a3 4) l)) F (ku n hn).2 z,DS.of hn n0 i y}
def add_l(t:DS n B f a)(g:Ax 3 C m)(j:1<=B)(k:1<=C)(h:B+2*C+5<=100):∃v,Ó 70 Ba [a,F1 m] v/\DS n (B+2*C+5) (λx=>f x+ev m x*(n+x)) v:=by
 cases t with
 | @p q b c=>
  show au (fk b (g.le _0 (a3 C)) j k (ac (ii (g5 (wT C _0) B) _0) h)) λr d F e=>{_,F,.p (d.le (a3 4) (ii (g5 (wT C _0) B) _0)) λx=>by rw[e,ZR,c]}
 | @s q b FT u c=>
  have a1:2*C+4<=100:=ac (ii (f3 _ B) _0) h;have l:B<=100:=ac (ac (bv B (2*C)) (bv _ 5)) h;show au (zj g k (ac (wT C _0) (ac (bv _ 4) a1)) hn) λE w y o=>au (oh b w j (pu _) l a1) λr d F e=>?_;have z:∀x,ev r x=f x+ev m x*(n+x):=λx=>by rw[e,o,c]
  show aj (uK hn n0 (d.le (a3 4) (show _<=B+2*C+5 by show a3 _)) (pu _) (ac (by assumption) _0) (by rw[e,o,YF,M1,Db];show u)) λA i=>{_,ib (gi (b.le (a3 4) l)) y F (ku n hn).1 A,DS.of hn n0 i z}
end
def zJ{Bp p2 A d1 a d g b:D}(h:Ó N Ac [Bp,.Ý AD] (.Ç [A,d1]))(k1:Ó N Ba [.Ç [.É [],AE [1]],.Ç [A,d1]] g)(e:Ó N Ac [p2,.Ý AD] (.Ç [a,d]))(k2:Ó N Ba [g,.Ç [a,d]] b):Ó (10+N+1) Ac [Be [Bp,p2],.Ý AD] b:=
 sb (n:=10) (S:=[Ac,Ba,BC]) (t:=CV) rfl _ (os:=[.Ç [A,d1],g,.Ç [a,d],b]) rfl (.Æ (c:=.É [.Ý Ba,.É [g,.Ç [a,d]],b]) k2 (.Æ (c:=.É [.Ý Ac,.É [p2,.Ý AD],.Ç [a,d]]) e (.Æ (c:=.É [.Ý Ba,.É [.Ç [.É [],AE [1]],.Ç [A,d1]],g]) k1 (.Æ (c:=.É [.Ý Ac,.É [Bp,.Ý AD],.Ç [A,d1]]) h .å)))) _2
def fs3{Bp p2 p A d1 a d b d3 g e f:D}(h:Ó N Ac [Bp,.Ý AD] (.Ç [A,d1]))(k1:Ó N Ba [.Ç [.É [],AE [1]],.Ç [A,d1]] g)(i:Ó N Ac [p2,.Ý AD] (.Ç [a,d]))(k2:Ó N Ba [g,.Ç [a,d]] e)(j:Ó N Ac [p,.Ý AD] (.Ç [b,d3]))(k3:Ó N Ba [e,.Ç [b,d3]] f):Ó (10+N+1) Ac [Be [Bp,p2,p],.Ý AD] f:=
 sb (n:=10) (S:=[Ac,Ba,BC]) (t:=CV) rfl _ (os:=[.Ç [A,d1],g,.Ç [a,d],e,.Ç [b,d3],f]) rfl (.Æ (c:=.É [.Ý Ba,.É [e,.Ç [b,d3]],f]) k3 (.Æ (c:=.É [.Ý Ac,.É [p,.Ý AD],.Ç [b,d3]]) j (.Æ (c:=.É [.Ý Ba,.É [g,.Ç [a,d]],e]) k2 (.Æ (c:=.É [.Ý Ac,.É [p2,.Ý AD],.Ç [a,d]]) i (.Æ (c:=.É [.Ý Ba,.É [.Ç [.É [],AE [1]],.Ç [A,d1]],g]) k1 (.Æ (c:=.É [.Ý Ac,.É [Bp,.Ý AD],.Ç [A,d1]]) h .å)))))) _2
def fs4{Bp p2 p k A d1 a d b d3 e f g h i j:D}(l:Ó N Ac [Bp,.Ý AD] (.Ç [A,d1]))(k1:Ó N Ba [.Ç [.É [],AE [1]],.Ç [A,d1]] g)(m:Ó N Ac [p2,.Ý AD] (.Ç [a,d]))(k2:Ó N Ba [g,.Ç [a,d]] h)(o:Ó N Ac [p,.Ý AD] (.Ç [b,d3]))(k3:Ó N Ba [h,.Ç [b,d3]] i)(q:Ó N Ac [k,.Ý AD] (.Ç [e,f]))(r:Ó N Ba [i,.Ç [e,f]] j):Ó (10+N+1) Ac [Be [Bp,p2,p,k],.Ý AD] j:=
 sb (n:=10) (S:=[Ac,Ba,BC]) (t:=CV) rfl _ (os:=[.Ç [A,d1],g,.Ç [a,d],h,.Ç [b,d3],i,.Ç [e,f],j]) rfl (.Æ (c:=.É [.Ý Ba,.É [i,.Ç [e,f]],j]) r (.Æ (c:=.É [.Ý Ac,.É [k,.Ý AD],.Ç [e,f]]) q (.Æ (c:=.É [.Ý Ba,.É [h,.Ç [b,d3]],i]) k3 (.Æ (c:=.É [.Ý Ac,.É [p,.Ý AD],.Ç [b,d3]]) o (.Æ (c:=.É [.Ý Ba,.É [g,.Ç [a,d]],h]) k2 (.Æ (c:=.É [.Ý Ac,.É [p2,.Ý AD],.Ç [a,d]]) m (.Æ (c:=.É [.Ý Ba,.É [.Ç [.É [],AE [1]],.Ç [A,d1]],g]) k1 (.Æ (c:=.É [.Ý Ac,.É [Bp,.Ý AD],.Ç [A,d1]]) l .å)))))))) _2
def nE{Bp p2 A d1 a d g b:D}{N:Ï}(h:Ó N Ac [Bp,.Ý AD] (.Ç [A,d1]))(k1:Ó N BC [.Ç [AE [1],AE [1]],.Ç [A,d1]] g)(e:Ó N Ac [p2,.Ý AD] (.Ç [a,d]))(k2:Ó N BC [g,.Ç [a,d]] b):Ó (10+N+1) Ac [Aj [Bp,p2],.Ý AD] b:=
 sb (n:=10) (S:=[Ac,Ba,BC]) (t:=CV) rfl _ (os:=[.Ç [A,d1],g,.Ç [a,d],b]) rfl (.Æ (c:=.É [.Ý BC,.É [g,.Ç [a,d]],b]) k2 (.Æ (c:=.É [.Ý Ac,.É [p2,.Ý AD],.Ç [a,d]]) e (.Æ (c:=.É [.Ý BC,.É [.Ç [AE [1],AE [1]],.Ç [A,d1]],g]) k1 (.Æ (c:=.É [.Ý Ac,.É [Bp,.Ý AD],.Ç [A,d1]]) h .å)))) _2
def fp3{Bp p2 p A d1 a d b d3 g e f:D}{N:Ï}(h:Ó N Ac [Bp,.Ý AD] (.Ç [A,d1]))(k1:Ó N BC [.Ç [AE [1],AE [1]],.Ç [A,d1]] g)(i:Ó N Ac [p2,.Ý AD] (.Ç [a,d]))(k2:Ó N BC [g,.Ç [a,d]] e)(j:Ó N Ac [p,.Ý AD] (.Ç [b,d3]))(k3:Ó N BC [e,.Ç [b,d3]] f):Ó (10+N+1) Ac [Aj [Bp,p2,p],.Ý AD] f:=
 sb (n:=10) (S:=[Ac,Ba,BC]) (t:=CV) rfl _ (os:=[.Ç [A,d1],g,.Ç [a,d],e,.Ç [b,d3],f]) rfl (.Æ (c:=.É [.Ý BC,.É [e,.Ç [b,d3]],f]) k3 (.Æ (c:=.É [.Ý Ac,.É [p,.Ý AD],.Ç [b,d3]]) j (.Æ (c:=.É [.Ý BC,.É [g,.Ç [a,d]],e]) k2 (.Æ (c:=.É [.Ý Ac,.É [p2,.Ý AD],.Ç [a,d]]) i (.Æ (c:=.É [.Ý BC,.É [.Ç [AE [1],AE [1]],.Ç [A,d1]],g]) k1 (.Æ (c:=.É [.Ý Ac,.É [Bp,.Ý AD],.Ç [A,d1]]) h .å)))))) _2
end
section
def uL(hk:k=0\/k=1\/k=3){mS a b d e1 b2 e2 q1 q V:D}{N:Ï}(h:Ó N Av [.É [mS,.Ç [.Ý Ay,b2,e2]],.Ý BH] (.É [Bn k a b,.Ç [.Ý Ay,b2,e2]]))(f:Ó N AP [Bn k a b] (.Ç [d,e1]))(e:Ó N AP [.Ç [.Ý Ay,b2,e2]] (.Ç [b2,e2]))(t:AU d=Ä)(g:AU b2=Ä)(n12:f2 d b2=Å)(r:B_ .eq d d=Ñ (.Ù Ä))(i:B_ .eq b2 b2=Ñ (.Ù Ä))(j:Ó N A_ [d,e1] (Bn k a b))(l:Ó N A_ [b2,e2] (.Ç [.Ý Ay,b2,e2]))(s:Ó N Ai [.É [Bn k a b,.Ç [.Ý Ay,b2,e2]]] (.É [q1,q]))(w:Ó N Ar [.Ç [.Ê 1,.Ê 1],Aj [q1,q]] V):Ó (10+N) As [.É [mS,.Ç [.Ý Ay,b2,e2]]] V:=sr (n:=10) (hk:=2) (S:=[Av,AP,A_,Ai,Ar,BP]) (os:=[.É [Bn k a b,.Ç [.Ý Ay,b2,e2]],.Ç [d,e1],.Ù Ä,.Ù Ä,.Ç [b2,e2],.Ù Ä,.Ù Å,.Ù Ä,.Ù Å,.Ù Å,Bn k a b,.Ç [d,e1],.Ù Ä,.Ç [.Ý Ay,b2,e2],.Ç [b2,e2],.Ù Ä,.É [q1,q],.Ù Å,V]) (ŋ:=[]) (.Æ (c:=.É [.Ý Ar,.É [.Ç [.Ê 1,.Ê 1],.Ç [.Ý BH,.Ç [q1,q]]],V]) w (.Æ (c:=.É [.Ù Å,.Ù Å]) rfl (.Æ (c:=.É [.Ý Ai,.É [.É [Bn k a b,.Ç [.Ý Ay,b2,e2]]],.É [q1,q]]) s (.Æ (c:=.Ç [.Ù Ä,b2,b2,.Ù Ä]) i (.Æ (c:=.É [.Ý AP,.É [.Ç [.Ý Ay,b2,e2]],.Ç [b2,e2]]) e (.Æ (c:=.É [.Ý A_,.É [b2,e2],.Ç [.Ý Ay,b2,e2]]) l (.Æ (c:=.Ç [.Ù Ä,d,d,.Ù Ä]) r (.Æ (c:=.É [.Ý AP,.É [Bn k a b],.Ç [d,e1]]) f (.Æ (c:=.É [.Ý A_,.É [d,e1],Bn k a b]) j (.Æ (c:=.É [.Ù Å,.Ù Å]) rfl (.Æ (c:=.É [.Ù (f2 (d) (b2)),.Ù Å]) n12 (.Æ (c:=.É [.Ù (AU (b2)),.Ù Ä]) g (.Æ (c:=.É [.Ù (f2 (d) (b2)),.Ù Å]) n12 (.Æ (c:=.É [.Ù (AU (b2)),.Ù Ä]) g (.Æ (c:=.É [.Ý AP,.É [.Ç [.Ý Ay,b2,e2]],.Ç [b2,e2]]) e (.Æ (c:=.É [.Ù (AU (d)),.Ù Ä]) t (.Æ (c:=.É [.Ù (AU (d)),.Ù Ä]) t (.Æ (c:=.É [.Ý AP,.É [Bn k a b],.Ç [d,e1]]) f (.Æ (c:=.É [.Ý Av,.É [.É [mS,.Ç [.Ý Ay,b2,e2]],.Ý BH],.É [Bn k a b,.Ç [.Ý Ay,b2,e2]]]) h .å))))))))))))))))))) (by rcases hk with rfl|rfl|rfl<;>kernel_rfl)
def aaj{mS b2 e2 V:D}{N:Ï}(d:Ó N Av [.É [mS,.Ç [.Ý Ay,b2,e2]],.Ý BH] (.É [.Ç [.Ý Cq,.Ê a,.Ê b],.Ç [.Ý Ay,b2,e2]]))(f:Ó N AP [.Ç [.Ý Ay,b2,e2]] (.Ç [b2,e2]))(t:AU b2=Ä)(r:B_ .eq b2 b2=Ñ (.Ù Ä))(g:Ó N A_ [b2,e2] (.Ç [.Ý Ay,b2,e2]))(s:Ó N Ai [.É [.Ç [.Ý Ay,b2,e2]]] (.É [.Ç [.Ý Ay,b2,e2]]))(m:Ó N BP [.Ç [.Ê 1,.Ê 1],.Ç [.Ê a,.Ê b]] (.Ç [.Ê a,.Ê b]))(z:decide (a=0)=Å)(w:Ó N Ar [.Ç [.Ê a,.Ê b],.Ç [.Ý Ay,b2,e2]] V):Ó (10+N) As [.É [mS,.Ç [.Ý Ay,b2,e2]]] V:=sr (n:=10) (hk:=2) (S:=[Av,AP,A_,Ai,Ar,BP]) (os:=[.É [.Ç [.Ý Cq,.Ê a,.Ê b],.Ç [.Ý Ay,b2,e2]],.Ç [.Ê a,.Ê b],.Ç [b2,e2],.Ù Ä,.Ù Ä,.Ù Å,.Ç [.Ý Ay,b2,e2],.Ç [b2,e2],.Ù Ä,.É [.Ç [.Ý Ay,b2,e2]],.Ù Å,V]) (ŋ:=[]) (.Æ (c:=.É [.Ý Ar,.É [.Ç [.Ê a,.Ê b],.Ç [.Ý Ay,b2,e2]],V]) w (.Æ (c:=.É [.Ù (decide (a=0)),.Ù Å]) z (.Æ (c:=.É [.Ý Ai,.É [.É [.Ç [.Ý Ay,b2,e2]]],.É [.Ç [.Ý Ay,b2,e2]]]) s (.Æ (c:=.Ç [.Ù Ä,b2,b2,.Ù Ä]) r (.Æ (c:=.É [.Ý AP,.É [.Ç [.Ý Ay,b2,e2]],.Ç [b2,e2]]) f (.Æ (c:=.É [.Ý A_,.É [b2,e2],.Ç [.Ý Ay,b2,e2]]) g (.Æ (c:=.É [.Ù (decide (a=0)),.Ù Å]) z (.Æ (c:=.É [.Ù (AU (b2)),.Ù Ä]) t (.Æ (c:=.É [.Ù (AU (b2)),.Ù Ä]) t (.Æ (c:=.É [.Ý AP,.É [.Ç [.Ý Ay,b2,e2]],.Ç [b2,e2]]) f (.Æ (c:=.É [.Ý BP,.É [.Ç [.Ê 1,.Ê 1],.Ç [.Ê a,.Ê b]],.Ç [.Ê a,.Ê b]]) m (.Æ (c:=.É [.Ý Av,.É [.É [mS,.Ç [.Ý Ay,b2,e2]],.Ý BH],.É [.Ç [.Ý Cq,.Ê a,.Ê b],.Ç [.Ý Ay,b2,e2]]]) d .å)))))))))))) _2
def aak(hk:k=0\/k=1\/k=3){mS a b d e1 b2 e2 q1 q V:D}{N:Ï}(j:Ó N Av [.É [mS,.Ç [.Ý Ay,b2,e2]],.Ý BH] (.É [.Ç [.Ý Cq,.Ê e,.Ê f],Bn k a b,.Ç [.Ý Ay,b2,e2]]))(g:Ó N AP [Bn k a b] (.Ç [d,e1]))(h:Ó N AP [.Ç [.Ý Ay,b2,e2]] (.Ç [b2,e2]))(t:AU d=Ä)(i:AU b2=Ä)(n12:f2 d b2=Å)(r:B_ .eq d d=Ñ (.Ù Ä))(l:B_ .eq b2 b2=Ñ (.Ù Ä))(o:Ó N A_ [d,e1] (Bn k a b))(p:Ó N A_ [b2,e2] (.Ç [.Ý Ay,b2,e2]))(s:Ó N Ai [.É [Bn k a b,.Ç [.Ý Ay,b2,e2]]] (.É [q1,q]))(m:Ó N BP [.Ç [.Ê 1,.Ê 1],.Ç [.Ê e,.Ê f]] (.Ç [.Ê e,.Ê f]))(z:decide (e=0)=Å)(w:Ó N Ar [.Ç [.Ê e,.Ê f],Aj [q1,q]] V):Ó (10+N) As [.É [mS,.Ç [.Ý Ay,b2,e2]]] V:=sr (n:=10) (hk:=2) (S:=[Av,AP,A_,Ai,Ar,BP]) (os:=[.É [.Ç [.Ý Cq,.Ê e,.Ê f],Bn k a b,.Ç [.Ý Ay,b2,e2]],.Ç [.Ê e,.Ê f],.Ç [d,e1],.Ù Ä,.Ù Ä,.Ç [b2,e2],.Ù Ä,.Ù Å,.Ù Ä,.Ù Å,.Ù Å,Bn k a b,.Ç [d,e1],.Ù Ä,.Ç [.Ý Ay,b2,e2],.Ç [b2,e2],.Ù Ä,.É [q1,q],.Ù Å,V]) (ŋ:=[]) (.Æ (c:=.É [.Ý Ar,.É [.Ç [.Ê e,.Ê f],.Ç [.Ý BH,.Ç [q1,q]]],V]) w (.Æ (c:=.É [.Ù (decide (e=0)),.Ù Å]) z (.Æ (c:=.É [.Ý Ai,.É [.É [Bn k a b,.Ç [.Ý Ay,b2,e2]]],.É [q1,q]]) s (.Æ (c:=.Ç [.Ù Ä,b2,b2,.Ù Ä]) l (.Æ (c:=.É [.Ý AP,.É [.Ç [.Ý Ay,b2,e2]],.Ç [b2,e2]]) h (.Æ (c:=.É [.Ý A_,.É [b2,e2],.Ç [.Ý Ay,b2,e2]]) p (.Æ (c:=.Ç [.Ù Ä,d,d,.Ù Ä]) r (.Æ (c:=.É [.Ý AP,.É [Bn k a b],.Ç [d,e1]]) g (.Æ (c:=.É [.Ý A_,.É [d,e1],Bn k a b]) o (.Æ (c:=.É [.Ù (decide (e=0)),.Ù Å]) z (.Æ (c:=.É [.Ù (f2 (d) (b2)),.Ù Å]) n12 (.Æ (c:=.É [.Ù (AU (b2)),.Ù Ä]) i (.Æ (c:=.É [.Ù (f2 (d) (b2)),.Ù Å]) n12 (.Æ (c:=.É [.Ù (AU (b2)),.Ù Ä]) i (.Æ (c:=.É [.Ý AP,.É [.Ç [.Ý Ay,b2,e2]],.Ç [b2,e2]]) h (.Æ (c:=.É [.Ù (AU (d)),.Ù Ä]) t (.Æ (c:=.É [.Ù (AU (d)),.Ù Ä]) t (.Æ (c:=.É [.Ý AP,.É [Bn k a b],.Ç [d,e1]]) g (.Æ (c:=.É [.Ý BP,.É [.Ç [.Ê 1,.Ê 1],.Ç [.Ê e,.Ê f]],.Ç [.Ê e,.Ê f]]) m (.Æ (c:=.É [.Ý Av,.É [.É [mS,.Ç [.Ý Ay,b2,e2]],.Ý BH],.É [.Ç [.Ý Cq,.Ê e,.Ê f],Bn k a b,.Ç [.Ý Ay,b2,e2]]]) j .å)))))))))))))))))))) (by rcases hk with rfl|rfl|rfl<;>kernel_rfl)
end
section
structure PT where
 c:é
 p:D
 a:ä
 b:ä
 r:D
 q:D
noncomputable def PT.n(t:PT):D:=.Ç [.Ê t.a,.Ê t.b]
def BW:D:=Ag (1,1)
def Jm:Â PT->Â D->Â D
 |[],_=>[]
 |t::l,s=>cF Au [t.p] (.Ç [t.n,t.r])::cB (AU t.r) Ä::(s.Ö λk=>cB (f2 k t.r) Å)++cF Dj [.Ç [.Ê 0,.Ê 1],t.n] t.n::cB (AU t.r) Ä::(s.Ö λk=>cB (f2 k t.r) Å)++Jm l (s++[t.r])
def Fp:Â PT->ä×ä
 |[]=>(0,1)
 |t::l=>match t.c with
  |Ä=>(t.a,t.b)
  |Å=>Fp l
def GA:Â PT->Â D
 |[]=>[]
 |t::l=>match t.c with
  |Ä=>GA l
  |Å=>cB (!decide (t.a=0)) Ä::cF Ar [t.n,t.r] t.q::GA l
def Ej:Â PT->Â D
 |[]=>[]
 |t::l=>match t.c with
  |Ä=>Ej l
  |Å=>t.q::Ej l
def UH(P:D)(ts:Â PT)(ss:Â D)(z:é):Â D:=cF Av [P,.Ý BU] (.É (ts.Ö PT.p))::Jm ts []++cB (AU BW) Ä::(ts.Ö λt=>cB (f2 t.r BW) t.c)++GA ts++[cF Ai [.É (Ej ts)] (.É ss),cB (!decide ((Fp ts).1=0)) z]
def UI:Â Þ:=[Av,Au,Dj,Ar,Ai]
def Xi(P:D)(ts:Â PT)(ss:Â D)(z:é):Out D:=(RN 2 UI 10 10 Ap [.ê P]).Ĉ (Ň ((UH P ts ss z).ĥ NQ) [])
def NY(ts:Â PT)(ss:Â D)(z:é):D:=BY (ss++match z with
 |Ä=>[Ag (Fp ts)]
 |Å=>[])
def Xj(P:D)(ts:Â PT)(ss:Â D)(z:é):Out D:=.ok (NY ts ss z) (Ň [] (UH P ts ss z).Ė)
def Ja(A:Ï->D)(I:Ï->ä):Ï->Â Ï->Â PT
 |_,[]=>[]
 |i,k::l=>(match k with
  |0=>{Ä,A (4*i),I (2*i),I (2*i+1),BW,.Ã}
  |k+1=>{Å,A (4*i),I (2*i),I (2*i+1),A (4*i+1),Bn k (A (4*i+2)) (A (4*i+3))})::Ja A I (i+1) l
def Ko(A:Ï->D)(l:Â Ï):Â D:=(ty (l.ÀX λk=> !Ï.beq k 0).Á).Ö λi=>A (40+i)
noncomputable def pats:Â (Â Ï×é):=
 let GD:Â (Â Ï):=[[],[2],[3]];let a1:Â (Â Ï):=[[],[1],[3]];let Ky:Â (Â Ï×é):=[([],Å),([0],Ä)]
 ((GD.ĥ λx=>GD.ĥ λy=>a1.ĥ λz=>Ky.ĥ λc=>[(x++y++z++c.1,c.2),(c.1++z++y++x,c.2)])++GD.ĥ λy=>a1.ĥ λz=>Ky.ĥ λc=>[[2],[3]].Ö λv=>(y++z++c.1++v,c.2))++[([0,2],Å),([0,3],Å)]
def Ra(p:(Ï->D)×(Ï->ä)):Prop:=AR (λl=>Xi (p.1 50) (Ja p.1 p.2 0 l.1) (Ko p.1 l.1) l.2) pats=pats.Ö λl=>Xj (p.1 50) (Ja p.1 p.2 0 l.1) (Ko p.1 l.1) l.2
instance XM:í ((Ï->D)×(Ï->ä)):={(λ_=>.Ã,λ_=>0)}
def Xk:(Ï->D)×(Ï->ä):=un λp=>¬Ra p
def xF(A:Ï->D)(I:Ï->ä):Ra (A,I):=aI (P:=Ra) (show Ra Xk by unfold Ra;kernel_rfl) (A,I)
end
section
structure PT.OK(N:Ï)(t:PT):Prop where
 nr:Ó N Au [t.p] (.Ç [t.n,t.r])
 k:AU t.r=Ä
 ad:Ó N Dj [.Ç [.Ê 0,.Ê 1],t.n] t.n
 o:f2 t.r BW=t.c
 w:t.c=Å->decide (t.a=0)=Å/\Ó N Ar [t.n,t.r] t.q
def Hs.app(h:Hs H a)(k:Hs H b):Hs H (a++b):=λc d=>(dL.mp d).ç (h c) (k c)
def Hs.Ö{l:Â α}{f:α->D}(h:∀a∈l,H (f a)):Hs H (l.Ö f):=λc b=>by
 obtain⟨a,d,Î⟩:=i1.mp b;show h a d
def ig(ts:Â PT)(a:Â D)(h:∀t∈ts,t.OK N)(p:ts.ĳ (λs t=>f2 s.r t.r=Å))(hk:∀k∈a,∀t∈ts,f2 k t.r=Å):Hs (Hc N) (Jm ts a):=by
 induction ts generalizing a with
 |å=>show .å
 |Æ t l i=>
  have b:=h t (.Ď _);show aj (S5.mp p) λBp p2=>?_;have e:Hs (Hc N) (a.Ö λk=>cB (f2 k t.r) Å):=.Ö λk f=>hk k f t (.Ď _);show((Hs.Æ (c:=cF _ _ _) b.nr (.Æ b.k e)).app (.Æ (c:=cF _ _ _) b.ad (.Æ (c:=cB _ _) b.k e))).app (i _ (λs d=>h s (.ě _ d)) p2 λk f s d=>(dL.mp f).ç (λq=>hk k q s (.ě _ d)) λq=>by rw[am.mp q];show Bp s d)
def ih(ts:Â PT)(h:∀t∈ts,t.OK N):Hs (Hc N) (GA ts):=by
 induction ts with
 |å=>show .å
 |Æ t l i=>
  have i:=i λs b=>h s (.ě _ b);unfold GA;cases e:t.c with
  |Ä=>show i
  |Å=>
   show aj ((h t (.Ď _)).w e) λd f=>.Æ (by change(!decide (t.a=0))=Ä;rw[d];rfl) (.Æ f i)
def xG(h:∀t∈ts,t.OK N)(a:ts.ĳ λs t=>f2 s.r t.r=Å)(b:Ó N Av [P,.Ý BU] (.É (ts.Ö PT.p)))(d:Ó N Ai [.É (Ej ts)] (.É ss))(n:decide ((Fp ts).1=0)= !z):Hs (Hc N) (UH P ts ss z):=by
 show(((Hs.Æ (c:=cF _ _ _) b (ig ts [] h a λ_ h=>nomatch h)).app (.Æ (c:=cB _ _) (show AU BW=Ä by kernel_rfl) (.Ö (f:=λt:PT=>cB (f2 t.r BW) t.c) λt e=>(h t e).o))).app (ih ts h)).app (.Æ d (.Æ ?_ .å));change(!decide ((Fp ts).1=0))=z;rw[n,T3]
def Hs.rev(h:Hs H l):Hs H l.Ė:=λc a=>h c (SC.mp a)
def Gs(P:D)(ts:Â PT)(ss:Â D)(i:Ï):D:=match i with
 |50=>P
 |i=>if 40<=i then ss.ø (i -40) .Ã else
  let t:=ts.ø (i/4) {Ä,.Ã,0,1,.Ã,.Ã}
  match i %4 with
  |0=>t.p
  |1=>t.r
  |2=>(Fb t.q).2.1
  |_=>(Fb t.q).2.2
def Jb(ts:Â PT)(i:Ï):ä:=let t:=ts.ø (i/2) {Ä,.Ã,0,1,.Ã,.Ã}
 match i %2 with
 |0=>t.a
 |_=>t.b
def uM(b:(l,z)∈pats)(c:Ja (Gs P ts ss) (Jb ts) 0 l=ts)(d:Ko (Gs P ts ss) l=ss)
  (h:∀t∈ts,t.OK N)(e:ts.ĳ λs t=>f2 s.r t.r=Å)(f:Ó N Av [P,.Ý BU] (.É (ts.Ö PT.p)))(g:Ó N Ai [.É (Ej ts)] (.É ss))(n:decide ((Fp ts).1=0)= !z):Ó (10+N) Ap [P] (NY ts ss z):=by
 have a:=ah (xF (Gs P ts ss) (Jb ts)) (l,z) b;dsimp only at a;rw[c,d] at a;show sr (xG h e f g n).rev a
noncomputable def mo(k:Ï)(c:ñ):D:=match k with
 |0=>Ag (c.õ,c.þ)
 |k=>if c=1 then Cy k else Aj [Ag (c.õ,c.þ),Cy k]
def UJ(k:Ï):D:=match k with
 |0=>BW
 |k=>Cy k
def VQ(k:Ï)(c:ñ):PT:=⟨pp k 0,mo k c,c.õ,c.þ,UJ k,match k with
 |0=>.Ã
 |k+1=>mo (k+1) c⟩
def dZ(k:Ï):mo (k+1) 1=Cy (k+1):=(à Î:(if(1:ñ)=1 then Cy (k+1) else Aj [Ag ((1:ñ).õ,((1:ñ).þ)),Cy (k+1)])=_)
def dF{k:Ï}(h:c≠1):mo (k+1) c=Aj [Ag (c.õ,c.þ),Cy (k+1)]:=(ß h:(if c=1 then Cy (k+1) else Aj [Ag (c.õ,c.þ),Cy (k+1)])=_)
def xH(a b:ä):AR (λk=>((RN 1 [] 5 5 Au [.ê (Cy k)]).Ĉ (Ň [] []),(RN 1 [] 5 5 Au [.ê (Aj [Ag (a,b),Cy k])]).Ĉ (Ň [] []),
  (RN 1 [] 5 5 Ar [.ê (.Ç [.Ê 1,.Ê 1]),.ê (Cy k)]).Ĉ (Ň [.Ù Å,.Ù Ä] []),(RN 1 [] 5 5 Ar [.ê (.Ç [.Ê a,.Ê b]),.ê (Cy k)]).Ĉ (Ň [.Ù Å,.Ù Å] []))) [1,2,3]=
  [1,2,3].Ö λk=>(.ok (.Ç [.Ç [.Ê 1,.Ê 1],Cy k]) (Ň [] []),.ok (.Ç [.Ç [.Ê a,.Ê b],Cy k]) (Ň [] []),.ok (Cy k) (Ň [] [cB Ä Ä,cB Å Å]),.ok (Aj [Ag (a,b),Cy k]) (Ň [] [cB (decide (a=1)&&(decide (b=1)&&Ä)) Å,cB (decide (a=0)) Å])):=_2
def uN:AR (λk=>(AU (Cy k),f2 (Cy k) BW,[1,2,3].Ö λj=>f2 (Cy k) (Cy j),f2 BW (Cy k))) [1,2,3]=[1,2,3].Ö λk=>(Ä,Å,[1,2,3].Ö λj=>pp k j,Å):=_2
def m3{k:Ï}(h:k<3):k+1∈[1,2,3]:=by
 match k,h with
 |0,_=>show .Ď _
 |1,_=>show .ě _ (.Ď _)
 |2,_=>show .ě _ (.ě _ (.Ď _))
def xI{k:Ï}{c:ñ}(hk:k<=3)(e:c≠0)(f:bd 2600 c):(VQ k c).OK 5:=by
 exists k c,hk e f;have ad:Ó 5 Dj [.Ç [.Ê 0,.Ê 1],AB c] (AB c):=by
  have:=dA (dV 0) f _0;rw[I3] at this;show this
 have z:decide (c.õ=0)=Å:=û (fg.ĝ e)
 match k,hk with
 |0,_=>show{λd a=>sr (N:=0) (n:=5) (hk:=1) (S:=[]) (os:=[]) (ŋ:=[]) .å _2 d a,_2,ad,_2,λh=>by show tF h}
 |k+1,hk=>
  exists k,hk;have m:=m3 (by show ac (by assumption) _0);show aj (f0 (ah (xH c.õ c.þ) (k+1) m)) λj r=>aj (f0 r) λo r=>aj (f0 r) λp s=>aj (f0 (ah uN (k+1) m)) λg q=>aj (f0 q) λi _=>?_;by_cases b:c=1
  ·subst b;show{λd a=>?_,g,ad,i,λ_=>{z,λd a=>?_}}
   ·change R d Au [.ê (mo (k+1) 1)]=_;rw[dZ];show sr (N:=0) (l:=[Cy (k+1)]) .å j d a
   ·change R d Ar [.ê (AB 1),.ê (Cy (k+1))]=Ñ (mo (k+1) 1);rw[dZ];show sr (N:=0) (k:=5) (l:=[.Ç [.Ê 1,.Ê 1],Cy (k+1)]) (.Æ (c:=cB Ä Ä) rfl (.Æ (c:=cB Å Å) rfl .å)) p d a
  ·show{λd a=>?_,g,ad,i,λ_=>{z,λd a=>?_}}
   ·change R d Au [.ê (mo (k+1) c)]=_;rw[dF b];show sr (N:=0) (k:=5) (l:=[Aj [Ag (c.õ,c.þ),Cy (k+1)]]) .å o d a
   ·change R d Ar [.ê (AB c),.ê (Cy (k+1))]=Ñ (mo (k+1) c);rw[dF b];show sr (N:=0) (k:=5) (l:=[AB c,Cy (k+1)]) (.Æ (c:=cB _ _) (uw.Ð (û b)) (.Æ (c:=cB _ _) z .å)) s d a
end
section
def zm{N:Ï}:Ó (10+N) Ai [.É []] (.É []):=
 sr (n:=20) (hk:=1) (S:=[Ab]) (os:=[]) (ŋ:=[]) .å _2
def gj{N:Ï}:Ó (10+N) Ai [.É [a]] (.É [a]):=
 sr (n:=20) (hk:=1) (S:=[Ab]) (os:=[]) (ŋ:=[]) .å _2
def ij(h:Ó N Ab [a,b] (.Ê (-1))):Ó (10+N) Ai [.É [a,b]] (.É [a,b]):=
 sr (n:=20) (hk:=1) (S:=[Ab]) (os:=[.Ê (-1)]) (ŋ:=[]) (.Æ (c:=.É [.Ý Ab,.É [a,b],.Ê (-1)]) h (.Æ (c:=.Ç [.Ê 2]) {_0,_2} .å)) _2
def fN(h:Ó N Ab [a,b] (.Ê 1)):Ó (10+N) Ai [.É [a,b]] (.É [b,a]):=
 sr (n:=20) (hk:=1) (S:=[Ab]) (os:=[.Ê 1]) (ŋ:=[]) (.Æ (c:=.É [.Ý Ab,.É [a,b],.Ê 1]) h (.Æ (c:=.Ç [.Ê 2]) {_0,_2} .å)) _2
def zo(h:Ó N Ab [b,c] (.Ê (-1)))(d:Ó N Ab [a,b] (.Ê (-1))):Ó (10+N) Ai [.É [a,b,c]] (.É [a,b,c]):=
 sr (n:=20) (hk:=1) (S:=[Ab]) (os:=[.Ê (-1),.Ê (-1)]) (ŋ:=[]) (.Æ (c:=.É [.Ý Ab,.É [a,b],.Ê (-1)]) d (.Æ (c:=.É [.Ý Ab,.É [b,c],.Ê (-1)]) h (.Æ (c:=.Ç [.Ê 2]) {_0,_2} (.Æ (c:=.Ç [.Ê 2]) {_0,_2} .å)))) _2
def aal(h:Ó N Ab [b,c] (.Ê 1))(d:Ó N Ab [a,c] (.Ê 1))(e:Ó N Ab [a,b] (.Ê 1)):Ó (10+N) Ai [.É [a,b,c]] (.É [c,b,a]):=
 sr (n:=20) (hk:=1) (S:=[Ab]) (os:=[.Ê 1,.Ê 1,.Ê 1]) (ŋ:=[]) (.Æ (c:=.É [.Ý Ab,.É [a,b],.Ê 1]) e (.Æ (c:=.É [.Ý Ab,.É [a,c],.Ê 1]) d (.Æ (c:=.É [.Ý Ab,.É [b,c],.Ê 1]) h (.Æ (c:=.Ç [.Ê 2]) {_0,_2} (.Æ (c:=.Ç [.Ê 2]) {_0,_2} .å))))) _2
def aam(h:Ó N Ab [b,c] (.Ê 1))(d:Ó N Ab [a,c] (.Ê (-1))):Ó (10+N) Ai [.É [a,b,c]] (.É [a,c,b]):=
 sr (n:=20) (hk:=1) (S:=[Ab]) (os:=[.Ê 1,.Ê (-1)]) (ŋ:=[]) (.Æ (c:=.É [.Ý Ab,.É [a,c],.Ê (-1)]) d (.Æ (c:=.É [.Ý Ab,.É [b,c],.Ê 1]) h (.Æ (c:=.Ç [.Ê 2]) {_0,_2} (.Æ (c:=.Ç [.Ê 2]) {_0,_2} .å)))) _2
def aan(h:Ó N Ab [b,c] (.Ê 1))(d:Ó N Ab [a,c] (.Ê 1))(e:Ó N Ab [a,b] (.Ê (-1))):Ó (10+N) Ai [.É [a,b,c]] (.É [c,a,b]):=
 sr (n:=20) (hk:=1) (S:=[Ab]) (os:=[.Ê 1,.Ê 1,.Ê (-1)]) (ŋ:=[]) (.Æ (c:=.É [.Ý Ab,.É [a,b],.Ê (-1)]) e (.Æ (c:=.É [.Ý Ab,.É [a,c],.Ê 1]) d (.Æ (c:=.É [.Ý Ab,.É [b,c],.Ê 1]) h (.Æ (c:=.Ç [.Ê 2]) {_0,_2} (.Æ (c:=.Ç [.Ê 2]) {_0,_2} .å))))) _2
def Hh(g:é)(c:ä×ä)(k:Ï):D:=match g with
 |Ä=>Aj [Ag c,Cy k]
 |Å=>Cy k
def Xl:Â (Ï×Ï):=[(1,2),(1,3),(2,3),(2,1),(3,1),(3,2)]
def xJ(c e:ä×ä):AR (λp=>AR (λg=>AR (λf=>(RN 0 [] 20 20 Ab [.ê (Hh g c p.1),.ê (Hh f e p.2)]).Ĉ (Ň [] [])) [Ä,Å]) [Ä,Å]) Xl=Xl.Ö λp=>[Ä,Å].Ö λ_=>[Ä,Å].Ö λ_=>.ok (.Ê (if p.1<p.2 then 1 else -1)) (Ň [] []):=_2
def Bs(c:ñ):ä×ä:=(c.õ,c.þ)
def uO(k:Ï)(c:ñ):mo (k+1) c=Hh (!decide (c=1)) (Bs c) (k+1):=by
 by_cases h:c=1
 ·rw[Ă h];subst h;show dZ k
 ·rw[û h];show dF h
def ik(b:é):b∈[Ä,Å]:=by induction b using ci<;>simp
def cQ{i j:Ï}(h:(i+1,j+1)∈Xl):Ó 20 Ab [mo (i+1) c,mo (j+1) e] (.Ê (if i+1<j+1 then 1 else -1)):=λd a=>by
 have r:=ah (ah (ah (xJ (Bs c) (Bs e)) _ h) (!decide (c=1)) (ik _)) (!decide (e=1)) (ik _);rw[<-uO,<-uO] at r;show sr (N:=0) .å r d a
inductive GB:Ï->PT->Prop
 |c {p a b}:GB 0 {Ä,p,a,b,BW,.Ã}
 |m {k p a b r x y}:k<=3->GB (k+1) {Å,p,a,b,r,Bn k x y}
def xK(h:k<=3)(x y:D):Bn k (Fb (Bn k x y)).2.1 (Fb (Bn k x y)).2.2=Bn k x y:=by
 match k,h with
 |0,_=>rfl
 |1,_=>rfl
 |2,_=>rfl
 |3,_=>rfl
inductive DJ:Â Ï->Â PT->Prop
 |å:DJ [] []
 |Æ {k t l ts}:GB k t->DJ l ts->DJ (k::l) (t::ts)
def xM{P:D}{ts:Â PT}{ss:Â D}{i:Ï}(h:i<10):Gs P ts ss (4*i)=(ts.ø i {Ä,.Ã,0,1,.Ã,.Ã}).p/\Gs P ts ss (4*i+1)=(ts.ø i {Ä,.Ã,0,1,.Ã,.Ã}).r/\
  Gs P ts ss (4*i+2)=(Fb (ts.ø i {Ä,.Ã,0,1,.Ã,.Ã}).q).2.1/\Gs P ts ss (4*i+3)=(Fb (ts.ø i {Ä,.Ã,0,1,.Ã,.Ã}).q).2.2/\Jb ts (2*i)=(ts.ø i {Ä,.Ã,0,1,.Ã,.Ã}).a/\Jb ts (2*i+1)=(ts.ø i {Ä,.Ã,0,1,.Ã,.Ã}).b:=by
 exists P ts ss i,h;rcases(by lia:i=0\/i=1\/i=2\/i=3\/i=4\/i=5\/i=6\/i=7\/i=8\/i=9) with rfl|rfl|rfl|rfl|rfl|rfl|rfl|rfl|rfl|rfl<;>show{Î,Î,Î,Î,Î,Î}
def gH{P:D}{u:Â PT}{ss:Â D}:∀{l:Â Ï} {ts:Â PT},DJ l ts->∀i,u.Ń i=ts->i+ts.Á<=10->Ja (Gs P u ss) (Jb u) i l=ts
 |_,_,.å,_,_,_=>rfl
 |_,_,.Æ (t:=t) (l:=l) (ts:=ts) o h,i,e,p=>by
  have d:i+(ts.Á+1)<=10:=p;have q:u.ø i {Ä,.Ã,0,1,.Ã,.Ã}=t:=by
   have:=â (λl=>l[0]?) e;rw[Â.getElem?_drop] at this;rw[i6,show u[i]? =À t from this];rfl
  have r:u.Ń (i+1)=ts:=by rw[<-Â.drop_drop,e];rfl
  show qh (xM (P:=P) (ts:=u) (ss:=ss) (i:=i) (ce (Y4 (pu ts.Á)) d)) λg f j k a b=>?_;rw[q] at g f j k a b;have n:=gH (P:=P) (ss:=ss) h (i+1) r (by rw[E2];show d);cases o with
  |c=>
   change({Ä,Gs P u ss (4*i),Jb u (2*i),Jb u (2*i+1),BW,.Ã})::Ja _ _ (i+1) l=_;rw[n,g,a,b]
  |m s=>
   change({Å,Gs P u ss (4*i),Jb u (2*i),Jb u (2*i+1),Gs P u ss (4*i+1),Bn _ (Gs P u ss (4*i+2)) (Gs P u ss (4*i+3))})::Ja _ _ (i+1) l=_;rw[n,g,f,j,k,a,b,xK s]
def my(h:ss.Á=(l.ÀX λk=> !Ï.beq k 0).Á)(d:ss.Á<=3):Ko (Gs P u ss) l=ss:=by
 unfold Ko;rw[<-h]
 match ss,d with
 |[],_=>rfl
 |[a],_=>rfl
 |[a,b],_=>rfl
 |[a,b,c],_=>rfl
 |_::_::_::_::_,d=>show absurd d (by simp)
def il(h:DJ l ts):(Ej ts).Á=(l.ÀX λk=> !Ï.beq k 0).Á:=by
 induction h with
 |å=>rfl
 |Æ f _ i=>
  cases f with
  |c=>show i
  |m=>show â Ï.ś i
def pD{N:Ï}{P:D}{ts:Â PT}{ss:Â D}{l:Â Ï}{z:é}(b:(l,z)∈pats)(a:DJ l ts)(c:ts.Á<=4)(d:ss.Á=(Ej ts).Á)(e:ss.Á<=3)
  (h:∀t∈ts,t.OK N)(f:ts.ĳ λs t=>f2 s.r t.r=Å)(g:Ó N Av [P,.Ý BU] (.É (ts.Ö PT.p)))(i:Ó N Ai [.É (Ej ts)] (.É ss))(n:decide ((Fp ts).1=0)= !z):Ó (10+N) Ap [P] (NY ts ss z):=
 uM b (gH a 0 Î (by rw[s6];show ac c _0)) (my (d.Ð (il a)) e) h f g i n
end
section
abbrev Mo:=Ï×ñ
def BA(k:Ï)(c:ñ):Â Mo:=if c=0 then [] else [(k,c)]
def Lm(a b c d:ñ):Â Mo:=BA 3 d++BA 2 c++BA 1 b++BA 0 a
def AY(m:Mo):D:=mo m.1 m.2
def Ek(m:Mo):PT:=VQ m.1 m.2
def KG(m:Mo):Ï:=match m.1 with
 |0=>0
 |1=>if m.2=1 then 1 else 3
 |_=>if m.2=1 then 2 else 3
def kv(k:Ï)(c:ñ):D_ (k+1) (EO c) (c.õ,c.þ)=(BA (k+1) c).Ö AY:=by
 unfold EO BA;by_cases h:c=0
 ·rw[à h,à h];rfl
 ·rw[ß h,ß h];by_cases a:c=1
  ·rw[à a];subst a;change [Cy (k+1)]=[mo (k+1) 1];rw[dZ]
  ·rw[ß a];change [Aj [Ag (c.õ,c.þ),Cy (k+1)]]=[mo (k+1) c];rw[dF a]
def gI(c:ñ):D_ 0 (He c) (c.õ,c.þ)=(BA 0 c).Ö AY:=by
 unfold He BA;by_cases h:c=0
 ·rw[à h,à h];rfl
 ·rw[ß h,ß h];rfl
def eC(k:Ï):BA k 0=[]:=à Î
def Cg(p:Â ñ):Â Mo:=Lm (p.ø 0 0) (p.ø 1 0) (p.ø 2 0) (p.ø 3 0)
def aY{p:Â ñ}(h:p.Á<=4):nf p=BY ((Cg p).Ö AY):=by
 unfold nf QR Cg Lm;rw[g1,g1,g1]
 match p,h with
 |[],_=>change BY []=BY ((BA 3 0).Ö AY++(BA 2 0).Ö AY++(BA 1 0).Ö AY++(BA 0 0).Ö AY);simp only[eC];rfl
 |[a],_=>
  change BY ([]++D_ 0 (He a) (a.õ,a.þ))=BY ((BA 3 0).Ö AY++(BA 2 0).Ö AY++(BA 1 0).Ö AY++(BA 0 a).Ö AY);simp only[eC,gI];rfl
 |[a,b],_=>
  change BY ([]++D_ 1 (EO b) (b.õ,b.þ)++D_ 0 (He a) (a.õ,a.þ))=BY ((BA 3 0).Ö AY++(BA 2 0).Ö AY++(BA 1 b).Ö AY++(BA 0 a).Ö AY);simp only[eC,gI,kv];rfl
 |[a,b,c],_=>
  change BY ([]++D_ 2 (EO c) (c.õ,c.þ)++D_ 1 (EO b) (b.õ,b.þ)++D_ 0 (He a) (a.õ,a.þ))=BY ((BA 3 0).Ö AY++(BA 2 c).Ö AY++(BA 1 b).Ö AY++(BA 0 a).Ö AY);simp only[eC,gI,kv];rfl
 |[a,b,c,d],_=>
  change BY ([]++D_ 3 (EO d) (d.õ,d.þ)++D_ 2 (EO c) (c.õ,c.þ)++D_ 1 (EO b) (b.õ,b.þ)++D_ 0 (He a) (a.õ,a.þ))=BY ((BA 3 d).Ö AY++(BA 2 c).Ö AY++(BA 1 b).Ö AY++(BA 0 a).Ö AY);simp only[gI,kv];rfl
 |_::_::_::_::_::_,h=>show absurd h (by simp)
def Good(L:Â Mo):Prop:=∀m∈L,m.1<=3/\m.2≠0/\bd 2600 m.2
def Xm(L:Â Mo):Prop:=L.ĳ λm n=>n.1<m.1
def xN:([0,1,2,3].Ö λi=>[0,1,2,3].Ö λj=>pp i j|| !ā.eqv (UJ i) (UJ j))=[0,1,2,3].Ö λ_=>[0,1,2,3].Ö λ_=>Ä:=_2
def m4(h:k<=3):k∈[0,1,2,3]:=by
 match k,h with
 |0,_=>show .Ď _
 |1,_=>show .ě _ (.Ď _)
 |2,_=>show .ě _ (.ě _ (.Ď _))
 |3,_=>show .ě _ (.ě _ (.ě _ (.Ď _)))
def aao(a:i<=3)(b:j<=3)(h:i≠j):f2 (UJ i) (UJ j)=Å:=by
 have q:=Q3.mp (Q3.mp xN i (m4 a)) j (m4 b);rcases g4.mp q with q|q
 ·show absurd (l0 q) h
 ·show(wP _).mp q
def gJ(g:Good L):∀t∈L.Ö Ek,t.OK 5:=λt h=>by
 obtain⟨m,a,Î⟩:=i1.mp h;show b_ (g m a) λb c d=>xI b c d
def gK(g:Good L)(h:L.ĳ λm n=>m.1≠n.1):(L.Ö Ek).ĳ λs t=>f2 s.r t.r=Å:=by
 rw[Â.pairwise_map];show h.imp_of_mem λ{m n} a b q=>aao (g m a).1 (g n b).1 q
def uP(h:m.1<=3):GB (KG m) (Ek m):=by
 obtain⟨k,a⟩:=m
 match k,h with
 |0,_=>show .c
 |1,_=>
  change GB (if a=1 then 1 else 3) {Å,mo 1 a,a.õ,a.þ,Cy 1,mo 1 a};by_cases h:a=1
  ·subst h;rw[à Î];show .m (y:=.Ã) _0
  ·rw[ß h,dF h];show .m (y:=.Ã) _0
 |k+2,_=>
  change GB (if a=1 then 2 else 3) {Å,mo (k+2) a,a.õ,a.þ,Cy (k+2),mo (k+2) a};by_cases h:a=1
  ·subst h;rw[à Î,dZ (k+1)];show .m _0
  ·rw[ß h,dF h];show .m (y:=.Ã) _0
def dr:∀{L:Â Mo},Good L->DJ (L.Ö KG) (L.Ö Ek)
 |[],_=>.å
 |m::L,g=>.Æ (uP (g m (.Ď _)).1) (dr λn h=>g n (.ě _ h))
def GD:Â (Â Ï):=[[],[2],[3]]
noncomputable def a1:Â (Â Ï):=[[],[1],[3]]
def Ky:Â (Â Ï×é):=[([],Å),([0],Ä)]
def mz:(GD.ş λx=>GD.ş λy=>a1.ş λz=>Ky.ş λc=>pats.any (λq=>decide (q=(x++y++z++c.1,c.2)))&&pats.any (λq=>decide (q=(c.1++z++y++x,c.2))))=Ä:=_2
def d3(k:Ï)(c:ñ):(BA (k+2) c).Ö KG∈GD:=by
 unfold BA;split
 ·show .Ď _
 ·change [if c=1 then 2 else 3]∈GD;split
  ·show .ě _ (.Ď _)
  ·show .ě _ (.ě _ (.Ď _))
def d1(c:ñ):(BA 1 c).Ö KG∈a1:=by
 unfold BA;split
 ·show .Ď _
 ·change [if c=1 then 1 else 3]∈a1;split
  ·show .ě _ (.Ď _)
  ·show .ě _ (.ě _ (.Ď _))
def d0(c:ñ):((BA 0 c).Ö KG,!decide (c=0))∈Ky:=by
 unfold BA;by_cases h:c=0
 ·rw[à h,Ă h];show .Ď _
 ·rw[ß h,û h];show .ě _ (.Ď _)
def d_{l:Â (Â Ï×é)}(h:l.any (λp=>decide (p=q))=Ä):q∈l:=ag (ms.mp h) λp a e=>Ø e▸a
def pE(a b c d:ñ):((Lm a b c d).Ö KG,!decide (a=0))∈pats:=by
 have:=d_ (af (an.mp (an.mp (an.mp (an.mp mz _ (d3 1 d)) _ (d3 0 c)) _ (d1 b)) _ (d0 a)));unfold Lm;rw[g1,g1,g1];show this
def Lu(a b c d:ñ):Â Mo:=BA 0 a++BA 1 b++BA 2 c++BA 3 d
def pF(a b c d:ñ):((Lu a b c d).Ö KG,!decide (a=0))∈pats:=by
 have:=d_ (ae (an.mp (an.mp (an.mp (an.mp mz _ (d3 1 d)) _ (d3 0 c)) _ (d1 b)) _ (d0 a)));unfold Lu;rw[g1,g1,g1];show this
end
section
def CU(t:PT):D:=match t.c with
 |Ä=>Ag (t.a,t.b)
 |Å=>t.q
def Rb(l:Â D):Out D:=(RN 0 [] 20 10 Av [.ê (.É l),.ê (.Ý BU)]).Ĉ (Ň [] [])
noncomputable def two(l:Â D):Â D:=[Be l.Àc,l.getLastD .Ã]
def Sw(p:(Ï->D)×(Ï->ä)):Prop:=AR (λl=>(Rb ((Ja p.1 p.2 0 l.1).Ö CU),Rb (two ((Ja p.1 p.2 0 l.1).Ö CU)))) (pats.ÀX λl=>s4 1 l.1.Á)=(pats.ÀX λl=>s4 1 l.1.Á).Ö λl=>(.ok (.É ((Ja p.1 p.2 0 l.1).Ö CU)) (Ň [] []),.ok (.É ((Ja p.1 p.2 0 l.1).Ö CU)) (Ň [] []))
def Xn:(Ï->D)×(Ï->ä):=un λp=>¬Sw p
def rP(A:Ï->D)(I:Ï->ä):Sw (A,I):=aI (show Sw Xn by unfold Sw;kernel_rfl) (A,I)
def dD{ts:Â PT}{l:Â Ï}{z:é}(e:(l,z)∈pats)(f:ts≠[])(a:DJ l ts)(g:ts.Á<=4)(q:∀t∈ts,CU t=t.p):Ó 10 Av [.É (ts.Ö PT.p),.Ý BU] (.É (ts.Ö PT.p))/\Ó 10 Av [.É (two (ts.Ö PT.p)),.Ý BU] (.É (ts.Ö PT.p)):=by
 have m:(l,z)∈pats.ÀX λl=>s4 1 l.1.Á:=Yw.ĝ ⟨e,by
  cases a with
  |å=>show absurd rfl f
  |Æ=>show l4 (ol (j0 _))⟩
 have r:=ah (rP (Gs .Ã ts []) (Jb ts)) _ m;rw[gH a 0 Î (by rw[s6];show ac g _0),r0 q] at r;show aj (f0 r) λb c=>?_;unfold Rb at b c;show{λd h=>sr (N:=0) (k:=10) (n:=20) (hk:=0) (S:=[]) (l:=[.É (ts.Ö PT.p),.Ý BU]) .å b d h,λd h=>sr (N:=0) (k:=10) (n:=20) (hk:=0) (S:=[]) (l:=[.É (two (ts.Ö PT.p)),.Ý BU]) .å c d h}
def kx{L:Â Mo}:∀t∈L.Ö Ek,CU t=t.p:=λt h=>by
 obtain⟨⟨k,c⟩,_,Î⟩:=i1.mp h;cases k<;>rfl
def fO(L:Â Mo):(L.Ö Ek).Ö PT.p=L.Ö AY:=by rw[lf];rfl
def Ir(b c d:ñ):Â Mo:=BA 3 d++BA 2 c++BA 1 b
def fl(l m:Â PT):Ej (l++m)=Ej l++Ej m:=by
 induction l with
 |å=>rfl
 |Æ t l i=>
  change(match t.c with|Ä=>Ej (l++m)|Å=>t.q::Ej (l++m))=(match t.c with|Ä=>Ej l|Å=>t.q::Ej l)++Ej m;rw[i];induction t.c using ci<;>rfl
def ky(k:Ï)(c:ñ):Ej ((BA (k+1) c).Ö Ek)=(BA (k+1) c).Ö AY:=by
 unfold BA;split<;>rfl
def kz(c:ñ):Ej ((BA 0 c).Ö Ek)=[]:=by
 unfold BA;split<;>rfl
def pG(a b c d:ñ):Ej ((Lm a b c d).Ö Ek)=(Ir b c d).Ö AY:=by
 unfold Lm Ir;simp only[g1,fl,ky,kz,wf]
def pH(a b c d:ñ):Ej ((Lu a b c d).Ö Ek)=(BA 1 b++BA 2 c++BA 3 d).Ö AY:=by
 unfold Lu;simp only[g1,fl,ky,kz,Â.nil_append]
section
variable(b c d:Rat)
def c32:Ó 20 Ab [mo 3 d,mo 2 c] (.Ê (-1)):=cQ _0
def c31:Ó 20 Ab [mo 3 d,mo 1 b] (.Ê (-1)):=cQ _0
def c21:Ó 20 Ab [mo 2 c,mo 1 b] (.Ê (-1)):=cQ _0
def c23:Ó 20 Ab [mo 2 c,mo 3 d] (.Ê 1):=cQ _0
def c13:Ó 20 Ab [mo 1 b,mo 3 d] (.Ê 1):=cQ _0
def c12:Ó 20 Ab [mo 1 b,mo 2 c] (.Ê 1):=cQ _0
def mA:Ó 30 Ai [.É ((Ir b c d).Ö AY)] (.É ((Ir b c d).Ö AY)):=by
 unfold Ir BA;by_cases e:d=0
 ·rw[à e];by_cases a:c=0
  ·rw[à a];by_cases h:b=0
   ·rw[à h];show zm (N:=20)
   ·rw[ß h];show gj (N:=20)
  ·rw[ß a];by_cases h:b=0
   ·rw[à h];show gj (N:=20)
   ·rw[ß h];show ij (c21 b c)
 ·rw[ß e];by_cases a:c=0
  ·rw[à a];by_cases h:b=0
   ·rw[à h];show gj (N:=20)
   ·rw[ß h];show ij (c31 b d)
  ·rw[ß a];by_cases h:b=0
   ·rw[à h];show ij (c32 c d)
   ·rw[ß h];show zo (c21 b c) (c32 c d)
def uQ:Ó 30 Ai [.É ((BA 1 b++BA 2 c++BA 3 d).Ö AY)] (.É ((Ir b c d).Ö AY)):=by
 unfold Ir BA;by_cases e:d=0
 ·rw[à e];by_cases a:c=0
  ·rw[à a];by_cases h:b=0
   ·rw[à h];show zm (N:=20)
   ·rw[ß h];show gj (N:=20)
  ·rw[ß a];by_cases h:b=0
   ·rw[à h];show gj (N:=20)
   ·rw[ß h];show fN (c12 b c)
 ·rw[ß e];by_cases a:c=0
  ·rw[à a];by_cases h:b=0
   ·rw[à h];show gj (N:=20)
   ·rw[ß h];show fN (c13 b d)
  ·rw[ß a];by_cases h:b=0
   ·rw[à h];show fN (c23 c d)
   ·rw[ß h];show aal (c23 c d) (c13 b d) (c12 b c)
end
def aZ:∀m∈BA k c,m.1=k:=λm h=>by
 unfold BA at h;split at h
 ·cases h
 ·rw[am.mp h]
def ec(k:Ï)(c:ñ):(BA k c).ĳ λm n=>m.1≠n.1:=by
 unfold BA;split
 ·show .å
 ·show R7 _ _
def aq(k:Ï)(c:ñ):(BA k c).Á<=1:=by
 unfold BA;split
 ·show j0 _
 ·show a3 _
def eu{L M:Â Mo}(h:L.ĳ λm n=>m.1≠n.1)(k:M.ĳ λm n=>m.1≠n.1)(c:∀m∈L,∀n∈M,m.1≠n.1):(L++M).ĳ λm n=>m.1≠n.1:=ZD.ĝ {h,k,c}
def jx{L M:Â Mo}{P:Mo->Prop}(h:∀m∈L,P m)(k:∀m∈M,P m):∀m∈L++M,P m:=λm a=>(dL.mp a).ç (h m) (k m)
section
variable{a b c d:Rat}
def kA:(Lm a b c d).ĳ λm n=>m.1≠n.1:=
 eu (eu (eu (ec _ _) (ec _ _) λm h n e=>by rw[aZ m h,aZ n e];decide) (ec _ _) (jx (λm h n e=>by rw[aZ m h,aZ n e];decide) λm h n e=>by rw[aZ m h,aZ n e];decide)) (ec _ _)
  (jx (jx (λm h n e=>by rw[aZ m h,aZ n e];decide) λm h n e=>by rw[aZ m h,aZ n e];decide) λm h n e=>by rw[aZ m h,aZ n e];decide)
def aap:(Lu a b c d).ĳ λm n=>m.1≠n.1:=
 eu (eu (eu (ec _ _) (ec _ _) λm h n e=>by rw[aZ m h,aZ n e];decide) (ec _ _) (jx (λm h n e=>by rw[aZ m h,aZ n e];decide) λm h n e=>by rw[aZ m h,aZ n e];decide)) (ec _ _)
  (jx (jx (λm h n e=>by rw[aZ m h,aZ n e];decide) λm h n e=>by rw[aZ m h,aZ n e];decide) λm h n e=>by rw[aZ m h,aZ n e];decide)
def cZ:(Lm a b c d).Á<=4:=by
 unfold Lm;simp only[f4];have:=aq 3 d;have:=aq 2 c;have:=aq 1 b;have:=aq 0 a;show ii (ii (ii (aq 3 d) (aq 2 c)) (aq 1 b)) (aq 0 a)
def kB:(Lu a b c d).Á<=4:=by
 unfold Lu;simp only[f4];have:=aq 3 d;have:=aq 2 c;have:=aq 1 b;have:=aq 0 a;show ii (ii (ii (aq 0 a) (aq 1 b)) (aq 2 c)) (aq 3 d)
def mB:(Ir b c d).Á<=3:=by
 unfold Ir;simp only[f4];have:=aq 3 d;have:=aq 2 c;have:=aq 1 b;show ii (ii (aq 3 d) (aq 2 c)) (aq 1 b)
def kC(k:Ï)(c:ñ)(l:Â PT):Fp ((BA (k+1) c).Ö Ek++l)=Fp l:=by
 unfold BA;split<;>rfl
def oi(c:ñ)(l:Â PT)(h:Fp l=(0,1)):Fp ((BA 0 c).Ö Ek++l)=(c.õ,(c.þ:ä)):=by
 unfold BA;by_cases q:c=0
 ·rw[à q,q];show h
 ·rw[ß q];rfl
def kD:Fp ((Lm a b c d).Ö Ek)=(a.õ,(a.þ:ä)):=by
 unfold Lm;simp only[g1,tz,kC];have:=oi a [] rfl;rw[wf] at this;show this
def pI:Fp ((Lu a b c d).Ö Ek)=(a.õ,(a.þ:ä)):=by
 unfold Lu;simp only[g1,tz];show oi a _ ?_;simp only[kC];have:=kC 2 d [];rw[wf] at this;show this
def pJ(h:Fp ts=(a.õ,(a.þ:ä))):NY ts ((Ir b c d).Ö AY) (!decide (a=0))=BY ((Lm a b c d).Ö AY):=by
 unfold NY Lm Ir;rw[h,g1 (l₂:=BA 0 a)];by_cases q:a=0
 ·rw[Ă q,q,eC];rfl
 ·rw[û q,show BA 0 a=[(0,a)] from ß q];rfl
def xO(g:Good (Lm a b c d))(h:Lm a b c d≠[]):Ó 40 Ap [.É ((Lm a b c d).Ö AY)] (BY ((Lm a b c d).Ö AY)):=by
 exists a b c d,g h;have i:=dr g;show aj (dD (pE a b c d) (λq=>h (N6.mp q)) i (by rw[a2];show cZ) kx) λf _=>?_;rw[fO] at f;have r:=pD (N:=30) (pE a b c d) i (by rw[a2];show cZ) (by rw[pG]) (by rw[a2];show mB) (λt j=>let e:=gJ g t j;{aa e.nr _0,e.k,aa e.ad _0,e.o,λq=>(e.w q).imp id λl=>aa l _0}) (gK g kA) (by rw[fO];show aa f _0) (by rw[pG];show mA b c d) (by rw[kD,T3];show kj);rw[pJ kD] at r;show r
def xP(g:Good (Lu a b c d))(h:Lu a b c d≠[]):Ó 40 Ap [.É ((Lu a b c d).Ö AY)] (BY ((Lm a b c d).Ö AY)):=by
 exists a b c d,g h;have i:=dr g;show aj (dD (pF a b c d) (λq=>h (N6.mp q)) i (by rw[a2];show kB) kx) λf _=>?_;rw[fO] at f;have l:((Ir b c d).Ö AY).Á=(Ej ((Lu a b c d).Ö Ek)).Á:=by
  rw[pH];unfold Ir;simp only[a2,f4];show(lc _ _).Ð ((â (_+ ·) (lc _ _)).Ð (s7 ..).symm)
 have r:=pD (N:=30) (pF a b c d) i (by rw[a2];show kB) l (by rw[a2];show mB) (λt j=>let e:=gJ g t j;{aa e.nr _0,e.k,aa e.ad _0,e.o,λq=>(e.w q).imp id λm=>aa m _0}) (gK g aap) (by rw[fO];show aa f _0) (by rw[pH];show uQ b c d) (by rw[pI,T3];show kj);rw[pJ pI] at r;show r
end
end
section
def OP(k:Ï):D:=.Ç [.Ý Ay,Es,Ag (k,1)]
def Sx(k:Ï)(d:Kd)(c:ä×ä):D:=match k with
 |0=>Ag c
 |k=>match d with
  | .o=>Cy k
  |_=>Aj [Ag c,Cy k]
def NZ:Â (Ï×Kd×Ï×Ï):=[(0,.o,0x87,0x2202142109209215087),(0,.g,0x87,0x2202142109209215087),(1,.o,0x0,0x2342202202202109249255087),(1,.g,0x8c088088088084087,0x2302202202202109249255087),(2,.o,0x451449289295,0x2342202211451088084451449289295087),(2,.g,0x2302202211451088084451449289295087,0x2302202211451088084451449289295087),(3,.o,0x4514492c92d5,0x23422022114510880844514492c92d5087),(3,.g,0x23022022114510880844514492c92d5087,0x23022022114510880844514492c92d5087)]
def Sy(k:Kd)(c:Ï):Tr:={[k],c}
def Pq(r:Fr):ä×ä:=(Dl r (FT 2),Cv r (FT 2))
def Sz(r:Fr):Prop:=AR (λq=>((Sy q.2.1 q.2.2.1).Ĉ VJ Ae [Sx q.1 q.2.1 (Pq r)] r,(Sy q.2.1 q.2.2.2).Ĉ VJ Ae [Aj [Ag (Pq r),OP q.1]] r)) NZ=
 NZ.Ö λq=>((Sy q.2.1 q.2.2.1).to (Sx q.1 q.2.1 (Pq r)) r,(Sy q.2.1 q.2.2.2).to (Sx q.1 q.2.1 (Pq r)) r)
def Xo:Fr:=Kj Sz
def xQ(r:Fr):Sz r:=aI (show Sz Xo by unfold Sz;kernel_rfl) r
def sm_get:([0,1,2,3].ş λk=>([.o,.g]).ş λd=>NZ.any λq=>pp q.1 k&&q.2.1.eq d)=Ä:=_2
def mC{k:Ï}{c:ñ}(hk:k<=3)(b:c≠0)(f:bd 100 c):Ó 65 Ae [mo k c] (mo k c)/\Ó 65 Ae [Aj [Ag (c.õ,c.þ),OP k]] (mo k c):=by
 exists k c,hk b f;have e:Sx k (EO c) (c.õ,c.þ)=mo k c:=by
  match k with
  |0=>rfl
  |k+1=>
   exists k,hk;by_cases h:c=1
   ·subst h;rw[dZ];change(match EO 1 with| .o=>Cy (k+1)|_=>Aj [Ag ((1:ñ).õ,((1:ñ).þ)),Cy (k+1)]:D)=_;unfold EO;rw[ß _0,à Î]
   ·rw[dF h];change(match EO c with| .o=>Cy (k+1)|_=>Aj [Ag (c.õ,c.þ),Cy (k+1)]:D)=_;unfold EO;rw[ß b,ß h]
 show ag (ms.mp (an.mp (an.mp sm_get k (m4 hk)) (EO c) (uy b))) λq m h=>?_;obtain⟨p,t,u,w⟩:=q;have i:=l0 (af h);have j:=Kd.eq_eq (ae h);dsimp only at i j;subst i j;show ao (es (by decide:1<=100) λx n=>by rw[am.mp n];show f) λx a=>aj (f0 (ah (xQ (Ds x)) _ m)) λr d=>?_;dsimp only at r d;have v:Bz x (FT 2)=c:=(hT 0).Ð (a.g 0 (pu _));have s:Pq (Ds x)=(c.õ,(c.þ:ä)):=by unfold Pq;rw[bu,bM,v]
 rw[s,e] at r d;have l:KL [EO c] [c]:=.Æ (pj c) .å;show{Tr.fact r l a.bd a.g,Tr.fact d l a.bd a.g}
def ss2{Bp p2 q1 q v:D}{N:Ï}(h:Ó N Ae [Bp] q1)(a:Ó N Ae [p2] q)(g:Ó N Ap [.É [q1,q]] v):Ó (10+N+1) Ae [Be [Bp,p2]] v:=
 sb (n:=10) (S:=[Ae,Ap,As]) (t:=Eg) rfl _ (os:=[q1,q,v]) rfl (.Æ (c:=.É [.Ý Ap,.É [.É [q1,q]],v]) g (.Æ (c:=.É [.Ý Ae,.É [p2],q]) a (.Æ (c:=.É [.Ý Ae,.É [Bp],q1]) h .å))) _2
def ss3{Bp p2 p q1 q a v:D}{N:Ï}(h:Ó N Ae [Bp] q1)(b:Ó N Ae [p2] q)(d:Ó N Ae [p] a)(g:Ó N Ap [.É [q1,q,a]] v):Ó (10+N+1) Ae [Be [Bp,p2,p]] v:=
 sb (n:=10) (S:=[Ae,Ap,As]) (t:=Eg) rfl _ (os:=[q1,q,a,v]) rfl (.Æ (c:=.É [.Ý Ap,.É [.É [q1,q,a]],v]) g (.Æ (c:=.É [.Ý Ae,.É [p],a]) d (.Æ (c:=.É [.Ý Ae,.É [p2],q]) b (.Æ (c:=.É [.Ý Ae,.É [Bp],q1]) h .å)))) _2
def ss4{Bp p2 p d q1 q a b v:D}{N:Ï}(h:Ó N Ae [Bp] q1)(e:Ó N Ae [p2] q)(f:Ó N Ae [p] a)(i:Ó N Ae [d] b)(g:Ó N Ap [.É [q1,q,a,b]] v):Ó (10+N+1) Ae [Be [Bp,p2,p,d]] v:=
 sb (n:=10) (S:=[Ae,Ap,As]) (t:=Eg) rfl _ (os:=[q1,q,a,b,v]) rfl (.Æ (c:=.É [.Ý Ap,.É [.É [q1,q,a,b]],v]) g (.Æ (c:=.É [.Ý Ae,.É [d],b]) i (.Æ (c:=.É [.Ý Ae,.É [p],a]) f (.Æ (c:=.É [.Ý Ae,.É [p2],q]) e (.Æ (c:=.É [.Ý Ae,.É [Bp],q1]) h .å))))) _2
def sp2{Bp p2 q1 q v:D}{N:Ï}(h:Ó N Ae [Bp] q1)(a:Ó N Ae [p2] q)(g:Ó N As [.É [q1,q]] v):Ó (10+N+1) Ae [Aj [Bp,p2]] v:=
 sb (n:=10) (S:=[Ae,Ap,As]) (t:=Eg) rfl _ (os:=[q1,q,v]) rfl (.Æ (c:=.É [.Ý As,.É [.É [q1,q]],v]) g (.Æ (c:=.É [.Ý Ae,.É [p2],q]) a (.Æ (c:=.É [.Ý Ae,.É [Bp],q1]) h .å))) _2
def Fc(L:Â Mo):Prop:=∀m∈L,m.1<=3/\m.2≠0/\bd 100 m.2
def Fc.good(h:Fc L):Good L:=λm d=>let⟨a,b,c⟩:=h m d;{a,b,c.le _0}
def zp:Ó 65 Ae [Ag (0,1)] (Ag (0,1)):=λd h=>sr (N:=0) (k:=20) (n:=10) (hk:=0) (S:=[]) (os:=[]) (ŋ:=[]) .å _2 d (aQ h)
def mD{L:Â Mo}(g:Fc L)(b:L.Á<=4)(h:∀m∈L,Ó 65 Ae [f m] (AY m)){v:D}(a:2<=L.Á->Ó 65 Ap [.É (L.Ö AY)] v)(c:∀m,L=[m]->v=AY m)(d:L=[]->v=Ag (0,1)):Ó 76 Ae [BY (L.Ö f)] v:=by
 rcases L with _|⟨m,_|⟨n,_|⟨o,_|⟨p,_|⟨q,L⟩⟩⟩⟩⟩
 ·rw[d Î];show aa zp _0
 ·rw[c m Î];show aa (h m (.Ď _)) _0
 ·show ss2 (h m (by simp)) (h n (by simp)) (a (a3 2))
 ·show ss3 (h m (by simp)) (h n (by simp)) (h o (by simp)) (a (by simp))
 ·show ss4 (h m (by simp)) (h n (by simp)) (h o (by simp)) (h p (by simp)) (a (by simp))
 ·show absurd b (by simp)
def aV(h:∀c∈p,bd 100 c):Fc (Cg p)/\Fc (Lu (p.ø 0 0) (p.ø 1 0) (p.ø 2 0) (p.ø 3 0)):=by
 have d:∀i,bd 100 (p.ø i 0):=λi=>by
  by_cases q:i<p.Á
  ·have:p.ø i 0=p[i]:=by simp[q]
   rw[this];show h _ (Go q)
  ·have:p.ø i 0=0:=by simp[Ï.le_of_not_lt q]
   rw[this];show dV 99
 have o:∀k,k<=3->Fc (BA k (p.ø k 0)):=λk e m a=>by
  unfold BA at a;split at a
  ·cases a
  ·rename_i q;rw[am.mp a];show{e,q,d k}
 have b:∀{L M:Â Mo},Fc L->Fc M->Fc (L++M):=λf g m a=>(dL.mp a).ç (f m) (g m);show{b (b (b (o 3 _0) (o 2 _0)) (o 1 _0)) (o 0 _0),b (b (b (o 0 _0) (o 1 _0)) (o 2 _0)) (o 3 _0)}
def fo(h:Ax 4 100 p):Ó 76 Ae [nf p] (nf p):=by
 rw[aY h.ŏ];have g:=(aV h.bd).1;show mD g cZ (λm a=>(mC (g m a).1 (g m a).2.1 (g m a).2.2).1) (λb=>aa (xO g.good λq=>by rw[show Cg p=Lm _ _ _ _ from rfl,q] at b;show absurd b _0) _0) (λm q=>by rw[q];rfl) (λq=>by rw[q];rfl)
end
section
def Xp(I:Ï->ä)(i:Ï):D:=Aj [Ag (I (2*i),I (2*i+1)),OP i]
def SA(I:Ï->ä):Ï->Â é->Â D
 |_,[]=>[]
 |i,Ä::l=>Xp I i::SA I (i+1) l
 |i,Å::l=>SA I (i+1) l
def VS(I:Ï->ä):Ï->Â é->Â D
 |_,[]=>[]
 |i,_::l=>.Ç [.Ê (I (2*i)),.Ê (I (2*i+1))]::VS I (i+1) l
def Rc(I:Ï->ä):Ï->Â é->Â D
 |_,[]=>[]
 |i,f::l=>cB (!(decide (I (2*i)=0)&&(decide (I (2*i+1)=1)&&Ä))) f::(match f with
  |Ä=>[cF By [.Ê (I (2*i)),.Ê (I (2*i+1))] (.Ç [.Ê (I (2*i)),.Ê (I (2*i+1))]),cF By [.Ê i,.Ê 1] (.Ç [.Ê i,.Ê 1])]
  |Å=>[])++Rc I (i+1) l
def UK(p:(Ï->D)×(Ï->ä))(l:Â é):Â D:=Rc p.2 0 l++[cF Ae [BY (SA p.2 0 l)] (p.1 0)]
def Mf:Â (Â é):=[Ä,Å].ĥ λa=>[Ä,Å].ĥ λb=>[Ä,Å].ĥ λc=>[Ä,Å].Ö λd=>[a,b,c,d]
def SD(p:(Ï->D)×(Ï->ä)):Prop:=AR (λl=>(RN 1 [By,Ae] 10 10 AN [.ê (.É (VS p.2 0 l)),.ê Es]).Ĉ (Ň ((UK p l).ĥ NQ) [])) Mf=Mf.Ö λl=>.ok (p.1 0) (Ň [] (UK p l).Ė)
def Xq:(Ï->D)×(Ï->ä):=un λp=>¬SD p
def uR(A:Ï->D)(I:Ï->ä):SD (A,I):=aI (show SD Xq by unfold SD;kernel_rfl) (A,I)
def mE(a b c d:é):[a,b,c,d]∈Mf:=by induction a using ci<;>induction b using ci<;>induction c using ci<;>induction d using ci<;>decide
def MW(p:Â ñ)(i:Ï):ä:=match i %2 with
 |0=>(p.ø (i/2) 0).õ
 |_=>(p.ø (i/2) 0).þ
def aaq(i:Ï)(h:i<=3):Ó 5 By [.Ê i,.Ê 1] (.Ç [.Ê i,.Ê 1]):=(eo (a:=(i:ñ)) (j:=2) {by change(i:ä).ï<4;show i4 h,by change(1:Ï)<4;decide} _0)
def xR(n:∀c∈p,bd 100 c):∀(i:Ï) (q:Â ñ),(∀j,j<q.Á->p.ø (i+j) 0=q.ø j 0)->(∀c∈q,bd 100 c)->i+q.Á<=4->Hs (Hc 76) (Rc (MW p) i (q.Ö λc=> !decide (c=0))):=λi q=>by
 induction q generalizing i with
 |å=>show λ_ _ _=>.å
 |Æ c q a=>
  intro d e b;have b:i+(q.Á+1)<=4:=b;have f:p.ø i 0=c:=d 0 (by simp);have en:MW p (2*i)=c.õ:=by
   unfold MW;rw[Ï.mul_mod_right,V8 _ _0,f];rfl
  have g:MW p (2*i+1)=c.þ:=by
   unfold MW;rw[Zq,Zr _0,show i+1/2=i from rfl,f];rfl
  have a:=a (i+1) (λj l=>by have:=d (j+1) (by simpa using l);rw[s7,lc 1];show this) (λx m=>e x (.ě _ m)) (by rw[s7,lc 1];show b);change Hs (Hc 76) (cB (!(decide (MW p (2*i)=0)&&(decide (MW p (2*i+1)=1)&&Ä))) (!decide (c=0))::(match !decide (c=0) with
   |Ä=>[cF By [.Ê (MW p (2*i)),.Ê (MW p (2*i+1))] (.Ç [.Ê (MW p (2*i)),.Ê (MW p (2*i+1))]),cF By [.Ê i,.Ê 1] (.Ç [.Ê i,.Ê 1])]
   |Å=>[])++Rc (MW p) (i+1) (q.Ö λc=> !decide (c=0)))
  rw[en,g];have k:Hc 76 (cB (!(decide (c.õ=0)&&(decide ((c.þ:ä)=1)&&Ä))) (!decide (c=0))):=â (! ·) ux;by_cases h:c=0
  ·rw[Ă h] at k⊢;show .Æ k a
  ·rw[û h] at k⊢;show .Æ k (.Æ (aa (eo (e c (.Ď _)) _0) _0) (.Æ (aa (aaq i (ww (ce (Y4 (pu _)) b))) _0) a))
def xS(k:Ï)(c:ñ):(BA k c).Ė=BA k c:=by unfold BA;split<;>rfl
def pK(a b c d:ñ):Lu a b c d=(Lm a b c d).Ė:=by
 unfold Lu Lm;simp only[Â.reverse_append,xS,tz]
def TL(m:Mo):D:=Aj [Ag (m.2.õ,m.2.þ),OP m.1]
def xT(a b c d:ñ):SA (MW [a,b,c,d]) 0 [!decide (a=0),!decide (b=0),!decide (c=0),!decide (d=0)]=(Lu a b c d).Ö TL:=by
 exists a b c d,no;unfold Lu;by_cases h:a=0<;>by_cases e:b=0<;>by_cases f:c=0<;>by_cases g:d=0<;>simp only[h,e,f,g,decide_true,decide_false,é.not_true,é.not_false,BA,à,ÁR]<;>rfl
def abx{l:Â ñ}(h:l.Á=4):∃a b c d,l=[a,b,c,d]:=⟨l.ø 0 0,l.ø 1 0,l.ø 2 0,l.ø 3 0,by
 rcases l with _|⟨a,_|⟨b,_|⟨c,_|⟨d,_|⟨e,l⟩⟩⟩⟩⟩<;>first|rfl|show absurd h (by simp)⟩
def rQ{p:Â ñ}(h:Ax 4 100 p)(f:p.Á=4):Ó 86 AN [AE p,Es] (nf p):=by
 exists p,h f;have g:=aV h.bd;obtain⟨a,b,c,d,Î⟩:=abx f;exists a b c d,h f g;have C:=xR h.bd 0 [a,b,c,d] (λj _=>by rw[s6]) h.bd (a3 4);have e:=aY (p:=[a,b,c,d]) (a3 4);have s:Ó 76 Ae [BY ((Lu a b c d).Ö TL)] (nf [a,b,c,d]):=by
  rw[e];show mD (L:=Lu a b c d) g.2 kB (λm i=>(mC (g.2 m i).1 (g.2 m i).2.1 (g.2 m i).2.2).2) (λk=>aa (xP g.2.good λq=>by rw[q] at k;show absurd k _0) _0) (λm q=>?_) (λq=>?_)
  ·rw[pK] at q;have:Lm a b c d=[m]:=by rw[<-Â.reverse_reverse (Lm a b c d),q];rfl
   change BY ((Lm a b c d).Ö AY)=_;rw[this];rfl
  ·rw[pK] at q;have:Lm a b c d=[]:=Â.reverse_eq_nil_iff.mp q;change BY ((Lm a b c d).Ö AY)=_;rw[this];rfl
 have r:=ah (uR (λ_=>nf [a,b,c,d]) (MW [a,b,c,d])) _ (mE (!decide (a=0)) (!decide (b=0)) (!decide (c=0)) (!decide (d=0)));unfold UK at r;dsimp only at r;rw[xT] at r;show sr (hk:=1) (S:=[By,Ae]) (l:=[AE [a,b,c,d],Es]) (Hs.rev ((show Hs (Hc 76) (Rc (MW [a,b,c,d]) 0 [!decide (a=0),!decide (b=0),!decide (c=0),!decide (d=0)]) from C).app (.Æ (c:=cF _ _ _) s .å))) r
end
section
def LA(n:ä):D:=Be [Es,Ag (n,1)]
def BX(n:ä):D:=.Ç [.Ý Ay,LA n,Ag (-1,1)]
def aR(Ĉ:(RN 0 [] 20 20 f (l.Ö .ê)).Ĉ (Ň [] [])= .ok v (Ň [] [])):Ó 20 f l v:=sr (N:=0) .å Ĉ
section
variable(n:Int)(L:D)
def pL:Ó 20 AP [BX n] (.Ç [LA n,Ag (-1,1)]):=aR _2
def pM:Ó 20 A_ [LA n,Ag (-1,1)] (BX n):=aR _2
def aby:Ó 20 Ai [.É [BX n]] (.É [BX n]):=aR _2
def aar:Ó 20 As [.É [Ag (0,1),BX n]] (Ag (0,1)):=aR _2
def abz:Ó 20 AP [Bn 3 L .Ã] (.Ç [Bn 3 L .Ã,Ag (1,1)]):=aR _2
def abA:Ó 20 A_ [Bn 3 L .Ã,Ag (1,1)] (Bn 3 L .Ã):=aR _2
def abB:Ó 20 Av [.É [Bn 3 L .Ã,BX n],.Ý BH] (.É [Bn 3 L .Ã,BX n]):=aR _2
def abC(c:ä×ä):Ó 20 Av [.É [Ag c,BX n],.Ý BH] (.É [Ag c,BX n]):=aR _2
def kE:AU (LA n)=Ä:=_2
def pN:B_ .eq (LA n) (LA n)=Ñ (.Ù Ä):=ÂT _2
def WB:Ï->Ï
 |1=>0
 |_=>1
def WC:Ï->D
 |1=>.Ý AD
 |_=>Es
def KO:Ï->D
 |1=>.Ã
 |k=>Ag (k,1)
def WD:Ï->D
 |1=>Ag (1,1)
 |k=>Ag (k,1)
def aas(h:k<3):Cy (k+1)=Bn (WB (k+1)) (WC (k+1)) (KO (k+1)):=by
 match k,h with
 |0,_=>rfl
 |1,_=>rfl
 |2,_=>rfl
def It(f:Þ)(l:Â D):Out D:=(RN 0 [] 20 20 f (l.Ö .ê)).Ĉ (Ň [] [])
def aat(c:ä×ä):AR (λk=>(It AP [Cy k],It A_ [Es,WD k],It Av [.É [Cy k,BX n],.Ý BH],It Av [.É [Aj [Ag c,Cy k],BX n],.Ý BH],It Ab [Cy k,BX n])) [1,2,3]=
  [1,2,3].Ö λk=>(.ok (.Ç [Es,WD k]) (Ň [] []),.ok (Cy k) (Ň [] []),.ok (.É [Cy k,BX n]) (Ň [] []),.ok (.É [Ag c,Cy k,BX n]) (Ň [] []),.ok (.Ê (-1)) (Ň [] [])):=_2
def uS:AU Es=Ä:=_2
def zq:B_ .eq Es Es=Ñ (.Ù Ä):=ÂT _2
def x_s:f2 Es (LA n)=Å:=_2
end
def XN(c:ñ):Â D:=if c=1 then [] else [Ag (c.õ,c.þ)]
def oj(h:AV v=Ä)(k:AV u=Ä)(e:f2 v u=b):B_ .eq v u=Ñ (.Ù b):=by
 change(if(AV v&&AV u)=Ä then Ñ (f2 v u) else M.Û)>>=_=_;rw[h,k,e];rfl
section
variable{c:Rat}(hc:c≠0)(h1:c≠1)(q q':D)
include hc h1 in
def uT{r:D}(h:AV r=Ä)(e:f2 r BW=Å):Hs (Hc 0) [cB (decide (c.õ=1)&&(decide ((c.þ:ä)=1)&&Ä)) Å,.Ç [.Ù Ä,r,BW,.Ù Å],cB (decide (c.õ=0)) Å]:=.Æ (c:=cB _ _) (uw.Ð (û h1)) (.Æ (c:=.Ç _) (oj h _2 e) (.Æ (c:=cB _ _) (û (fg.ĝ hc)) .å))
def uU(h:AV r=Ä)(e:f2 r BW=Å):Hs (Hc 0) [cB Ä Ä,.Ç [.Ù Ä,r,BW,.Ù Å],cB Å Å]:=.Æ Î (.Æ (oj h _2 e) (.Æ Î .å))
include hc h1 in
def abE(h:AV (Aj [q,q'])=Ä):Ó 20 Ar [AB c,Aj [q,q']] (Aj [Ag (c.õ,c.þ),q,q']):=sr (N:=0) (k:=20) (n:=10) (hk:=2) (S:=[]) (os:=[.Ù Å,.Ù Å,.Ù Å]) (ŋ:=[]) (uT hc h1 h _2) _2
include hc h1 in
def abF(h:AV (.Ç [.Ý Ay,q,q'])=Ä):Ó 20 Ar [AB c,.Ç [.Ý Ay,q,q']] (Aj [Ag (c.õ,c.þ),.Ç [.Ý Ay,q,q']]):=sr (N:=0) (k:=20) (n:=10) (hk:=2) (S:=[]) (os:=[.Ù Å,.Ù Å,.Ù Å]) (ŋ:=[]) (uT hc h1 h _2) _2
def om(h:AV (Aj [q,q'])=Ä):Ó 20 Ar [.Ç [.Ê 1,.Ê 1],Aj [q,q']] (Aj [q,q']):=sr (n:=10) (hk:=2) (S:=[]) (os:=[.Ù Å,.Ù Å,.Ù Ä]) (ŋ:=[]) (uU h _2) _2
def aau(h:AV (.Ç [.Ý Ay,q,q'])=Ä):Ó 20 Ar [.Ç [.Ê 1,.Ê 1],.Ç [.Ý Ay,q,q']] (.Ç [.Ý Ay,q,q']):=sr (n:=10) (hk:=2) (S:=[]) (os:=[.Ù Å,.Ù Å,.Ù Ä]) (ŋ:=[]) (uU h _2) _2
end
end
section
inductive Dz:Â D->Â D->Prop
 |å:Dz [] []
 |Æ {t ts L u M}:Ó 20 AH [t] (.É ts)->Dz ts L->Dz u M->Dz (t::u) (t::(L++M))
def Dz.ŏ{u M:Â D}(h:Dz u M):u.Á<=M.Á:=by
 induction h with
 |å=>show a3 0
 |Æ _ _ _ a i=>simp;show ac i (f3 ..)
noncomputable def atC:XE:=.cmp .gt (.IP .ŏ (.Đ 1)) (.Ê 0)
def Pr:Bc:=.Æ (.IA 3 1) (.Æ (.ÁE 2 (.Đ 3)) (.Æ (.extend 1 (.rev (.ex (.ň AH (.Æ (.Đ 3) .å))))) .å))
section
variable{d:Nat}{x:Option Slot}
def uV{h:Ë Ą}(c:20<=d)(f:Ó 20 AH [t] (.É ts))(a:W.Á+1<=100000)(e:F.Á<=100000)(b:ts.Á<=100000):
  Pr.ex (iF d) [x,À (.ĉ (W++[t])),À (.ĉ F),h]=Ñ ([x,À (.ĉ (W++ts.Ė)),À (.ĉ (F++[t])),À (.ê t)],Ã):=by
 exists d x t ts W F h,c f a e b;have g:XS.ex (iF d) (.IA 3 1) [x,À (.ĉ (W++[t])),À (.ĉ F),h]=Ñ ([x,À (.ĉ W),À (.ĉ F),À (.ê t)],Ã):=by
  change(Df (W++[t]).ÀR>>= λd=>if(W++[t]).Á<=100000 then Ñ (([x,À (.ĉ (W++[t])),À (.ĉ F),h].set 1 (À (.ĉ (W++[t]).Àc))).set 3 (À (.ê d)),Ã) else M.Û)=_;rw[Yf,ZG];show à (by simpa using a)
 have i:XS.ex (iF d) (.ÁE 2 (.Đ 3)) [x,À (.ĉ W),À (.ĉ F),À (.ê t)]=Ñ ([x,À (.ĉ W),À (.ĉ (F++[t])),À (.ê t)],Ã):=à e;have j:XS.ex (iF d) (.extend 1 (.rev (.ex (.ň AH (.Æ (.Đ 3) .å))))) [x,À (.ĉ W),À (.ĉ (F++[t])),À (.ê t)]=Ñ ([x,À (.ĉ (W++ts.Ė)),À (.ĉ (F++[t])),À (.ê t)],Ã):=by
  change(((R d AH [.ê t]>>= λx=>Mm x)>>= λv=>match v with
   | .É l=>if W.Á<=100000/\l.Á<=100000 then Ñ ([x,À (.ĉ W),À (.ĉ (F++[t])),À (.ê t)].set 1 (À (.ĉ (W++l))),Ã) else M.Û
   |_=>M.Û:M (Aa×Ë D)))=_
  rw[show R d AH [.ê t]=Ñ (.É ts) from f d c];change((if ts.Á<=100000 then Ñ (.É ts.Ė) else M.Û:M D)>>= λv=>match v with
   | .É l=>if W.Á<=100000/\l.Á<=100000 then Ñ ([x,À (.ĉ W),À (.ĉ (F++[t])),À (.ê t)].set 1 (À (.ĉ (W++l))),Ã) else M.Û
   |_=>M.Û:M (Aa×Ë D))=_
  rw[à b];show à {by show i5 a,by simpa using b}
 unfold Pr;rw[bN g,bN i,bN j];rfl
def zr(l:W.Á<=100000):atC.ev (iF d) [x,À (.ĉ W),F,h]>>=Aw=Ñ (decide (W.Á>0)):=by
 change(((if W.Á<=100000 then Ñ (.Ê W.Á) else M.Û)>>= λv=>Ñ (.Ê 0)>>= λu=>B_ .gt v u)>>=Aw)=_;rw[à l];show â Ñ (Ł.ĝ Yz)
def rR(c:20<=d){u M:Â D}(h:Dz u M):∀(W F Z:Â D),W.Á+M.Á<=1000->F.Á+M.Á<=1000->
  (∀s,∃n a,Dy (λρ=>atC.ev (iF d) ρ>>=Aw) (Pr.ex (iF d)) n [x,À (.ĉ W),À (.ĉ (F++M)),s]=Ñ ([x,À (.ĉ []),À (.ĉ Z),a],Ã))->
  ∀s,∃n a,Dy (λρ=>atC.ev (iF d) ρ>>=Aw) (Pr.ex (iF d)) n [x,À (.ĉ (W++u.Ė)),À (.ĉ F),s]=Ñ ([x,À (.ĉ []),À (.ĉ Z),a],Ã):=by
 exists d x u M,c h;induction h with
 |å=>
  intro W F Z _ _ k s;have:=k s;rw[wf] at this;rw[Â.reverse_nil,wf];show this
 | @Æ t m L u M f g i j l=>
  intro W F Z b b2 k s;have n1:=g.ŏ;have n2:=i.ŏ;simp only[i3,f4] at b b2;show bB ((j (W++u.Ė) (F++[t]) Z (by simp;show ac (lm (s7 ..)) (ac (g5 (ac (lm (lc ..)) (ac (g5 n2 _) (v3 _))) _) b)) (by simp;show ac (lm (s7 ..)) (ac (g5 (ac (lm (lc 1 _)) (ol (bv ..))) _) b2)) (λs=>by have:=(l W (F++t::L) Z (ac (g5 (ac (f3 ..) (v3 _)) _) b) (by simp;show ac (lm (by rw[s7,E2])) b2) (λs=>by have:=k s;rw[tz];show this)) s;rw[tz];show this)) (À (.ê t))) λn a e=>{n+1,a,?_};rw[show W++(t::u).Ė=(W++u.Ė)++[t] by rw[YU,tz]];show nZ ((zr (by simp;show ac (g5 (ol (ac n2 (f3 ..))) _) (ac b _0))).Ð (â Ñ (Ă (by rw[f4];show pu _)))) (uV c f (by simp;show ac (g5 (ac n2 (ac (f3 ..) (v3 _))) _) (ac b _0)) (ac (bv ..) (ac b2 _0)) (ac (ac n1 (ac (bv ..) (v3 _))) (ac (f3 ..) (ac b _0)))) e
def rS{M:Â D}(h:Dz [t] M)(a:M.Á<=1000):Ó 21 Cs [t] (.É M):=λd b=>by
 obtain⟨d,Î⟩:=eD b;show bB (rR (d:=d) (x:=À (.ê t)) (kW b) h [] [] M (by simpa using a) (by simpa using a) (λs=>{1,s,kb (zr (by simp))}) Ã) λn c e=>?_;rw[show R (d+1) Cs ([t].Ö .ê)=_ from bS (t:=HD) rfl Î];change Bc.ex (iF d) (.Æ (.par Ä [(.É (.Æ (.Đ 0) .å)),(.É .å)] [1,2]) (.Æ (.while atC Pr) (.freeze 2 (.Æ (.Ũ (.Đ 2)) .å)))) [À (.ê t),Ã,Ã,Ã]>>=Cf=_;have f:XS.ex (iF d) (.while atC Pr) [À (.ê t),À (.ĉ [t]),À (.ĉ []),Ã]=Ñ ([À (.ê t),À (.ĉ []),À (.ĉ M),c],Ã):=hQ Î e;rw[bN (ρ':=[À (.ê t),À (.ĉ [t]),À (.ĉ []),Ã]) rfl,bN f];rfl
end
end
section
inductive Hi:D->Prop
 |n {a b}:Hi (.Ç [.Ý Cq,a,b])
 |w {a b}:Hi (.Ç [.Ý Ay,a,b])
 |p {a}:Hi (.Ç [.Ý BH,a])
 |s {a}:Hi (.Ç [.Ý BU,a])
inductive Ea:Â D->é->Prop
 |å:Ea [] Å
 |x {L b}:Ea L b->Ea (Es::L) Ä
 |o {t L b}:Hi t->Ea L b->Ea (t::L) b
def Ea.app{L M:Â D}(h:Ea L b)(k:Ea M c):Ea (L++M) (b||c):=by
 induction h with
 |å=>show k
 |x _ i=>show .x i
 |o n _ i=>show .o n i
def Rd:XE:=.idx (.Đ 0) (.Ê 1)
def LB:XE:=.cmp .eq (.idx (.Đ 0) (.Ê 0)) (.Ý FA)
def xU(h:Hi t):LB.ev w [À (.ê t)]=Ñ (.Ù Å):=by
 cases h<;>kernel_rfl
def uW{k f:Aa->M D}(h:f (ρ.set i (À (.ê d)))=Ñ (.Ù Å)):Fi k f i (d::ds) s ρ=Fi k f i ds s (ρ.set i (À (.ê d))):=by
 change((f (ρ.set i (À (.ê d)))>>=Aw)>>=_)=_;rw[h];rfl
def rT{f c:Aa->M D}(h:c (ρ.set i (À (.ê d)))=Ñ (.Ù Ä))(k:f (ρ.set i (À (.ê d)))=Ñ (.Ý x)):Fi f c i (d::ds) s ρ=Fi f c i ds (Gy s x) (ρ.set i (À (.ê d))):=by
 change((c (ρ.set i (À (.ê d)))>>=Aw)>>=_)=_;rw[h];change(f (ρ.set i (À (.ê d)))>>=_)=_;rw[k];rfl
def uX{w:Cz}(h:Ea L b):∀(a:é) (s:Ë Ą),Fi (Rd.ev w) (LB.ev w) 0 L (if a then [AD] else []) [s]=Ñ (if a||b then [AD] else []):=by
 induction h with
 |å=>intro a s;induction a using ci<;>rfl
 | @x L b _ i=>
  intro a s;show(rT (x:=AD) _2 _2).Ð (.Ð ?_ ((i Ä (À (.ê Es))).Ð ?_))<;>induction a using ci<;>rfl
 | @o t L b n _ i=>
  intro a s;show(uW (xU n)).Ð (i a (À (.ê t)))
def xV{t:D}{Q:Â D}{b:é}(h:Dz [t] Q)(n:Ea Q b)(e:Q.Á<=1000):Ó 22 Ao [t] (.É (if b then [.Ý AD] else [])):=λd a=>by
 obtain⟨d,Î⟩:=eD a;rw[show R (d+1) Ao ([t].Ö .ê)=_ from bS (t:=FO) rfl Î];have f:(XE.ED Rd ["here"] [] 0 (.Ĕ (.ň Cs (.Æ (.Đ 0) .å))) LB).ev (iF d) [À (.ê t)]=Ñ (.É (if b then [.Ý AD] else [])):=by
  change(((R d Cs [.ê t]>>=Jd)>>= λc=>if c.Á<=100000 then Bh (Fi (Rd.ev (iF d)) (LB.ev (iF d)) 0 c [] [Ã]>>= λs=>Ñ (s.Ö λk=>.Ý k))>>= λx=>Ñ (.É x) else M.Û)>>=GX)=_;rw[show R d Cs [.ê t]=Ñ (.É Q) from rS h e d (kW a)];change((if Q.Á<=100000 then Bh (Fi (Rd.ev (iF d)) (LB.ev (iF d)) 0 Q [] [Ã]>>= λs=>Ñ (s.Ö λk=>.Ý k))>>= λx=>Ñ (.É x) else M.Û)>>=GX)=_;rw[à (ac (by assumption) _0)];have:=uX (w:=(iF d)) n Å Ã;rw[show(if Å=Ä then [AD] else([]))=[] from rfl] at this;rw[this];induction b using ci
  ·rfl
  ·kernel_rfl
 change(((XE.ED Rd ["here"] [] 0 (.Ĕ (.ň Cs (.Æ (.Đ 0) .å))) LB).ev (iF d) [À (.ê t)]>>= λv=>Ñ ([À (.ê t)],À v))>>= λr=>match r.2 with
  |Ã=>Ñ (r.1,Ã)
  |À d=>Ñ (r.1,À d))>>=Cf=_
 rw[f];rfl
def xW(A:Ï->D):(AR (λn=>((RN 0 [] 20 10 AH [.ê (Be ((ty n).Ö A))]).Ĉ (Ň [] []),(RN 0 [] 20 10 AH [.ê (Aj ((ty n).Ö A))]).Ĉ (Ň [] []))) [0,1,2,3,4],(RN 0 [] 20 10 AH [.ê (.Ç [.Ý Cq,A 0,A 1])]).Ĉ (Ň [] []),(RN 0 [] 20 10 AH [.ê (.Ç [.Ý Ay,A 0,A 1])]).Ĉ (Ň [] []),(RN 0 [] 20 10 AH [.ê Es]).Ĉ (Ň [] []))=
  (([0,1,2,3,4].Ö λn=>(.ok (.É ((ty n).Ö A)) (Ň [] []),.ok (.É ((ty n).Ö A)) (Ň [] []))),.ok (.É []) (Ň [] []),.ok (.É [A 0,A 1]) (Ň [] []),.ok (.É []) (Ň [] [])):=_2
def uY{l:Â D}:(ty l.Á).Ö (λi=>l.ø i .Ã)=l:=by
 apply B0 (by simp);intro i a h;simp[h]
def in_list{l:Â D}(h:l.Á<=4):Ó 20 AH [Be l] (.É l)/\Ó 20 AH [Aj l] (.É l):=by
 exists l,h;have m:l.Á∈[0,1,2,3,4]:=M4.ĝ (i4 h);show aj (f0 (ah (f0 (xW λi=>l.ø i .Ã)).1 l.Á m)) λr b=>?_;rw[uY] at r b;show{λd a=>sr (N:=10) (hk:=0) (S:=[]) (os:=[]) (ŋ:=[]) (l:=[Be l]) .å r d a,λd a=>sr (N:=10) (k:=10) (n:=20) (hk:=0) (S:=[]) (os:=[]) (ŋ:=[]) (l:=[Aj l]) .å b d a}
def xX(a b:D):Ó 20 AH [.Ç [.Ý Cq,a,b]] (.É []):=λd h=>sr (N:=0) (n:=10) (hk:=0) (S:=[]) (os:=[]) (ŋ:=[]) .å _2 d h
def xY(a b:D):Ó 20 AH [.Ç [.Ý Ay,a,b]] (.É [a,b]):=λd h=>sr (N:=0) (n:=10) (hk:=0) (S:=[]) (os:=[]) (ŋ:=[]) .å _2 d h
def abG:Ó 20 AH [Es] (.É []):=λd h=>sr (N:=0) (n:=10) (hk:=0) (S:=[]) (os:=[]) (ŋ:=[]) .å _2 d h
structure Let(t:D)(b:é)(m:Ï):Prop where
 h:∃M,Dz [t] M/\Ea M b/\M.Á<=m
inductive Lets:Â D->é->Ï->Prop
 |å:Lets [] Å 0
 |Æ {t l b c m n}:Let t b m->Lets l c n->Lets (t::l) (b||c) (m+n)
def Dz.app{u vs L M:Â D}(h:Dz u L)(k:Dz vs M):Dz (u++vs) (L++M):=by
 induction h with
 |å=>show k
 |Æ f a _ _ i=>rw[U3,U3,tz];show .Æ f a i
def Lets.abH(h:Lets l b m):∃M,Dz l M/\Ea M b/\M.Á<=m:=by
 induction h with
 |å=>show{[],.å,.å,a3 0}
 |Æ h _ i=>
  show au h.h λL a c d=>au i λM k e f=>{L++M,a.app k,c.app e,by rw[f4];show ii d f}
def Let.of{m:Ï}(f:Ó 20 AH [t] (.É ts))(n:Hi t)(h:Lets ts b m):Let t b (m+1):=by
 show au h.abH λM a c d=>?_;have:=Dz.Æ f a .å;rw[wf] at this;show{{_,this,.o n c,by simpa using d}}
def bl(c:ä×ä):Let (Ag c) Å 1:=.of (xX _ _) .n .å
def kF:Let Es Ä 1:={{_,.Æ abG .å .å,.x .å,a3 1}}
def ip(a:l.Á<=4)(h:Lets l b m):Let (Be l) b (m+1):=.of (in_list a).1 .s h
def cE(a:l.Á<=4)(h:Lets l b m):Let (Aj l) b (m+1):=.of (in_list a).2 .p h
def iq(h:Let a b m)(k:Let e c n):Let (.Ç [.Ý Ay,a,e]) (b||c) (m+n+1):=by
 have l:=Lets.Æ h (.Æ k .å);rw[aaX,Ï.add_zero] at l;show .of (xY _ _) .w l
def ew(h:Let t b m)(a:m<=1000):Ó 22 Ao [t] (.É (if b then [.Ý AD] else [])):=au h.h λM c d e=>xV c d (ac e a)
end
section
def ir(x y:ä)(b c:é)(a:decide (x=y)=b)(d:decide (x<y)=c):Ó 5 Cr [.Ê x,.Ê y] (.Ê (if b then 0 else if c then -1 else 1)):=by
 exists x y b c,a d;have e:B_ .eq (.Ê x) (.Ê y)=Ñ (.Ù b):=by
  rw[<-a];show oj _2 _2 ?_;change(x==y)=_;rw[é.eq_iff_iff];simp
 induction b using ci
 ·have h:Hs (Hc 0) [cB (decide (x<y)) c,.Ç [.Ù Ä,.Ê x,.Ê y,.Ù Å]]:=.Æ d (.Æ e .å);induction c using ci
  ·show sr (n:=5) (hk:=2) (S:=[]) (os:=[.Ù Å,.Ù Å]) (ŋ:=[]) h _2
  ·show sr (n:=5) (hk:=2) (S:=[]) (os:=[.Ù Å,.Ù Ä]) (ŋ:=[]) h _2
 ·have h:Hs (Hc 0) [.Ç [.Ù Ä,.Ê x,.Ê y,.Ù Ä]]:=.Æ e .å;show sr (n:=5) (hk:=2) (S:=[]) (os:=[.Ù Ä]) (ŋ:=[]) h _2
def iu(e:AX a d=Ä)(f:AX c b=Ä)(h:Ó 5 Cr [.Ê (a*d),.Ê (c*b)] v):Ó 10 AO [.Ç [.Ê a,.Ê b],.Ç [.Ê c,.Ê d]] v:=
 sr (n:=5) (hk:=1) (S:=[Cr]) (os:=[v]) (ŋ:=[]) (.Æ (c:=cF Cr [.Ê (a*d),.Ê (c*b)] v) h (.Æ (c:=.Ç [.Ê c,.Ê b]) f (.Æ (c:=.Ç [.Ê a,.Ê d]) e .å))) _2
def zt{k:Ï}(h:a.ï<2^k)(c:b.ï<2^k)(hk:k<=8000):AX a b=Ä:=im.ĝ {aM h hk,aM c hk}
def uZ{n:ä}(b:bd 100 q)(a:n.ï<4)(h:q≠(n:ñ)):∃s,(s=1\/s= -1)/\Ó 10 AO [.Ç [.Ê q.õ,.Ê q.þ],.Ç [.Ê n,.Ê 1]] (.Ê s):=by
 exists q n,b a h;have m1:AX q.õ 1=Ä:=zt b.1 _0 _0;have m2:AX n q.þ=Ä:=zt (ce a _0) b.2 _0;have c:q.õ*1≠n*(q.þ):=λe=>h (by
  rw[<-sB q,show q.õ=n*(q.þ) by rw[<-e,Y8],show((q.þ))=1*(q.þ:ä) by rw[R8],<-Y9,Y8,ñ.divInt_mul_right (U9.ĝ q.den_nz)];rw[ñ.divInt_eq_div];change(n:ñ)/((1:ä))=n;grind)
 cases e:decide (q.õ*1<n*(q.þ)) with
 |Ä=>show{-1,.Ġ Î,iu m1 m2 (ir _ _ Å Ä (û c) e)}
 |Å=>show{1,.Ę Î,iu m1 m2 (ir _ _ Å Å (û c) e)}
def u_:Ó 10 AO [.Ç [.Ê 1,.Ê 1],.Ç [.Ê 1,.Ê 1]] (.Ê 0):=iu _2 _2 (ir _ _ Ä Å _0 _0)
abbrev Rf(a b c d s:ä):D:=cF AO [.Ç [.Ê a,.Ê b],.Ç [.Ê c,.Ê d]] (.Ê s)
def abI(n:ä)(c:ä×ä)(A:Ï->D)(i:ä)(a:i=1\/i= -1)(h:Ó 10 AO [.Ç [.Ê c.1,.Ê c.2],.Ç [.Ê 1,.Ê 1]] (.Ê i)):Ó 30 Ab [Be [Aj [Ag c,Es],A 0],BX n] (.Ê i)/\Ó 30 Ab [Be [Aj [Ag c,Es],A 0,A 1],BX n] (.Ê i):=by
 have s:Hs (Hc 10) [Rf c.1 c.2 1 1 i,Rf 1 1 1 1 0]:=.Æ (c:=cF _ _ _) h (.Æ (c:=cF _ _ _) u_ .å);rcases a with rfl|rfl
 ·show{sr (N:=10) (k:=20) (n:=20) (hk:=0) (S:=[AO]) (os:=[.Ê 0,.Ê 1]) (ŋ:=[]) s _2,sr (N:=10) (k:=20) (n:=20) (hk:=0) (S:=[AO]) (os:=[.Ê 0,.Ê 1]) (ŋ:=[]) s _2}
 ·show{sr (N:=10) (k:=20) (n:=20) (hk:=0) (S:=[AO]) (os:=[.Ê 0,.Ê (-1)]) (ŋ:=[]) s _2,sr (N:=10) (k:=20) (n:=20) (hk:=0) (S:=[AO]) (os:=[.Ê 0,.Ê (-1)]) (ŋ:=[]) s _2}
def abJ(n:ä)(c:ä×ä)(i:ä)(a:i=1\/i= -1)(h:Ó 10 AO [.Ç [.Ê c.1,.Ê c.2],.Ç [.Ê n,.Ê 1]] (.Ê i)):Ó 30 Ab [Be [Es,Ag c],BX n] (.Ê i):=by
 have s:Hs (Hc 10) [Rf c.1 c.2 n 1 i,Rf 1 1 1 1 0,Rf 1 1 1 1 0]:=.Æ (c:=cF _ _ _) h (.Æ (c:=cF _ _ _) u_ (.Æ (c:=cF _ _ _) u_ .å));rcases a with rfl|rfl
 ·show sr (N:=10) (k:=20) (n:=20) (hk:=0) (S:=[AO]) (os:=[.Ê 0,.Ê 0,.Ê 1]) (ŋ:=[]) s _2
 ·show sr (N:=10) (k:=20) (n:=20) (hk:=0) (S:=[AO]) (os:=[.Ê 0,.Ê 0,.Ê (-1)]) (ŋ:=[]) s _2
end
section
def XY(g h:é)(c b a:ä×ä):Â D:=[Be [Hh g c 2,Hh h b 1,Ag a],Be [Hh g c 2,Hh h b 1],Be [Hh g c 2,Ag a],Be [Hh Ä b 1,Ag a]]
noncomputable def ÂU(R:D):é:=AV R&&AU R&& !ā.eqv R BW&&[0,1,2,3].ş λi=> !ā.eqv (UJ i) R
def SE(n:ä)(U:D):é:=AU U&&AV U&&ÂU (Aj [U,BX n])&&ÂU (Aj [BX n,U])
def u_x(n:ä)(a:ä×ä):SE n (Be [Es,Ag a])=Ä:=_2
def abK(n:ä)(a:ä×ä):f2 (Be [Es,Ag a]) (LA n)=(((a.1==n&&(a.2==1&&Ä))&&Ä)&&Ä):=_2
def vb(n:ä):(ÂU (BX n)&&[1,2,3].ş λk=>ÂU (Aj [Cy k,BX n]))=Ä:=_2
def TM(c:ñ)(l:Â D)(R:D):D:=if c=1 then R else Aj (Ag (c.õ,c.þ)::l)
structure Jc(n:ä)(P:D)(c:ñ)(R V:D):Prop where
 gp:Ó 50 As [.É [P,BX n]] V
 nr:Ó 20 Au [V] (.Ç [AB c,R])
 wn:Ó 20 Ar [AB c,R] V
 ok:ÂU R=Ä
 c0:c≠0
 hb:bd 100 c
 fm:∃k x y,(k=1\/k=2)/\V=Bn k x y
def dG{R:D}:TM 1 l R=R:=à Î
def dH(h:c≠1){R:D}:TM c l R=Aj (Ag (c.õ,c.þ)::l):=ß h
section
variable{n:Int}
def iv:bd 100 1:={_0,_0}
def abL:Ó 20 Au [BX n] (.Ç [AB 1,BX n]):=aR _2
def aav(c:ñ):Ó 20 Au [Aj [Ag (c.õ,c.þ),BX n]] (.Ç [AB c,BX n]):=aR _2
def zu(L:D):Ó 20 Au [Aj [Bn 3 L .Ã,BX n]] (.Ç [AB 1,Aj [Bn 3 L .Ã,BX n]])/\Ó 20 Au [Aj [BX n,Bn 3 L .Ã]] (.Ç [AB 1,Aj [BX n,Bn 3 L .Ã]]):={aR _2,aR _2}
def abM(c:ä×ä):AR (λk=>(It Au [Aj [Cy k,BX n]],It Au [Aj [Ag c,Cy k,BX n]])) [1,2,3]=[1,2,3].Ö λk=>(.ok (.Ç [.Ç [.Ê 1,.Ê 1],Aj [Cy k,BX n]]) (Ň [] []),.ok (.Ç [.Ç [.Ê c.1,.Ê c.2],Aj [Cy k,BX n]]) (Ň [] [])):=_2
def bV{R:D}(h:ÂU R=Ä):AV R=Ä:=af (af (af h))
def xZ:ÂU (BX n)=Ä:=af (vb n)
def r_x(h:k<3):ÂU (Aj [Cy (k+1),BX n])=Ä:=an.mp (ae (vb n)) _ (m3 h)
def zv(h:bd 100 c):Ó 40 BP [.Ç [.Ê 1,.Ê 1],.Ç [.Ê c.õ,.Ê c.þ]] (.Ç [.Ê c.õ,.Ê c.þ]):=by
 have:=dB iv h _0;rw[A1] at this;show aa this _0
def vc{c:ñ}(h:c≠0):decide (c.õ=0)=Å:=û (fg.ĝ h)
def v_w{c:ñ}(a:c≠0)(b:bd 100 c):Jc n (Ag (c.õ,c.þ)) c (BX n) (TM c [BX n] (BX n)):=by
 exists n c,a b;have g:∀{V:D},Ó 20 Ar [AB c,BX n] V->Ó 50 As [.É [Ag (c.õ,c.þ),BX n]] V:=λw=>aaj (N:=40) (aa (abC n _) _0) (aa (pL n) _0) (kE n) (pN n) (aa (pM n) _0) (aa (aby n) _0) (zv b) (vc a) (aa w _0);by_cases h:c=1
 ·subst h;have w:Ó 20 Ar [AB 1,BX n] (BX n):=aau _ _ (bV xZ);rw[dG];show{g w,abL,w,xZ,a,b,1,_,_,.Ę Î,Î}
 ·have w:=abF a h (LA n) (Ag (-1,1)) (bV xZ);rw[dH h];show{g w,aav c,w,xZ,a,b,2,_,.Ã,.Ġ Î,Î}
def vd(c:ä×ä)(h:k<3):Ó 20 AP [Cy (k+1)] (.Ç [Es,WD (k+1)])/\Ó 20 A_ [Es,WD (k+1)] (Cy (k+1))/\Ó 20 Av [.É [Cy (k+1),BX n],.Ý BH] (.É [Cy (k+1),BX n])/\Ó 20 Av [.É [Aj [Ag c,Cy (k+1)],BX n],.Ý BH] (.É [Ag c,Cy (k+1),BX n])/\Ó 20 Ab [Cy (k+1),BX n] (.Ê (-1)):=by
 exists n k c,h;have r:=ah (aat n c) (k+1) (m3 h);show aj (f0 r) λa r=>aj (f0 r) λb r=>aj (f0 r) λd r=>aj (f0 r) λe f=>{aR a,aR b,aR d,aR e,aR f}
def v_x{c:ñ}(a:c≠0)(b:bd 100 c){k:Ï}(h:k<3):Jc n (mo (k+1) c) c (Aj [Cy (k+1),BX n]) (TM c [Cy (k+1),BX n] (Aj [Cy (k+1),BX n])):=by
 exists n c k,a b h;show jz (vd (n:=n) (c.õ,c.þ) h) λf d i j m=>aj (f0 (ah (abM (n:=n) (c.õ,c.þ)) (k+1) (m3 h))) λn1 n2=>?_;have s:Ó 40 Ai [.É [Cy (k+1),BX n]] (.É [Cy (k+1),BX n]):=aa (ij m) _0;have l:=(by decide:∀k,k<3->(WB (k+1)=0\/WB (k+1)=1\/WB (k+1)=3)) k h;have o:=r_x (n:=n) h;have e:=aas h;by_cases g:c=1
 ·subst g;have w:=om (Cy (k+1)) (BX n) (bV o);rw[dG,dZ];show{?_,aR n1,w,o,a,b,2,_,.Ã,.Ġ Î,Î};rw[e] at f d i s w⊢;show uL (N:=40) l (aa i _0) (aa f _0) (aa (pL n) _0) uS (kE n) (x_s n) zq (pN n) (aa d _0) (aa (pM n) _0) s (aa w _0)
 ·have w:=abE a g (Cy (k+1)) (BX n) (bV o);rw[dH g,dF g];show{?_,aR n2,w,o,a,b,2,_,.Ã,.Ġ Î,Î};rw[e] at f d j s w⊢;show aak (N:=40) l (aa j _0) (aa f _0) (aa (pL n) _0) uS (kE n) (x_s n) zq (pN n) (aa d _0) (aa (pM n) _0) s (zv b) (vc a) (aa w _0)
def v_u{L:D}(o:SE n (Bn 3 L .Ã)=Ä)(e:f2 (Bn 3 L .Ã) (LA n)=Å){i:ä}(b:i=1\/i= -1)(h:Ó 30 Ab [Bn 3 L .Ã,BX n] (.Ê i)):∃R,(R=Aj [Bn 3 L .Ã,BX n]\/R=Aj [BX n,Bn 3 L .Ã])/\Jc n (Bn 3 L .Ã) 1 R R:=by
 exists n L i,o e b h;have k:=ae (af o);have c:=ae o;have t:=af (af (af o));have r:=ÂT (ae (af (af o)));have g:∀{q a},Ó 40 Ai [.É [Bn 3 L .Ã,BX n]] (.É [q,a])->Ó 20 Ar [.Ç [.Ê 1,.Ê 1],Aj [q,a]] (Aj [q,a])->Ó 50 As [.É [Bn 3 L .Ã,BX n]] (Aj [q,a]):=λs w=>
  uL (N:=40) (.Ġ (.Ġ Î)) (aa (abB n L) _0) (aa (abz L) _0) (aa (pL n) _0) t (kE n) e r (pN n) (aa (abA L) _0) (aa (pM n) _0) s (aa w _0)
 rcases b with rfl|rfl
 ·have w:=om (BX n) (Bn 3 L .Ã) (bV c);show{_,.Ġ Î,g (fN h) w,(zu L).2,w,c,_0,iv,2,_,.Ã,.Ġ Î,Î}
 ·have w:=om (Bn 3 L .Ã) (BX n) (bV k);show{_,.Ę Î,g (ij h) w,(zu L).1,w,k,_0,iv,2,_,.Ã,.Ġ Î,Î}
end
end
section
structure VC(V:D)(o:Ï->é):Prop where
 cm:∀k,k<2->∀b:ñ,Ó 20 Ab [mo (k+1) b,V] (.Ê (if o (k+1) then 1 else -1))
 mono:o 2=Ä->o 1=Ä
def N_(i:ä):Out D:=.ok (.Ê i) (Ň [] [])
def x_(n:ä)(c e:ä×ä)(L:D):AR (λg=>AR (λk=>(It Ab [Hh g c k,BX n],It Ab [Hh g c k,Aj [Ag e,BX n]],It Ab [Hh g c k,Aj [Bn 3 L .Ã,BX n]],It Ab [Hh g c k,Aj [BX n,Bn 3 L .Ã]],
  AR (λj=>(It Ab [Hh g c k,Aj [Cy j,BX n]],It Ab [Hh g c k,Aj [Ag e,Cy j,BX n]])) [1,2,3])) [1,2]) [Ä,Å]=
  [Ä,Å].Ö λ_=>[1,2].Ö λk=>(N_ (-1),N_ (-1),N_ (-1),N_ (-1),[1,2,3].Ö λj=>(N_ (if s4 k j then 1 else -1),N_ (if s4 k j then 1 else -1))):=_2
def m2(h:k<2):k+1∈[1,2]:=by
 match k,h with
 |0,_=>show .Ď _
 |1,_=>show .ě _ (.Ď _)
section
variable{n:Int}
def kG(b e:ñ)(L:D){k:Ï}(h:k<2):Ó 20 Ab [mo (k+1) b,BX n] (.Ê (-1))/\Ó 20 Ab [mo (k+1) b,Aj [Ag (e.õ,e.þ),BX n]] (.Ê (-1))/\Ó 20 Ab [mo (k+1) b,Aj [Bn 3 L .Ã,BX n]] (.Ê (-1))/\Ó 20 Ab [mo (k+1) b,Aj [BX n,Bn 3 L .Ã]] (.Ê (-1))/\
  ∀j,j<3->Ó 20 Ab [mo (k+1) b,Aj [Cy (j+1),BX n]] (.Ê (if s4 (k+1) (j+1) then 1 else -1))/\Ó 20 Ab [mo (k+1) b,Aj [Ag (e.õ,e.þ),Cy (j+1),BX n]] (.Ê (if s4 (k+1) (j+1) then 1 else -1)):=by
 exists n b e L k,h;have r:=ah (ah (x_ n (Bs b) (e.õ,e.þ) L) (!decide (b=1)) (ik _)) (k+1) (m2 h);rw[<-uO] at r;show aj (f0 r) λa r=>aj (f0 r) λc r=>aj (f0 r) λd r=>aj (f0 r) λf r=>{aR a,aR c,aR d,aR f,λj g=>aj (f0 (ah r (j+1) (m3 g))) λi l=>{aR i,aR l}}
def abN(c:ñ):VC (TM c [BX n] (BX n)) λ_=>Å:=⟨λk a b=>by
 show b_ (kG (n:=n) b c .Ã a) λr d _=>?_;by_cases h:c=1
 ·rw[h,dG];show r
 ·rw[dH h];show d,λh=>nomatch h⟩
def abO(c:ñ){j:Ï}(a:j<3):VC (TM c [Cy (j+1),BX n] (Aj [Cy (j+1),BX n])) λk=>s4 k (j+1):=⟨λk d b=>by
 show jz (kG (n:=n) b c .Ã d) λ_ _ _ _ r=>aj (r j a) λe f=>?_;by_cases h:c=1
 ·rw[h,dG];show e
 ·rw[dH h];show f,λh=>l4 (pu _)⟩
def abP{L R:D}(h:R=Aj [Bn 3 L .Ã,BX n]\/R=Aj [BX n,Bn 3 L .Ã]):VC R λ_=>Å:=⟨λk a b=>by
 show jz (kG (n:=n) b 0 L a) λ_ _ r c _=>?_;rcases h with rfl|rfl
 ·show r
 ·show c,λh=>nomatch h⟩
def DJ.app(h:DJ l ts)(k:DJ m u):DJ (l++m) (ts++u):=by
 induction h with
 |å=>show k
 |Æ f _ i=>show .Æ f i
def Kp(c:ñ)(R V:D):PT:={Å,V,c.õ,c.þ,R,V}
def pO{P R V:D}(h:Jc n P c R V):(Kp c R V).OK 30:=⟨aa h.nr _0,ae (af (af h.ok)),by
  have:=dA (dV 0) h.hb _0;rw[I3] at this;show aa this _0,by
  have:=ae (af h.ok);show(wP _).mp this,λ_=>{vc h.c0,aa h.wn _0}⟩
def pP{P R V:D}(h:Jc n P c R V){k:Ï}(hk:k<=3):f2 (UJ k) R=Å:=(wP _).mp (an.mp (ae h.ok) k (m4 hk))
def aaw:(GD.ş λy=>a1.ş λz=>Ky.ş λc=>[2,3].ş λv=>pats.any λq=>decide (q=(y++z++c.1++[v],c.2)))=Ä:=_2
def aax:([2,3].ş λv=>pats.any λq=>decide (q=([0,v],Å)))=Ä:=_2
def Lt(a b c:ñ):Â Mo:=BA 2 c++BA 1 b++BA 0 a
def kH(a b c:ñ):Lm a b c 0=Lt a b c:=by unfold Lm Lt;rw[eC];rfl
def ya{V:D}{o:Ï->é}(h:VC V o)(b c:ñ):∃A B:Â Mo,Ó 30 Ai [.É ((BA 2 c++BA 1 b).Ö AY++[V])] (.É (A.Ö AY++V::B.Ö AY))/\A++B=BA 2 c++BA 1 b:=by
 exists V o b c,h;have a:=h.cm 0 _0 b;have d:=h.cm 1 _0 c;have m:=h.mono;have k:Ó 20 Ab [mo 2 c,mo 1 b] (.Ê (-1)):=cQ (i:=1) (j:=0) _0;unfold BA;by_cases q:c=0<;>by_cases f:b=0
 ·rw[à q,à f];show{[],[],gj (N:=20),Î}
 ·rw[à q,ß f];cases e:o 1 with
  |Ä=>rw[e] at a;show{[],[(1,b)],fN a,Î}
  |Å=>rw[e] at a;show{[(1,b)],[],ij a,Î}
 ·rw[ß q,à f];cases e:o 2 with
  |Ä=>rw[e] at d;show{[],[(2,c)],fN d,Î}
  |Å=>rw[e] at d;show{[(2,c)],[],ij d,Î}
 ·rw[ß q,ß f];cases g:o 2 with
  |Ä=>
   rw[m g] at a;rw[g] at d;show{[],[(2,c),(1,b)],aan a d k,Î}
  |Å=>
   rw[g] at d;cases l:o 1 with
   |Ä=>rw[l] at a;show{[(2,c)],[(1,b)],aam a d,Î}
   |Å=>rw[l] at a;show{[(2,c),(1,b)],[],zo a k,Î}
def ve{R V:D}:Ej ((Lt a b c).Ö Ek++[Kp d R V])=(BA 2 c++BA 1 b).Ö AY++[V]:=by
 unfold Lt;simp only[g1,fl,ky,kz,wf];rfl
def vf{R V:D}:Fp ((Lt a b c).Ö Ek++[Kp d R V])=(a.õ,(a.þ:ä)):=by
 unfold Lt;simp only[g1,tz,kC];show oi a _ Î
def vg(a:ñ):(BA 0 a).Ö AY=if !decide (a=0) then [Ag (a.õ,a.þ)] else []:=by
 unfold BA;by_cases h:a=0
 ·rw[à h,Ă h];rfl
 ·rw[ß h,û h];rfl
def pQ{P R V:D}(h:Jc n P d R V):∃k,k∈[2,3]/\DJ [k] [Kp d R V]:=by
 show cG h.fm λk x y a e=>{k+1,by rcases a with rfl|rfl<;>simp,.Æ ?_ .å};rw[e];show .m (a.ç (λq=>ac (lm q) _0) λq=>ac (lm q) _0)
def abQ{a b c d:ñ}{P R V:D}{o:Ï->é}(h:Jc n P d R V)(z:VC V o)(g:Good (Lt a b c))(j:Lt a b c≠[]):∃A B:Â Mo,Ó 40 Ap [.É [BY ((Lt a b c).Ö AY),V]] (BY (A.Ö AY++V::B.Ö AY))/\A++B=Lt a b c:=by
 exists n a b c d P R V o,h z g j;show ag (pQ h) λC O Q=>aD (ya z b c) λA B u E=>?_;obtain⟨ss,x⟩:∃ss,ss=A.Ö AY++V::B.Ö AY:={_,Î};rw[<-x] at u;have G:ss.Á=((BA 2 c++BA 1 b).Ö AY++[V]).Á:=by
  rw[x,<-E];simp only[f4,a2,i3,T0];show Î
 have H:=(dr g).app Q;have I:((Lt a b c).Ö KG++[C],!decide (a=0))∈pats:=by
  have q:=d_ (an.mp (an.mp (an.mp (an.mp aaw _ (d3 0 c)) _ (d1 b)) _ (d0 a)) C O);unfold Lt;rw[g1,g1];show q
 have ŏ:(Lt a b c).Á<=3:=by
  unfold Lt;simp only[f4];have:=aq 2 c;have:=aq 1 b;have:=aq 0 a;show ii (ii (aq 2 c) (aq 1 b)) (aq 0 a)
 have J:((Lt a b c).Ö Ek++[Kp d R V]).Á<=4:=by simp only[f4,a2,i3,T0];show i4 ŏ
 have T:∀t∈(Lt a b c).Ö Ek++[Kp d R V],CU t=t.p:=λt f=>(dL.mp f).ç (kx t) λq=>by rw[am.mp q];rfl
 show aj (dD I (by simp) H J T) λy i=>?_;have L:((Lt a b c).Ö Ek++[Kp d R V]).Ö PT.p=(Lt a b c).Ö AY++[V]:=by rw[g1,fO];rfl
 rw[L] at y i;have U:Ó 10 Av [.É [BY ((Lt a b c).Ö AY),V],.Ý BU] (.É ((Lt a b c).Ö AY++[V])):=by
  match e:(Lt a b c).Ö AY,j with
  |[],j=>show absurd (N6.mp e) j
  |[q],_=>rw[e] at y;show y
  |q::v::l,_=>
   rw[e] at i;unfold two at i;rw[ZG,show((q::v::l)++[V]).getLastD .Ã=V by rw[Â.getLastD_eq_getLast?,Yf];rfl] at i;show i
 have Y:∀t∈(Lt a b c).Ö Ek++[Kp d R V],t.OK 30:=λt f=>(dL.mp f).ç (λf=>let o:=gJ g t f;{aa o.nr _0,o.k,aa o.ad _0,o.o,λq=>(o.w q).imp id λd7=>aa d7 _0}) λq=>by rw[am.mp q];show pO h
 have pw:((Lt a b c).Ö Ek++[Kp d R V]).ĳ λs t=>f2 s.r t.r=Å:=ZD.ĝ ⟨gK g (kH a b c▸kA),R7 _ _,λs u t f=>by
  rw[am.mp f];obtain⟨m,hm,Î⟩:=i1.mp u;show pP h (g m hm).1⟩
 have v:=pD (N:=30) (ss:=ss) I H J (by rw[ve];show G) (by
  rw[G];simp only[f4,a2,i3,T0];have:=aq 2 c;have:=aq 1 b;show io (ii (aq 2 c) (aq 1 b)) 1) Y pw (by rw[L];show aa U _0) (by rw[ve];show u) (by rw[vf,T3];show kj)
 show{A,B++BA 0 a,?_,?_}
 ·have e:NY ((Lt a b c).Ö Ek++[Kp d R V]) ss (!decide (a=0))=BY (A.Ö AY++V::(B++BA 0 a).Ö AY):=by
   unfold NY;rw[vf,g1,vg,x,<-U3,<-tz];cases decide (a=0)<;>rfl
  rw[e] at v;show v
 ·unfold Lt;rw[<-tz,E]
def w_0{d:ñ}{P R V:D}(h:Jc n P d R V):Ó 40 Ap [.É [Ag (0,1),V]] V:=by
 exists n d P R V,h;show ag (pQ h) λk hk v=>?_;have e:([0,k],Å)∈pats:=d_ (an.mp aax k hk);have f:DJ (0::[k]) ({Ä,Ag (0,1),0,1,BW,.Ã}::[Kp d R V]):=.Æ .c v;show aj (dD e (by simp) f (by simp) (λt a=>by
  rcases a5.mp a with rfl|a
  ·rfl
  ·rw[am.mp a];rfl)) λg _=>?_
 have o:PT.OK 30 {Ä,Ag (0,1),0,1,BW,.Ã}:={λd b=>sr (N:=10) (k:=20) (n:=20) (hk:=0) (S:=[]) (l:=[Ag (0,1)]) (os:=[]) (ŋ:=[]) .å _2 d b,_2,λd b=>sr (N:=10) (k:=20) (n:=20) (hk:=0) (S:=[]) (l:=[.Ç [.Ê 0,.Ê 1],.Ç [.Ê 0,.Ê 1]]) (os:=[]) (ŋ:=[]) .å _2 d b,_2,λh=>nomatch h};show pD (N:=30) (ss:=[V]) (P:=.É [Ag (0,1),V]) e f (by simp) rfl (by simp) (λt a=>by
  rcases a5.mp a with rfl|a
  ·show o
  ·rw[am.mp a];show pO h) (S5.ĝ {λt a=>by rw[am.mp a];show pP h (k:=0) _0,R7 _ _}) (aa g _0) (gj (N:=20)) rfl
end
end
section
noncomputable def opt(k:Ï)(c:ä×ä):Ï->Â D
 |0=>[]
 |1=>[Cy k]
 |_=>[Aj [Ag c,Cy k]]
def VU(c:ä×ä):Ï->Â D
 |0=>[]
 |_=>[Ag c]
abbrev Q4:=Ï×Ï×Ï×Ï
def Rq(d c b a:ä×ä)(q:Q4):Â D:=opt 3 d q.1++opt 2 c q.2.1++opt 1 b q.2.2.1++VU a q.2.2.2
def HT:Â Q4:=[0,1,2].ĥ λi=>[0,1,2].ĥ λj=>[0,1,2].ĥ λl=>[0,1].Ö λm=>(i,j,l,m)
def Pu(q:Q4):é:= !(pp q.1 0&&pp q.2.1 0)&&s4 2 (min q.1 1+min q.2.1 1+min q.2.2.1 1+q.2.2.2)
def yb(n:ä)(d c b a:ä×ä):(((0,0,2,1)::HT.ÀX Pu).ş λq=>SE n (Be (Rq d c b a q))&& !ā.eqv (Be (Rq d c b a q)) (LA n))=Ä:=_2
def yc(n:ä)(d c b a:ä×ä):AR (λq=>It Ab [Be (Rq d c b a q),BX n]) (HT.ÀX Pu)=(HT.ÀX Pu).Ö λ_=>N_ (-1):=_2
def pR:([0,1,2].ş λi=>[0,1,2].ş λj=>[0,1,2].ş λl=>[0,1].ş λm=>HT.any λq=>decide (q=(i,j,l,m)))=Ä:=_2
def ey(k:Ï)(c:ñ):∃i∈[0,1,2],(BA (k+1) c).Ö AY=opt (k+1) (Bs c) i/\(BA (k+1) c).Á=min i 1/\(i=1->c=1)/\(i=2->c≠1):=by
 unfold BA;by_cases h:c=0
 ·rw[à h];show{0,_0,Î,Î,(λh=>nomatch h),(λh=>nomatch h)}
 ·rw[ß h];by_cases a:c=1
  ·show{1,_0,?_,Î,λ_=>a,λh=>nomatch h};change [mo (k+1) c]=_;rw[a,dZ];rfl
  ·show{2,_0,?_,Î,(λh=>nomatch h),λ_=>a};change [mo (k+1) c]=_;rw[dF a];rfl
def pS(c:ñ):∃i∈[0,1],(BA 0 c).Ö AY=VU (Bs c) i/\(BA 0 c).Á=i:=by
 unfold BA;by_cases h:c=0
 ·rw[à h];show{0,_0,Î,Î}
 ·rw[ß h];show{1,_0,Î,Î}
def fp(h:2<=l.Á):BY l=Be l:=by
 match l,h with
 |_::_::_,_=>rfl
 |[_],h=>show absurd h (by simp)
 |[],h=>show absurd h _0
inductive KH(n:ä):Â Mo->ñ->D->D->Prop
 |w {d}:KH n [(0,d)] d (BX n) (TM d [BX n] (BX n))
 |x {d k}:k<3->KH n [(k+1,d)] d (Aj [Cy (k+1),BX n]) (TM d [Cy (k+1),BX n] (Aj [Cy (k+1),BX n]))
 |u {m R}:2<=m.Á->(R=Aj [Be (m.Ö AY),BX n]\/R=Aj [BX n,Be (m.Ö AY)])->KH n m 1 R R
def v_sum(h:2<=m.Á)(k:SE n (Be (m.Ö AY))=Ä)(b:f2 (Be (m.Ö AY)) (LA n)=Å)(c:i=1\/i= -1)(d:Ó 30 Ab [Be (m.Ö AY),BX n] (.Ê i)):∃e R V o,Jc n (BY (m.Ö AY)) e R V/\VC V o/\KH n m e R V:=by
 show ag (v_u k b c d) λR a v=>?_;rw[fp (by rw[a2];show h)];show{1,R,R,_,v,abP a,.u h a}
def abR{n:ä}{a b c d:ñ}(N:n.ï<4)(g:Fc (Lm a b c d))(v:Lm a b c d≠[])(O:¬(Lm a b c d=[(1,1),(0,(n:ñ))])):∃e R V o,Jc n (BY ((Lm a b c d).Ö AY)) e R V/\VC V o/\KH n (Lm a b c d) e R V:=by
 exists n a b c d,N g v O;by_cases y:(Lm a b c d).Á<=1
 ·match e:Lm a b c d,v,y with
  |[],v,_=>show absurd rfl v
  |_::_::_,_,y=>show absurd y (by simp)
  |[(0,q)],_,_=>
   show b_ (g (0,q) (by rw[e];show .Ď _)) λ_ A B=>{_,_,_,_,v_w A B,abN q,.w}
  |[(k+1,q)],_,_=>
   show b_ (g (k+1,q) (by rw[e];show .Ď _)) λk3 A B=>?_;have C:k<3:=by have:k+1<=3:=k3;show ac (by assumption) _0
   show{_,_,_,_,v_x A B C,abO q C,.x C}
 ·have h:2<=(Lm a b c d).Á:=Zc y;show jA (ey 2 d) λi s e3 Q _=>jA (ey 1 c) λj hj e2 T _=>e15 (ey 0 b) λl U e1 E b1 b2=>au (pS a) λm Y e0 G=>?_;have em:(Lm a b c d).Ö AY=Rq (Bs d) (Bs c) (Bs b) (Bs a) (i,j,l,m):=by
   unfold Lm Rq;rw[g1,g1,g1,e3,e2,e1,e0]
  have z:(Lm a b c d).Á=min i 1+min j 1+min l 1+m:=by
   unfold Lm;rw[f4,f4,f4,Q,T,E,G]
  have I:(i,j,l,m)∈HT:=by
   have q:=an.mp (an.mp (an.mp (an.mp pR i s) j hj) l U) m Y;show ag (ms.mp q) λp hp e=>Ø e▸hp
  have tb:=λq I=>an.mp (yb n (Bs d) (Bs c) (Bs b) (Bs a)) q I;by_cases H:Pu (i,j,l,m)=Ä
  ·have hf:(i,j,l,m)∈HT.ÀX Pu:=Yw.ĝ {I,H};have t:=tb _ (.ě _ hf);rw[<-em] at t;have r:=ah (yc n (Bs d) (Bs c) (Bs b) (Bs a)) _ hf;rw[<-em] at r;show v_sum h (af t) ((wP _).mp (ae t)) (.Ġ Î) (aa (aR r) _0)
  ·have j8:i=0/\j=0:=by
    rw[z] at h;unfold Pu at H;rw[l4 h,Yl] at H;have H:=(é.not_eq_false' _).mp ((é.not_eq_true _).mp H);show{l0 (af H),l0 (ae H)}
   obtain⟨Î,Î⟩:=j8;rw[z] at h;have j9:m=1:=by
    have:m<=1:=by rcases a5.mp Y with rfl|q;show j0 1;rw[am.mp q];show a3 1
    show Q2 this (YH λq=>absurd (ac h (ii (ii (a3 (min 0 1+min 0 1)) (Ï.min_le_right _ 1)) (lm q))) _0)
   subst j9;have ga:a≠0:=λq=>by rw[q,eC] at G;cases G
   have gb:b≠0:=λq=>by rw[q,eC] at E;cases l with
    |ž=>show absurd h _0
    |ś l=>simp at E
   have e7:(1,b)∈Lm a b c d/\(0,a)∈Lm a b c d:=by
    unfold Lm;rw[show BA 1 b=[(1,b)] from ß gb,show BA 0 a=[(0,a)] from ß ga];simp
   have bb:=(g _ e7.1).2.2;have ba:=(g _ e7.2).2.2;have k9:l=1\/l=2:=by
    rcases a5.mp U with rfl|q
    ·show absurd h _0
    ·rcases a5.mp q with rfl|q
     ·show .Ę Î
     ·show .Ġ (am.mp q)
   rcases k9 with rfl|rfl
   ·have hb:=b1 Î;have ha:a≠(n:ñ):=λq=>O (by
     unfold Lm;rw[l5 Q,l5 T,hb,q,show BA 1 (1:ñ)=[(1,1)] from ß _0,show BA 0 (n:ñ)=[(0,(n:ñ))] from ß (q▸ga)];rfl)
    show ag (uZ ba N ha) λi s f=>?_;have ok:=u_x n (Bs a);have ee:f2 (Be [Es,Ag (Bs a)]) (LA n)=Å:=by
     rw[abK];show AT.ĝ λq=>ha ?_;have J:=af (af (af q));have L:=af (ae (af (af q)));have J:a.õ=n:=eq_of_beq J;have L:(a.þ:ä)=1:=eq_of_beq L;rw[<-sB a,J,L,ñ.divInt_eq_div];change(n:ñ)/((1:ä):ñ)=n;grind
    have u:=abJ n (Bs a) i s f;rw[show Be [Es,Ag (Bs a)]=Be (Rq (Bs d) (Bs c) (Bs b) (Bs a) (0,0,1,1)) from rfl,<-em] at ok ee u;show v_sum (z▸h) ok ee s u
   ·have t:=tb _ (.Ď _);rw[<-em] at t;show ag (uZ (n:=1) bb _0 (b2 Î)) λi s f=>?_;have u:=(abI n (Bs b) (λ_=>Ag (Bs a)) i s f).1;rw[show Be [Aj [Ag (Bs b),Es],Ag (Bs a)]=Be (Rq (Bs d) (Bs c) (Bs b) (Bs a) (0,0,2,1)) from rfl,<-em] at u;show v_sum (z▸h) (af t) ((wP _).mp (ae t)) s u
end
section
def fq{p:Â ñ}(h:p.Á<=4)(x:ñ):ev p x=p.ø 0 0+x*(p.ø 1 0+x*(p.ø 2 0+x*p.ø 3 0)):=by
 have z:0+x*0=0:=by rw[M1,Db]
 match p,h with
 |[],_=>change(0:ñ)=0+x*(0+x*(0+x*0));rw[z,z,z]
 |[a],_=>change a+x*0=a+x*(0+x*(0+x*0));rw[z,z]
 |[a,b],_=>change a+x*(b+x*0)=a+x*(b+x*(0+x*0));rw[z]
 |[a,b,c],_=>rfl
 |[a,b,c,d],_=>change a+x*(b+x*(c+x*(d+x*0)))=a+x*(b+x*(c+x*d));rw[M1,Db]
 |_::_::_::_::_::_,h=>show absurd h (by simp)
def UL(a b c d:ñ):CQ:=.branch 2 (.branch 1 (.leaf a) (.leaf b)) (.branch 3 (.leaf c) (.leaf d))
def KI(n:ä):PE:=.ŧ (.Đ 0) (.ļ (.õ n) (.ŧ (.Đ 1) (.ļ (.õ n) (.ŧ (.Đ 2) (.ļ (.õ n) (.Đ 3))))))
def Xr(i j k l:ä):PE:=.ŧ (.ŧ (.ļ (.õ i) (KI 0)) (.ļ (.õ j) (KI 1))) (.ŧ (.ļ (.õ k) (KI (-1))) (.ļ (.õ l) (KI 2)))
def coX{A B:CQ}(q:∀n,dn A (KI n)=dn B (KI n))(i j k l:ä)(v:Ï)(h:GL (Xr i j k l) (.ļ (.õ 6) (.Đ v))=Ä):A.ĵ v=B.ĵ v:=by
 have e:dn A (.ļ (.õ 6) (.Đ v))=dn B (.ļ (.õ 6) (.Đ v)):=by
  rw[<-cz h,<-cz h];change(dn A (.õ i)*dn A (KI 0)+dn A (.õ j)*dn A (KI 1))+(dn A (.õ k)*dn A (KI (-1))+dn A (.õ l)*dn A (KI 2))=_;rw[q,q,q,q];rfl
 have z:dn A (.õ 6)≠0:=by rw[ay];decide+kernel
 have a:(dn A (.õ 6))⁻¹ *(dn A (.õ 6)*A.ĵ v)=(dn A (.õ 6))⁻¹ *(dn A (.õ 6)*B.ĵ v):=â _ e;rwa [<-L9,<-L9,Z5 _ z,A1,A1] at a
def vh{a b c d e f g h:ñ}(q:∀x,a+x*(b+x*(c+x*d))=e+x*(f+x*(g+x*h))):a=e/\b=f/\c=g/\d=h:=by
 have k:=coX (A:=UL a b c d) (B:=UL e f g h) λn=>q (dn (UL a b c d) (.õ n));show{k 6 0 0 0 0 _2,k (-3) 6 (-2) (-1) 1 _2,k (-6) 3 3 0 2 _2,k 3 (-3) (-1) 1 3 _2}
def fs{B C:Ï}(b:Ax 4 B p)(a:Ax 4 C q)(h:∀x,ev p x=ev q x):p=q:=by
 show dc (vh λx=>(fq b.ŏ x).symm.Ð ((h x).Ð (fq a.ŏ x))) λd f g j=>?_;have k:=b.ŏ;have m:=a.ŏ;have e:∀i,p.ø i 0=q.ø i 0:=λi=>by
  match i with
  |0=>show d
  |1=>show f
  |2=>show g
  |3=>show j
  |i+4=>rw[i6,i6,J1 (ac k (f3 ..)),J1 (ac m (f3 ..))]
 have c:∀{p q:Â ñ} {C:Ï},Ax 4 C q->(∀i,p.ø i 0=q.ø i 0)->q.Á<=p.Á:=λ{p q C} a e=>by
  show i8.mp λl=>?_;have:=a.last (YP (ac (f3 ..) l));rw[<-e,i6,J1 (Ï.le_sub_one_of_lt l)] at this;show this rfl
 show B0 (Q2 (c b λi=>(e i).symm) (c a e)) λi n o=>?_;have:=e i;simpa [n,o] using this
def AL:Â ñ->Â ñ
 |[]=>[]
 |c::l=>match AL l with
  |[]=>if c=0 then [] else [c]
  |d::m=>c::d::m
def bA{B:Ï}{l:Â ñ}(h:∀c∈l,bd B c):Ax l.Á B (AL l)/\∀x,ev (AL l) x=ev l x:=by
 induction l with
 |å=>show{{a3 _,λ_ h=>(nomatch h),λ_ h=>(nomatch h)},λ_=>rfl}
 |Æ c l n=>
  show aj (n λd a=>h d (.ě _ a)) λf b=>?_;have j:=h c (.Ď _);unfold AL
  match e:AL l with
  |[]=>
   rw[e] at b;dsimp only;split
   ·rename_i i;show{{j0 _,λ_ h=>(nomatch h),λ_ h=>(nomatch h)},λx=>by change 0=c+x*ev l x;rw[<-b,i];change 0=0+x*0;grind}
   ·rename_i i;show{{by simp,λd a=>by(have z:=al a;clear a;subst z);show i,λd a=>by rw[am.mp a];show j},λx=>by change c+x*0=c+x*ev l x;rw[<-b];rfl}
  |d::m=>
   rw[e] at f b;show{{ol f.ŏ,λq g=>f.AL q (by rw[Â.getLast?_cons_cons] at g;show g),λq g=>(a5.mp g).ç (λk=>k▸j) (f.bd q)},λx=>by change c+x*ev (d::m) x=c+x*ev l x;rw[b]}
def Ax.mF(L B:Ï):Ax L B []:={j0 _,λ_ h=>(nomatch h),λ_ h=>(nomatch h)}
def BZ(k:Ï)(c:ñ):Â ñ:=ln k 0++[c]
def cn{k B:Ï}(b:c≠0)(e:bd (B+1) c):Ax (k+1) (B+1) (BZ k c):=⟨by unfold BZ;simp,λd a=>by unfold BZ at a;rw[Yf] at a;(have z:=al a;clear a;subst z);show b,λd a=>by
 rcases dL.mp a with h|h
 ·rw[Â.eq_of_mem_replicate h];show dV B
 ·rw[am.mp h];show e⟩
def dt(k:Ï)(c x:ñ):ev (BZ k c) x=c*ev (BZ k 1) x:=by
 induction k with
 |ž=>change c+x*0=c*(1+x*0);grind
 |ś k i=>change 0+x*ev (BZ k c) x=c*(0+x*ev (BZ k 1) x);rw[i];grind
def ft(h:Ó 65 Bl [AE p,AE q] (AE r))(a:Ax 4 100 r):Ó 70 BC [F1 p,F1 q] (F1 r):=ie h (gi xE) (zl a)
def Pw(k:Ï)(a:FQ):Â FQ:=ln (k+1) .o++[a]
def SF(k:Ï):=(Ly (DI 1) (Pw k .i)).EN [] (Hg 1) []
def Xs(k:Ï):é:=Nd (SF k)&&(SF k).ş λl=>CH l.ns l.r (Pw k (.v (.Đ 0) (.õ 1)))
def vi:([0,1,2].ş Xs)=Ä:=_2
def SG(r:Fr):Prop:=AR (λk=>Nf r Bl [Cw r (DI 1),Cw r (Pw k .i)] (SF k)) [0,1,2]=[0,1,2].Ö λk=>Ng r (Cw r) (SF k)
def VV:Fr:=Kj SG
def vj(r:Fr):SG r:=aI (show SG VV by unfold SG;kernel_rfl) r
def vk(c:CQ)(k:Ï)(a:FQ):(Pw k a).Ö (Bz c)=BZ (k+1) (Bz c a):=by
 unfold Pw BZ;rw[g1,Â.map_replicate,ct];rfl
def zw(hk:k<3)(h:Ax 1 100 [c]):Ó 65 Bl [AE [c],AE (BZ (k+1) 1)] (AE (BZ (k+1) c)):=by
 show ao (dY (p:=[c]) (q:=[]) (ol (j0 3)) (j0 4) 0) λd t=>ag (TR.fK (Ly (DI 1) (Pw k .i)) [] (Hg 1) [] {λf h=>(nomatch h),hZ h t.ga,h_ (t.bd h.bd (λy b=>nomatch b) (C:=100) _0 _0) _0 _0}) λl a w=>?_;have m:=(by decide:∀k,k<3->k∈[0,1,2]) k hk;have q:=an.mp vi _ m;have f:=Lf.fact w (an.mp (af q) l a) (ah (ah (vj (Ds d)) _ m) l a);rw[av,av,av,aN w (an.mp (ae q) l a),vk,vk,((hT ..).Ð (t.ga 0 (pu _))),cY,show(DI 1).Ö (Bz d)=[c] from t.ea] at f;show f
def pT:AR (λk=>It Ac [Cy k,.Ý AD]) [1,2,3]=[1,2,3].Ö λk=>.ok (F1 (BZ k 1)) (Ň [] []):=_2
def gL(a:c≠0)(b:bd 100 c):Ó 65 Ac [Ag (c.õ,c.þ),.Ý AD] (F1 [c]):=by
 have r:Row 100 [c]:={by simp,λd h=>by(have z:=al h;clear h;subst z);show a,λd h=>by rw[am.mp h];show b};have:=mr r;rw[et r (by simp)] at this;show this
def kI(hk:k<=3)(h:c≠0)(b:bd 100 c):Ó 81 Ac [mo k c,.Ý AD] (F1 (BZ k c)):=by
 have r:Ax 1 100 [c]:=cn h b
 match k,hk with
 |0,_=>show aa (gL h b) _0
 |k+1,hk=>
  have a:k<3:=by show ac (by assumption) _0
  have f:Ó 70 Ac [Cy (k+1),.Ý AD] (F1 (BZ (k+1) 1)):=aa (aR (ah pT (k+1) (m3 a))) _0;by_cases d:c=1
  ·subst d;rw[dZ];show aa f _0
  ·rw[dF d];show nE (aa (gL h b) _0) (ft (pB (r.le _0 (a3 _))) (r.le _0 (a3 _))) f (ft (zw a r) ((cn h b).le (i4 a) (a3 _)))
inductive ÂV(N:Ï):D->Â D->D->Prop
 |å {g}:ÂV N g [] g
 |Æ {g p A d g' s v}:Ó N Ac [p,.Ý AD] (.Ç [A,d])->Ó N Ba [g,.Ç [A,d]] g'->ÂV N g' s v->ÂV N g (p::s) v
def ÂV.app(h:ÂV N g p v)(k:ÂV N v q w):ÂV N g (p++q) w:=by
 induction h with
 |å=>show k
 |Æ a b _ i=>show .Æ a b (i k)
def ÂV.inv(h:ÂV N g l v):match l with
  |[]=>v=g
  |p::s=>∃A d c,Ó N Ac [p,.Ý AD] (.Ç [A,d])/\Ó N Ba [g,.Ç [A,d]] c/\ÂV N c s v:=by
 induction h with
 |å=>rfl
 |Æ a b h=>show{_,_,_,a,b,h}
def ÂV.nil_eq(h:ÂV N g [] v):v=g:=h.inv
def ÂV.sum(h:ÂV N (F1 []) p v)(a:2<=p.Á)(d:p.Á<=4):Ó (10+N+1) Ac [Be p,.Ý AD] v:=by
 exists N p v,h a d;cases p using i2 with
 |å=>show absurd a _0
 |Æ Bp p=>
  show ba h.inv λA d1 g a1 b h=>?_;cases p using i2 with
  |å=>show absurd a (EQ 1)
  |Æ p2 p=>
   show ba h.inv λf i j c b2 h=>?_;cases p using i2 with
   |å=>obtain rfl:=h.nil_eq;show zJ a1 b c b2
   |Æ k p=>
    show ba h.inv λl d3 m GD b3 h=>?_;cases p using i2 with
    |å=>obtain rfl:=h.nil_eq;show fs3 a1 b c b2 GD b3
    |Æ n p=>
     show ba h.inv λo q r e b4 h=>?_;cases p using i2 with
     |å=>obtain rfl:=h.nil_eq;show fs4 a1 b c b2 GD b3 e b4
     |Æ=>show absurd d (Ï.not_le.ĝ (f3 5 _))
def eM{N K:Ï}(h:Ó N f l v)(k:Ó K f l w):v=w:=by
 have:=(h (max N K) (Ï.le_max_left _ _)).symm.Ð (k (max N K) (Ï.le_max_right _ _));have:=â (λm:M D=>m.Ĉ (Ň [] [])) this;injection this
def oo(a:Ax 4 B p)(b:Ax 4 C m)(c:Ax 4 E q)(d:1<=B)(f:1<=C)(h:B+C+1<=100)(e:∀x,ev q x=ev p x+ev m x):Ó 70 Ba [F1 p,F1 m] (F1 q):=by
 show au (fk a b d f h) λr g F i=>?_;rw[<-fs g c λx=>(i x).Ð (e x).symm];show F
def fu(hk:k<=3)(b:bd 48 c)(a:Ax 4 48 p)(d:Ax 4 48 q)(e:∀x,ev q x=ev p x+c*ev (BZ k 1) x):ÂV 81 (F1 p) ((BA k c).Ö AY) (F1 q):=by
 unfold BA;by_cases h:c=0
 ·rw[à h,fs d a λx=>by rw[e,h,Q6,Db]];show .å
 ·rw[ß h];show .Æ (kI hk h (b.le _0)) (aa (oo a ((cn h b).le (i4 hk) (a3 _)) d _0 _0 _0 λx=>by rw[e,dt k c]) _0) .å
def yd(hk:k<=3)(a:c≠0)(b:bd 48 c)(h:ÂV 81 (F1 []) [mo k c] v):v=F1 (BZ k c):=by
 exists k c v,hk a b h;cases h with
 |Æ e d h=>
  rw[(eM e (kI hk a (b.le _0)))] at d;rw[h.nil_eq];have m:=(cn (k:=k) a b).le (L':=4) (i4 hk) (a3 _);show eM d (oo (Ax.mF 4 1) m m _0 _0 _0 λx=>by change _=0+_;rw[I3])
def gM(h:m∈BA k c):m.2=c:=by
 unfold BA at h;split at h
 ·cases h
 ·rw[am.mp h]
def ye(h:m∈Lm a b c d):m.2=a\/m.2=b\/m.2=c\/m.2=d:=by
 rcases dL.mp h with h|h
 ·rcases dL.mp h with h|h
  ·rcases dL.mp h with h|h
   ·show .Ġ (.Ġ (.Ġ (gM h)))
   ·show .Ġ (.Ġ (.Ę (gM h)))
  ·show .Ġ (.Ę (gM h))
 ·show .Ę (gM h)
def iw{p:Â ñ}{B:Ï}(h:∀c∈p,bd (B+1) c)(i:Ï):bd (B+1) (p.ø i 0):=by
 rw[i6];by_cases q:i<p.Á
 ·rw[ch q];show h _ (Go q)
 ·rw[J1 (Ï.le_of_not_lt q)];show dV B
def fv{B:Ï}(h:∀c∈p,bd (B+1) c){m:Mo}(a:m∈Cg p):bd (B+1) m.2:=by
 rcases ye a with e|e|e|e<;>rw[e]<;>show iw h _
def oq(h:Ax 4 48 p):ÂV 81 (F1 []) ((Cg p).Ö AY) (F1 p):=by
 exists p,h;have e:=iw h.bd;unfold Cg Lm;generalize i:p.ø 0 0=a;generalize j:p.ø 1 0=b;generalize k:p.ø 2 0=c;generalize m:p.ø 3 0=d;have r:=i▸e 0;have n:=j▸e 1;have g:=k▸e 2;have f:=m▸e 3;have z:=dV 47;show aj (bA (B:=48) (l:=[0,0,0,d]) (by simp[z,f])) λt v=>aj (bA (B:=48) (l:=[0,0,c,d]) (by simp[z,g,f])) λo v2=>aj (bA (B:=48) (l:=[0,b,c,d]) (by simp[z,n,g,f])) λq v1=>?_;rw[g1,g1,g1];have s:ÂV 81 (F1 []) ((BA 3 d).Ö AY) (F1 (AL [0,0,0,d])):=fu _0 f (Ax.mF 4 48) t λx=>by rw[v];change 0+x*(0+x*(0+x*(d+x*0)))=0+d*(0+x*(0+x*(0+x*(1+x*0))));grind
 have u:ÂV 81 (F1 (AL [0,0,0,d])) ((BA 2 c).Ö AY) (F1 (AL [0,0,c,d])):=fu _0 g t o λx=>by rw[v2,v];change 0+x*(0+x*(c+x*(d+x*0)))=0+x*(0+x*(0+x*(d+x*0)))+c*(0+x*(0+x*(1+x*0)));grind
 have w:ÂV 81 (F1 (AL [0,0,c,d])) ((BA 1 b).Ö AY) (F1 (AL [0,b,c,d])):=fu _0 n o q λx=>by rw[v1,v2];change 0+x*(b+x*(c+x*(d+x*0)))=0+x*(0+x*(c+x*(d+x*0)))+b*(0+x*(1+x*0));grind
 have y:ÂV 81 (F1 (AL [0,b,c,d])) ((BA 0 a).Ö AY) (F1 p):=fu _0 r q h λx=>by rw[v1,fq h.ŏ,i,j,k,m];change _=0+x*(b+x*(c+x*(d+x*0)))+a*(1+x*0);grind
 show((s.app u).app w).app y
def abS:Ó 20 Ac [Ag (0,1),.Ý AD] (F1 []):=aR _2
def ft4{p:Â ñ}(h:Ax 4 48 p):Ó 92 Ac [nf p,.Ý AD] (F1 p):=by
 exists p,h;have f:=oq h;rw[aY h.ŏ];have g:=(aV λc a=>(h.bd c a).le (show 48<=100 by decide)).1;have Pz:(Cg p).Á<=4:=cZ
 match e:Cg p with
 |[]=>
  rw[e] at f;rw[f.nil_eq];show aa abS _0
 |[(k,c)]=>
  have b:bd 48 c:=fv (m:=(k,c)) h.bd (by rw[e];show .Ď _);rw[e] at f g;show b_ (g _ (.Ď _)) λd a _=>?_;rw[yd d a b f];show aa (kI d a (b.le _0)) _0
 |m::n::l=>
  rw[e] at f Pz;show f.sum (by simp) (by simpa using Pz)
end
section
def FF:Â Mo->ñ->ñ
 |[],_=>0
 |m::l,x=>m.2*ev (BZ m.1 1) x+FF l x
def ed(l m:Â Mo)(x:ñ):FF (l++m) x=FF l x+FF m x:=by
 induction l with
 |å=>change FF m x=0+FF m x;rw[I3]
 |Æ a l i=>change _+FF (l++m) x=_+FF l x+FF m x;rw[i,Z6]
def gN(k:Ï)(c x:ñ):FF (BA k c) x=c*ev (BZ k 1) x:=by
 unfold BA;split
 ·rename_i h;rw[h,Q6];rfl
 ·change _+0=_;rw[Db]
def ee{p:Â ñ}(h:p.Á<=4)(x:ñ):FF (Cg p) x=ev p x:=by
 unfold Cg Lm;rw[ed,ed,ed,gN,gN,gN,gN,fq h];change _*(0+x*(0+x*(0+x*(1+x*0))))+_*(0+x*(0+x*(1+x*0)))+_*(0+x*(1+x*0))+_*(1+x*0)=_;grind
def gO{p:Â ñ}{B k:Ï}{d:ñ}(h:Ax 4 (B+1) p)(e:Cg p=[(k,d)])(hk:k<=3)(a:d≠0):p=BZ k d:=by
 have b:bd (B+1) d:=fv (m:=(k,d)) h.bd (by rw[e];show .Ď _);show fs h ((cn a b).le (L':=4) (i4 hk) (a3 _)) λx=>?_;rw[<-ee h.ŏ,e,dt k d];change _+0=_;rw[Db]
section
variable{n:Int}(hn:n∈[1,2,3])
include hn
def bx:bd 2 (n:ñ)/\(n:ñ)≠0:=by
 rcases a5.mp hn with rfl|h
 ·show{{_0,_0},_0}
 rcases a5.mp h with rfl|h
 ·show{{_0,_0},_0}
 rw[am.mp h];show{{_0,_0},_0}
def aaz:Ó 20 Ac [BX n,.Ý AD] (FS [1] n):=by
 rcases a5.mp hn with rfl|h
 ·show aR _2
 rcases a5.mp h with rfl|h
 ·show aR _2
 rw[am.mp h];show aR _2
def zy:Ó 65 Bw [AE [1],AE [(n:ñ),1]] (FS [1] n):=(uK (bx hn).1 (bx hn).2 xE _0 (a3 _) (by change ¬1+(-(n:ñ))*0=0;rw[M1,Db];decide)).1
def pU{p:Â ñ}(a:Ax 4 100 p){v:D}(h:Ó 65 Bw [AE p,AE [(n:ñ),1]] v):Ó 70 BC [F1 p,FS [1] n] v/\Ó 70 BC [FS [1] n,F1 p] v:={ie (gi a) (ku n (bx hn).1).2 h,ie (pB a) (ku n (bx hn).1).1 h}
def ftV{p:Â ñ}(b:Ax 4 48 p){d:ñ}{R V:D}(s:KH n (Cg p) d R V)(c:d≠0){v:D}(g:Ó 65 Bw [AE p,AE [(n:ñ),1]] v):Ó 110 Ac [V,.Ý AD] v:=by
 exists n p d R V v,hn b s c g;have a:=b.le (a3 4) (show 48<=100 by decide);show aj (pU hn a g) λe z=>?_;have o:∀{q},Ax 4 100 q->Ó 92 BC [.Ç [AE [1],AE [1]],F1 q] (F1 q):=λm=>aa (ft (pB m) m) _0;have f:=aa (aaz hn) (show 20<=92 by decide);generalize em:Cg p=A at s;exists A,em s;cases s with
 |w=>
  have i:=gO (B:=47) b em _0 c;subst i;by_cases h:d=1
  ·subst h;rw[dG,eM g (zy hn)];show aa f _0
  ·rw[dH h];show aa (nE (N:=92) (aa (gL c (a.bd d (am.ĝ Î))) _0) (o a) f (aa e _0)) _0
 | @x d k j=>
  exists k,j em;have i:=gO (B:=47) b em (by show ac (by assumption) _0) c;subst i;have r:Ó 92 Ac [Cy (k+1),.Ý AD] (F1 (BZ (k+1) 1)):=aa (aR (ah pT (k+1) (m3 j))) _0;by_cases h:d=1
  ·subst h;rw[dG];show aa (nE (N:=92) r (o a) f (aa e _0)) _0
  ·rw[dH h];have t:bd 100 d:=a.bd d (dL.ĝ (.Ġ (am.ĝ Î)));have y:Ax 1 100 [d]:=cn (k:=0) c t;show aa (fp3 (N:=92) (aa (gL c t) _0) (o (y.le _0 (a3 _))) r (aa (ft (zw j y) a) _0) f (aa e _0)) _0
 |u C E=>
  have l:=ft4 b;rw[aY b.ŏ,em,fp (by rw[a2];show C)] at l;rcases E with rfl|rfl
  ·show aa (nE (N:=92) l (o a) f (aa e _0)) _0
  ·show aa (nE (N:=92) f (aa (pU hn xE (zy hn)).1 _0) l (aa z _0)) _0
end
end
section
def abU{A B C:Ï}(b:Ax 3 A p)(c:Ax 3 B m)(a:Ax 4 C r)(e:∀x,ev r x=ev p x+ev m x):Ax 3 C r:=by
 show{ww (Z8 a.ŏ λq=>?_),a.AL,a.bd};have l:=a.last (YP (Ps _0 q.symm));have z:∀{l:Â ñ},l.Á<=3->l.ø 3 0=0:=λh=>by rw[i6,J1 (ac (by assumption) _0)];rfl
 show dc (vh (e:=p.ø 0 0+m.ø 0 0) (f:=p.ø 1 0+m.ø 1 0) (g:=p.ø 2 0+m.ø 2 0) (h:=0) λx=>by
  rw[<-fq a.ŏ,e,fq (ac b.ŏ _0),fq (ac c.ŏ _0),z b.ŏ,z c.ŏ];grind) λ_ _ _ d=>?_
 rw[q] at l;show l d
def Hj(L:Â Mo):Prop:=∀m∈L,m.1<=2/\m.2≠0/\bd 2 m.2
theorem Hj.BZ{L:Â Mo}{m:Mo}(h:m.1<=2/\m.2≠0/\bd 2 m.2):Ax 3 2 (BZ m.1 m.2):=(cn h.2.1 h.2.2).le (ol h.1) (a3 _)
def pV(h:m.1<=2/\m.2≠0/\bd 2 m.2):Ó 110 Ac [AY m,.Ý AD] (F1 (BZ m.1 m.2)):=aa (kI (ac h.1 _0) h.2.1 (h.2.2.le _0)) _0
def yf{L:Â Mo}:∀{p:Â ñ} {B:Ï},Hj L->Ax 3 B p->1<=B->B+3*L.Á<=100->∃q,Ax 3 (B+3*L.Á) q/\ÂV 110 (F1 p) (L.Ö AY) (F1 q)/\∀x,ev q x=ev p x+FF L x:=by
 induction L with
 |å=>show λ{p B} _ h _ _=>{p,h,.å,λx=>by change _=_+0;rw[Db]}
 |Æ m L i=>
  intro p B g h d b;rw[i3] at b;have c:=g m (.Ď _);have a:=Hj.BZ (L:=L) c;show au (fk (h.le _0 (a3 _)) (a.le _0 (a3 _)) d _0 (ac (g5 (f3 3 (3*L.Á)) B) b)) λr j F e=>au (i (λm a=>g m (.ě _ a)) (abU h a j e) (pu _) (ac (lm ((s7 B 3 _).Ð (â (B+ ·) (lc 3 _)))) b)) λq k f l=>⟨q,k.le (a3 3) (by rw[i3];show lm ((s7 B 3 _).Ð (â (B+ ·) (lc 3 _)))),.Æ (pV c) (aa F _0) f,λx=>by
   rw[l,e,dt m.1 m.2];change _=_+(_+_);rw[Z6]⟩
section
variable{n:Int}(hn:n∈[1,2,3])
include hn
def yg{L:Â Mo}:∀{f:ñ->ñ} {v:D} {B:Ï},Hj L->DS n B f v->1<=B->B+9*L.Á<=100->∃w,DS n (B+9*L.Á) (λx=>f x+FF L x*(n+x)) w/\ÂV 110 v (L.Ö AY) w:=by
 induction L with
 |å=>show λ{f v B} _ h _ _=>{v,DS.of (bx hn).1 (bx hn).2 h λx=>by change _=_+0*_;rw[Q6,Db],.å}
 |Æ m L i=>
  intro f v B g h c a;rw[i3] at a;have b:=g m (.Ď _);show ag (add_l (bx hn).1 (bx hn).2 h (Hj.BZ (L:=L) b) c _0 (ac (g5 (f3 9 (9*L.Á)) B) a)) λu F d=>ag (i (λm j=>g m (.ě _ j)) d (pu _) (ac (lm ((s7 B 9 _).Ð (â (B+ ·) (lc 9 _)))) a)) λw k f=>{w,?_,.Æ (pV b) (aa F _0) f};have e:B+9*(m::L).Á=B+2*2+5+9*L.Á:=by rw[i3];show((s7 B 9 _).Ð (â (B+ ·) (lc 9 _))).symm
  rw[e];show DS.of (bx hn).1 (bx hn).2 k λx=>by rw[dt m.1 m.2];change _=_+(_+_)*_;grind
def DS.tup(h:DS n B f v):∃A d,v= .Ç [A,d]:=by
 cases h with
 |p=>show{_,_,Î}
 |s=>show{_,_,Î}
def DS.le{B C:Ï}(h:DS n B f v)(c:B<=C):DS n C f v:=by
 cases h with
 |p a b=>show .p (a.le (a3 _) c) b
 |s a b d e=>show .s (a.le (a3 _) c) b d e
def ftW{s B:Â Mo}{f:ñ->ñ}{V v:D}(g:Hj (s++B))(l:(s++B).Á<=3)(a:1<=(s++B).Á)(c:Ó 110 Ac [V,.Ý AD] v)(h:DS n 14 f v):∃w,DS n 48 (λx=>FF (s++B) x*(n+x)+f x) w/\Ó 121 Ac [BY (s.Ö AY++V::B.Ö AY),.Ý AD] w:=by
 exists n s B f V v,hn g l a c h;rw[f4] at l a;show au (yf (L:=s) (λm b=>g m (dL.ĝ (.Ę b))) (Ax.mF 3 1) _0 (ac (g5 (li 3 (ac (bv ..) l)) 1) _0)) λq e i j=>ag (add_r (bx hn).1 (bx hn).2 e h (bv ..) _0 (ac (io (io (li 2 (g5 (li 3 (ac (bv ..) l)) 1)) 14) 5) _0)) λu F k=>ag (yg hn (L:=B) (λm b=>g m (dL.ĝ (.Ġ b))) k (pu _) (ac (ii (io (io (li 2 (g5 (li 3 (ac (bv ..) l)) 1)) 14) 5) (li 9 (ac (f3 ..) l))) _0)) λw o p=>?_;obtain⟨A,d,Î⟩:=h.tup hn;have r:=i.app (ÂV.Æ c (aa F _0) p);show{w,(DS.of (bx hn).1 (bx hn).2 o λx=>?_).le hn (by lia),?_}
 ·rw[ed,j];change(0+_)*_+_+_=_;grind
 ·have:=r.sum (by simp only[f4,a2,i3];show i4 a) (by simp only[f4,a2,i3];show i4 l);rw[fp (by simp only[f4,a2,i3];show i4 a)];show this
end
end
section
def ptN(h:Ax 4 100 r):Ó 86 AN [AE r,Es] (nf r):=by
 by_cases l:r.Á=4
 ·show rQ h l
 ·show aa (dX {ww (Z8 h.ŏ l),h.AL,h.bd}) _0
def in_1(h:Ax 4 100 r):Ó 96 Cc [F1 r,.Ý AD] (nf r):=
 sr (n:=10) (hk:=0) (S:=[AN,Ae]) (os:=[nf r]) (ŋ:=[]) (.Æ (c:=cF AN [AE r,Es] (nf r)) (ptN h) .å) _2
section
variable{n:Int}(hn:n∈[1,2,3])
include hn
def abW:Ó 86 AN [AE [(n:ñ),1],Es] (LA n):=by
 have r:Row 100 [(n:ñ),1]:=⟨by simp,λd a=>by(have z:=al a;clear a;subst z);show(by decide:(1:ñ)≠0),λd a=>by
  rcases a5.mp a with rfl|h
  ·show(bx hn).1.le _0
  ·rw[am.mp h];show kg 99⟩
 have:=dX r;rw[show nf [(n:ñ),1]=LA n by
  rcases a5.mp hn with rfl|h
  ·kernel_rfl
  rcases a5.mp h with rfl|h
  ·kernel_rfl
  rw[am.mp h];kernel_rfl] at this
 show aa this _0
def vl:Ó 40 Ae [BX n] (BX n):=by
 rcases a5.mp hn with rfl|h
 ·show sr (N:=0) (n:=40) (hk:=0) (S:=[]) (os:=[]) (ŋ:=[]) .å _2
 rcases a5.mp h with rfl|h
 ·show sr (N:=0) (n:=40) (hk:=0) (S:=[]) (os:=[]) (ŋ:=[]) .å _2
 rw[am.mp h];show sr (N:=0) (n:=40) (hk:=0) (S:=[]) (os:=[]) (ŋ:=[]) .å _2
def abX{r:Â ñ}(h:Ax 4 100 r){V:D}(g:Ó 50 As [.É [nf r,BX n]] V):Ó 97 Cc [FS r n,.Ý AD] V:=by
 exists n r V,hn h g;have s:Ó 87 Ae [Aj [nf r,BX n]] V:=sp2 (fo h) (aa (vl hn) _0) (aa g _0);have p:=abW hn;have a:Hs (Hc 87) [cF Ae [Aj [nf r,BX n]] V,cF AN [AE [(n:ñ),1],Es] (LA n),cF AN [AE r,Es] (nf r)]:=.Æ s (.Æ (aa p _0) (.Æ (aa (ptN h) _0) .å));rcases a5.mp hn with rfl|h
 ·show sr (n:=10) (hk:=0) (S:=[AN,Ae]) (os:=[nf r,LA 1,V]) (ŋ:=[]) a _2
 rcases a5.mp h with rfl|h
 ·show sr (n:=10) (hk:=0) (S:=[AN,Ae]) (os:=[nf r,LA 2,V]) (ŋ:=[]) a _2
 obtain rfl:=am.mp h;show sr (n:=10) (hk:=0) (S:=[AN,Ae]) (os:=[nf r,LA 3,V]) (ŋ:=[]) a _2
end
def Let.le(h:Let t b m)(hk:m<=k):Let t b k:=au h.h λM a c d=>{M,a,c,ac d hk}
def Lets.app(h:Lets l b m)(q:Lets k c n):Lets (l++k) (b||c) (m+n):=by
 induction h with
 |å=>rw[s6];show q
 |Æ a _ i=>rw[é.or_assoc,s7];show .Æ a i
def kJ{k:Ï}(h:k<3):Let (Cy (k+1)) Ä 3:=by
 match k,h with
 |0,_=>show kF.le _0
 |1,_=>show iq kF (bl (2,1))
 |2,_=>show iq kF (bl (3,1))
def yh(c:ñ)(hk:k<=3):∃b,Let (mo k c) b 5/\(1<=k->b=Ä):=by
 match k,hk with
 |0,_=>show{_,(bl _).le _0,λh=>absurd h _0}
 |k+1,hk=>
  have x:=kJ (ac (by assumption) _0);by_cases h:c=1
  ·subst h;rw[dZ];show{_,x.le _0,λ_=>rfl}
  ·rw[dF h];show{_,cE (by simp) (.Æ (bl _) (.Æ x .å)),λ_=>rfl}
def fw{L:Â Mo}(h:∀m∈L,m.1<=3):∃b,Lets (L.Ö AY) b (5*L.Á)/\((∃m∈L,1<=m.1)->b=Ä):=by
 induction L with
 |å=>show{_,.å,λ⟨_,h,_⟩=>nomatch h}
 |Æ m L i=>
  show ag (yh m.2 (h m (.Ď _))) λb e f=>ag (i λm g=>h m (.ě _ g)) λc j l=>{b||c,by rw[i3,Ï.mul_add,lc];show .Æ e j,λ⟨k,a,d⟩=>?_};rcases a5.mp a with rfl|a
  ·rw[f d];rfl
  ·rw[l {k,a,d},acv]
def ez(n:ä):Let (BX n) Ä 5:=iq (ip (by simp) (.Æ kF (.Æ (bl (n,1)) .å))) (bl (-1,1))
def vm{R V:D}(h:KH n c d R V)(e:∀m∈c,m.1<=3)(a:c.Á<=4):Let V Ä 30:=by
 exists n c d R V,h e a;cases h with
 |w=>
  by_cases h:d=1
  ·subst h;rw[dG];show(ez n).le _0
  ·rw[dH h];show(cE (by simp) (.Æ (bl _) (.Æ (ez n) .å))).le _0
 |x k=>
  by_cases h:d=1
  ·subst h;rw[dG];show(cE (by simp) (.Æ (kJ k) (.Æ (ez n) .å))).le _0
  ·rw[dH h];show(cE (by simp) (.Æ (bl _) (.Æ (kJ k) (.Æ (ez n) .å)))).le _0
 |u _ f=>
  show ag (fw e) λb g _=>?_;have s:=ip (by rw[a2];show a) g;rcases f with rfl|rfl
  ·have:=cE (by simp) (.Æ s (.Æ (ez n) .å));rw[show(b||(Ä||Å))=Ä by induction b using ci<;>rfl] at this;show this.le (ac (io (io (io (li 5 a) 1) 5) 1) _0)
  ·show(cE (by simp) (.Æ (ez n) (.Æ s .å))).le (ac (io (g5 (io (li 5 a) 1) 5) 1) _0)
def mG(a:l.Á<=4)(h:Lets l b m):Let (BY l) b (m+1):=by
 rcases l with _|⟨t,_|⟨u,l⟩⟩
 ·cases h;show bl (0,1)
 ·rcases h with _|⟨h,_|_⟩;rw[aaX];show h.le (bv ..)
 ·show ip a h
def vn{t w V:D}{m N:Ï}(h:Let t Ä m)(a:m<=1000)(b:∃A d,w= .Ç [A,d])(f:Ó N Ac [t,.Ý AD] w)(i:Ó N Cc [w,.Ý AD] V)(e:22<=N):Ó (10+N) AM [t] V:=by
 obtain⟨A,d,Î⟩:=b;show sr (N:=N) (k:=10) (n:=10) (hk:=0) (S:=[Ao,Ac,Cc,DL]) (os:=[.É [.Ý AD],.Ç [A,d],V]) (ŋ:=[]) (.Æ (c:=cF Cc [.Ç [A,d],.Ý AD] V) i (.Æ (c:=cF Ac [t,.Ý AD] (.Ç [A,d])) f (.Æ (c:=cF Ao [t] (.É [.Ý AD])) (aa (ew h a) e) .å))) _2
def abY{m N:Ï}(h:Let t Å m)(a:m<=1000)(e:Ó N DL [t] V)(b:22<=N):Ó (10+N) AM [t] V:=
 sr (n:=10) (hk:=0) (S:=[Ao,Ac,Cc,DL]) (os:=[.É [],V]) (ŋ:=[]) (.Æ (c:=cF DL [t] V) e (.Æ (c:=cF Ao [t] (.É [])) (aa (ew h a) b) .å)) _2
end
section
section
variable{a b:Rat}{j k:Nat}(ha:bd j a)(hb:bd k b)(h:j+k<=8000)
include ha hb h
def kK(c:x.ï<2^j)(d:y.ï<2^k):AX x y=Ä:=im.ĝ {aM c (ac (bv ..) h),aM d (ac (f3 ..) h)}
def aaA(c:x.ï<2^k)(d:y.ï<2^j):AX x y=Ä:=im.ĝ {aM c (ac (f3 ..) h),aM d (ac (bv ..) h)}
def vo:sm ((a.þ)*(b.þ))=Ä:=aM (by rw[nw];show ÀW ha.2 hb.2) h
def cA:AX a.õ b.þ=Ä/\AX b.õ a.þ=Ä/\AX a.þ b.þ=Ä/\Ó 1 Aq [.Ê (a.õ*b.þ+b.õ*a.þ),.Ê (a.þ*b.þ)] (AB (a+b)):=⟨kK ha hb h ha.1 hb.2,aaA ha hb h hb.1 ha.2,kK ha hb h ha.2 hb.2,by
 rw[kf];show bt _ _ (pc (aB a) (aB b)) (vo ha hb h)⟩
def fx:AX a.õ b.õ=Ä/\AX a.þ b.þ=Ä/\Ó 1 Aq [.Ê (a.õ*b.õ),.Ê (a.þ*b.þ)] (AB (a*b)):=⟨kK ha hb h ha.1 hb.1,kK ha hb h ha.2 hb.2,by
 rw[fe];show bt _ _ (pc (aB a) (aB b)) (vo ha hb h)⟩
end
def ls2{Bp p2:D}(h:1<=N)(e:Ó N Ad [Bp,.Ê x,.Ê y] (AB q1))(b:bd 400 q1)(f:Ó N Ad [p2,.Ê x,.Ê y] (AB q))(b2:bd 400 q):Ó (10+N+1) Ad [Be [Bp,p2],.Ê x,.Ê y] (AB (((0:ñ)+q1)+q)):=by
 have d:=(dV 0);have k:=cA d b _0;have a:=cA (d.ŧ b) b2 _0;show sb (n:=10) (S:=[Ad,Aq]) (t:=Dr) rfl _ (os:=[AB q1,AB ((0:ñ)+q1),AB q,AB (((0:ñ)+q1)+q)]) rfl (.Æ (c:=.É [.Ý Aq,.É [.Ê _,.Ê _],AB (((0:ñ)+q1)+q)]) (aa a.2.2.2 h) (.Æ (c:=.Ç [.Ê _,.Ê _]) a.2.2.1 (.Æ (c:=.Ç [.Ê _,.Ê _]) a.2.1 (.Æ (c:=.Ç [.Ê _,.Ê _]) a.1 (.Æ (c:=.É [.Ý Ad,.É [p2,.Ê x,.Ê y],AB q]) f (.Æ (c:=.É [.Ý Aq,.É [.Ê _,.Ê _],AB ((0:ñ)+q1)]) (aa k.2.2.2 h) (.Æ (c:=.Ç [.Ê _,.Ê _]) k.2.2.1 (.Æ (c:=.Ç [.Ê _,.Ê _]) k.2.1 (.Æ (c:=.Ç [.Ê _,.Ê _]) k.1 (.Æ (c:=.É [.Ý Ad,.É [Bp,.Ê x,.Ê y],AB q1]) e .å)))))))))) _2
def ls3{Bp p2 p:D}{x y:ä}(h:1<=N)(i:Ó N Ad [Bp,.Ê x,.Ê y] (AB q1))(e:bd 400 q1)(j:Ó N Ad [p2,.Ê x,.Ê y] (AB q))(b2:bd 400 q)(l:Ó N Ad [p,.Ê x,.Ê y] (AB a))(b3:bd 400 a):Ó (10+N+1) Ad [Be [Bp,p2,p],.Ê x,.Ê y] (AB ((((0:ñ)+q1)+q)+a)):=by
 have f:=(dV 0);have k:=cA f e _0;have g:=f.ŧ e;have b:=cA g b2 _0;have d:=cA (g.ŧ b2) b3 _0;show sb (n:=10) (S:=[Ad,Aq]) (t:=Dr) rfl _ (os:=[AB q1,AB ((0:ñ)+q1),AB q,AB (((0:ñ)+q1)+q),AB a,AB ((((0:ñ)+q1)+q)+a)]) rfl (.Æ (c:=.É [.Ý Aq,.É [.Ê _,.Ê _],AB ((((0:ñ)+q1)+q)+a)]) (aa d.2.2.2 h) (.Æ (c:=.Ç [.Ê _,.Ê _]) d.2.2.1 (.Æ (c:=.Ç [.Ê _,.Ê _]) d.2.1 (.Æ (c:=.Ç [.Ê _,.Ê _]) d.1 (.Æ (c:=.É [.Ý Ad,.É [p,.Ê x,.Ê y],AB a]) l (.Æ (c:=.É [.Ý Aq,.É [.Ê _,.Ê _],AB (((0:ñ)+q1)+q)]) (aa b.2.2.2 h) (.Æ (c:=.Ç [.Ê _,.Ê _]) b.2.2.1 (.Æ (c:=.Ç [.Ê _,.Ê _]) b.2.1 (.Æ (c:=.Ç [.Ê _,.Ê _]) b.1 (.Æ (c:=.É [.Ý Ad,.É [p2,.Ê x,.Ê y],AB q]) j (.Æ (c:=.É [.Ý Aq,.É [.Ê _,.Ê _],AB ((0:ñ)+q1)]) (aa k.2.2.2 h) (.Æ (c:=.Ç [.Ê _,.Ê _]) k.2.2.1 (.Æ (c:=.Ç [.Ê _,.Ê _]) k.2.1 (.Æ (c:=.Ç [.Ê _,.Ê _]) k.1 (.Æ (c:=.É [.Ý Ad,.É [Bp,.Ê x,.Ê y],AB q1]) i .å))))))))))))))) _2
def ls4{Bp p2 p g:D}{q1 q a b:ñ}{N:Ï}{x y:ä}(h:1<=N)(o:Ó N Ad [Bp,.Ê x,.Ê y] (AB q1))(i:bd 400 q1)(r:Ó N Ad [p2,.Ê x,.Ê y] (AB q))(b2:bd 400 q)(s:Ó N Ad [p,.Ê x,.Ê y] (AB a))(b3:bd 400 a)(u:Ó N Ad [g,.Ê x,.Ê y] (AB b))(b4:bd 400 b):Ó (10+N+1) Ad [Be [Bp,p2,p,g],.Ê x,.Ê y] (AB (((((0:ñ)+q1)+q)+a)+b)):=by
 have j:=(dV 0);have k:=cA j i _0;have l:=j.ŧ i;have d:=cA l b2 _0;have m:=l.ŧ b2;have e:=cA m b3 _0;have f:=cA (m.ŧ b3) b4 _0;show sb (n:=10) (S:=[Ad,Aq]) (t:=Dr) rfl _ (os:=[AB q1,AB ((0:ñ)+q1),AB q,AB (((0:ñ)+q1)+q),AB a,AB ((((0:ñ)+q1)+q)+a),AB b,AB (((((0:ñ)+q1)+q)+a)+b)]) rfl (.Æ (c:=.É [.Ý Aq,.É [.Ê _,.Ê _],AB (((((0:ñ)+q1)+q)+a)+b)]) (aa f.2.2.2 h) (.Æ (c:=.Ç [.Ê _,.Ê _]) f.2.2.1 (.Æ (c:=.Ç [.Ê _,.Ê _]) f.2.1 (.Æ (c:=.Ç [.Ê _,.Ê _]) f.1 (.Æ (c:=.É [.Ý Ad,.É [g,.Ê x,.Ê y],AB b]) u (.Æ (c:=.É [.Ý Aq,.É [.Ê _,.Ê _],AB ((((0:ñ)+q1)+q)+a)]) (aa e.2.2.2 h) (.Æ (c:=.Ç [.Ê _,.Ê _]) e.2.2.1 (.Æ (c:=.Ç [.Ê _,.Ê _]) e.2.1 (.Æ (c:=.Ç [.Ê _,.Ê _]) e.1 (.Æ (c:=.É [.Ý Ad,.É [p,.Ê x,.Ê y],AB a]) s (.Æ (c:=.É [.Ý Aq,.É [.Ê _,.Ê _],AB (((0:ñ)+q1)+q)]) (aa d.2.2.2 h) (.Æ (c:=.Ç [.Ê _,.Ê _]) d.2.2.1 (.Æ (c:=.Ç [.Ê _,.Ê _]) d.2.1 (.Æ (c:=.Ç [.Ê _,.Ê _]) d.1 (.Æ (c:=.É [.Ý Ad,.É [p2,.Ê x,.Ê y],AB q]) r (.Æ (c:=.É [.Ý Aq,.É [.Ê _,.Ê _],AB ((0:ñ)+q1)]) (aa k.2.2.2 h) (.Æ (c:=.Ç [.Ê _,.Ê _]) k.2.2.1 (.Æ (c:=.Ç [.Ê _,.Ê _]) k.2.1 (.Æ (c:=.Ç [.Ê _,.Ê _]) k.1 (.Æ (c:=.É [.Ý Ad,.É [Bp,.Ê x,.Ê y],AB q1]) o .å)))))))))))))))))))) _2
def vp{Bp p2:D}{q1 q:ñ}{N:Ï}(h:1<=N)(e:Ó N Ad [Bp,.Ê x,.Ê y] (AB q1))(b:bd 400 q1)(f:Ó N Ad [p2,.Ê x,.Ê y] (AB q))(b2:bd 400 q):Ó (10+N+1) Ad [Aj [Bp,p2],.Ê x,.Ê y] (AB (((1:ñ)*q1)*q)):=by
 have d:=(kg 0);have k:=fx d b _0;have a:=fx (d.ļ b) b2 _0;show sb (n:=10) (S:=[Ad,Aq]) (t:=Dr) rfl _ (os:=[AB q1,AB ((1:ñ)*q1),AB q,AB (((1:ñ)*q1)*q)]) rfl (.Æ (c:=.É [.Ý Aq,.É [.Ê _,.Ê _],AB (((1:ñ)*q1)*q)]) (aa a.2.2 h) (.Æ (c:=.Ç [.Ê _,.Ê _]) a.2.1 (.Æ (c:=.Ç [.Ê _,.Ê _]) a.1 (.Æ (c:=.É [.Ý Ad,.É [p2,.Ê x,.Ê y],AB q]) f (.Æ (c:=.É [.Ý Aq,.É [.Ê _,.Ê _],AB ((1:ñ)*q1)]) (aa k.2.2 h) (.Æ (c:=.Ç [.Ê _,.Ê _]) k.2.1 (.Æ (c:=.Ç [.Ê _,.Ê _]) k.1 (.Æ (c:=.É [.Ý Ad,.É [Bp,.Ê x,.Ê y],AB q1]) e .å)))))))) _2
def lp3{Bp p2 p:D}{q1 q a:ñ}{N:Ï}(h:1<=N)(i:Ó N Ad [Bp,.Ê x,.Ê y] (AB q1))(e:bd 400 q1)(j:Ó N Ad [p2,.Ê x,.Ê y] (AB q))(b2:bd 400 q)(l:Ó N Ad [p,.Ê x,.Ê y] (AB a))(b3:bd 400 a):Ó (10+N+1) Ad [Aj [Bp,p2,p],.Ê x,.Ê y] (AB ((((1:ñ)*q1)*q)*a)):=by
 have f:=(kg 0);have k:=fx f e _0;have g:=f.ļ e;have b:=fx g b2 _0;have d:=fx (g.ļ b2) b3 _0;show sb (n:=10) (S:=[Ad,Aq]) (t:=Dr) rfl _ (os:=[AB q1,AB ((1:ñ)*q1),AB q,AB (((1:ñ)*q1)*q),AB a,AB ((((1:ñ)*q1)*q)*a)]) rfl (.Æ (c:=.É [.Ý Aq,.É [.Ê _,.Ê _],AB ((((1:ñ)*q1)*q)*a)]) (aa d.2.2 h) (.Æ (c:=.Ç [.Ê _,.Ê _]) d.2.1 (.Æ (c:=.Ç [.Ê _,.Ê _]) d.1 (.Æ (c:=.É [.Ý Ad,.É [p,.Ê x,.Ê y],AB a]) l (.Æ (c:=.É [.Ý Aq,.É [.Ê _,.Ê _],AB (((1:ñ)*q1)*q)]) (aa b.2.2 h) (.Æ (c:=.Ç [.Ê _,.Ê _]) b.2.1 (.Æ (c:=.Ç [.Ê _,.Ê _]) b.1 (.Æ (c:=.É [.Ý Ad,.É [p2,.Ê x,.Ê y],AB q]) j (.Æ (c:=.É [.Ý Aq,.É [.Ê _,.Ê _],AB ((1:ñ)*q1)]) (aa k.2.2 h) (.Æ (c:=.Ç [.Ê _,.Ê _]) k.2.1 (.Æ (c:=.Ç [.Ê _,.Ê _]) k.1 (.Æ (c:=.É [.Ý Ad,.É [Bp,.Ê x,.Ê y],AB q1]) i .å)))))))))))) _2
end
section
def yi:AR (λx:ä=>AR (λk=>It Ad [Cy k,.Ê x,.Ê 0]) [1,2,3]) [0,1,3]=[0,1,3].Ö λx:ä=>[1,2,3].Ö λk=>.ok (AB (ev (BZ k 1) (x:ñ))) (Ň [] []):=_2
def yj:AR (λn:ä=>AR (λx:ä=>It Ad [BX n,.Ê x,.Ê 0]) [0,1,3]) [1,2,3]=[1,2,3].Ö λn:ä=>[0,1,3].Ö λx:ä=>.ok (AB (1/((n:ñ)+(x:ñ)))) (Ň [] []):=_2
def SH(k:Ï)(q:ñ):é:=s4 (q.õ.ï+1) (2^k)&&s4 (q.þ+1) (2^k)
def kL(h:SH k q=Ä):bd k q:={be (af h),be (ae h)}
def kM:([0,1,3].ş λx:ä=>SH 2 (x:ñ)&&([0,1,2,3].ş λk=>SH 10 (ev (BZ k 1) (x:ñ)))&&[1,2,3].ş λn:ä=>SH 10 (1/((n:ñ)+(x:ñ)))&& !decide ((n:ñ)+(x:ñ)=0))=Ä:=_2
def El:Â ñ->ñ
 |[]=>0
 |q::l=>q+El l
def rU(l m:Â ñ):El (l++m)=El l+El m:=by
 induction l with
 |å=>change El m=0+El m;rw[I3]
 |Æ a l i=>change _+El (l++m)=_+El l+El m;rw[i,Z6]
inductive Kq(N:Ï)(x y:ä):Â D->Â ñ->Prop
 |å:Kq N x y [] []
 |Æ {p q s HT}:Ó N Ad [p,.Ê x,.Ê y] (AB q)->bd 400 q->Kq N x y s HT->Kq N x y (p::s) (q::HT)
def Kq.app{HT q:Â ñ}(h:Kq N x y p HT)(k:Kq N x y s q):Kq N x y (p++s) (HT++q):=by
 induction h with
 |å=>show k
 |Æ a b _ i=>show .Æ a b i
def pW{HT:Â ñ}(c:1<=N)(h:Kq N x y p HT)(d:2<=p.Á)(i:p.Á<=4):Ó (10+N+1) Ad [Be p,.Ê x,.Ê y] (AB (El HT)):=by
 exists N x y p HT,c h d i;cases h with
 |å=>show absurd d _0
 | @Æ _ q _ _ a1 e h=>cases h with
  |å=>show absurd d (by simp)
  | @Æ _ a _ _ f b2 h=>cases h with
   |å=>
    rw[show El [q,a]=0+q+a by change q+(a+0)=_;grind];show ls2 c a1 e f b2
   | @Æ _ b _ _ GD b3 h=>cases h with
    |å=>
     rw[show El [q,a,b]=0+q+a+b by change q+(a+(b+0))=_;grind];show ls3 c a1 e f b2 GD b3
    | @Æ _ g _ _ j b4 h=>cases h with
     |å=>
      rw[show El [q,a,b,g]=0+q+a+b+g by change q+(a+(b+(g+0)))=_;grind];show ls4 c a1 e f b2 GD b3 j b4
     |Æ=>show absurd i (by simp)
def fy(c:ä×ä)(x y:ä):Ó 20 Ad [Ag c,.Ê x,.Ê y] (.Ç [.Ê c.1,.Ê c.2]):=aR _2
def aaB{B K:Ï}(a:bd K x){p:Â ñ}(h:∀c∈p,bd B c):bd (1+p.Á*(B+K+1)) (ev p x):=by
 induction p with
 |å=>show(dV 0).le (by simp)
 |Æ c p i=>show((h c (.Ď _)).ŧ (a.ļ (i λd b=>h d (.ě _ b)))).le (by rw[i3,Ï.succ_mul];lia)
section
variable{x:Int}(hx:x∈[0,1,3])
include hx
def abZ:bd 2 (x:ñ):=kL (af (af (an.mp kM x hx)))
def vq{k:Ï}(hk:k<=3):bd 10 (ev (BZ k 1) (x:ñ)):=kL (an.mp (ae (af (an.mp kM x hx))) k (m4 hk))
def vt{n:ä}(h:n∈[1,2,3]):bd 10 (1/((n:ñ)+(x:ñ)))/\(n:ñ)+(x:ñ)≠0:=by
 have:=an.mp (ae (an.mp kM x hx)) n h;show{kL (af this),š ((wP _).mp (ae this))}
def zz{k:Ï}(hk:k<3):Ó 20 Ad [Cy (k+1),.Ê x,.Ê 0] (AB (ev (BZ (k+1) 1) (x:ñ))):=aR (ah (ah yi x hx) (k+1) (m3 hk))
def ab0(h:n∈[1,2,3]):Ó 20 Ad [BX n,.Ê x,.Ê 0] (AB (1/((n:ñ)+(x:ñ)))):=aR (ah (ah yj n h) x hx)
def vu(hk:k<=3)(b:bd 100 c):Ó 31 Ad [mo k c,.Ê x,.Ê 0] (AB (c*ev (BZ k 1) (x:ñ)))/\bd 400 (c*ev (BZ k 1) (x:ñ)):=by
 show{?_,(b.ļ (vq hx hk)).le _0}
 match k,hk with
 |0,_=>
  rw[show c*ev (BZ 0 1) (x:ñ)=c by change c*(1+(x:ñ)*0)=c;grind];show aa (fy (c.õ,c.þ) x 0) _0
 |k+1,hk=>
  have f:=zz hx (ac (by assumption) _0);by_cases h:c=1
  ·subst h;rw[dZ,A1];show aa f _0
  ·have l:=vp _0 (fy (c.õ,c.þ) x 0) (b.le _0) f ((vq hx hk).le _0);rw[A1] at l;rw[dF h];show l
def kN{L:Â Mo}(h:∀m∈L,m.1<=3/\bd 100 m.2):∃HT,Kq 31 x 0 (L.Ö AY) HT/\El HT=FF L x:=by
 induction L with
 |å=>show{[],.å,Î}
 |Æ m L i=>show ag (i λk c=>h k (.ě _ c)) λHT d e=>aj (h m (.Ď _)) λa b=>aj (vu hx a b) λf g=>{_,.Æ f g d,by change _+El HT=_+_;rw[e]}
def kO(h:Ax 4 100 r):Ó 42 Ad [nf r,.Ê x,.Ê 0] (AB (ev r (x:ñ))):=by
 rw[aY h.ŏ,<-ee h.ŏ];have g:=(aV h.bd).1;have Pz:(Cg r).Á<=4:=cZ
 match e:Cg r with
 |[]=>show aa (fy (0,1) x 0) _0
 |[m]=>
  rw[e] at g;show b_ (g m (.Ď _)) λa _ b=>?_;rw[show FF [m] x=m.2*ev (BZ m.1 1) x by change _+0=_;rw[Db]];show aa (vu hx a b).1 _0
 |m::k::l=>
  rw[e] at g Pz;show ag (kN hx λm c=>{(g m c).1,(g m c).2.2}) λHT d f=>?_;rw[<-f];show pW _0 d (by simp) (by simpa using Pz)
def pX(h:Ax 4 48 p):bd 300 (ev p (x:ñ)):=(aaB (abZ hx) h.bd).le (by have:=h.ŏ;have:p.Á*(48+2+1)<=4*51:=Yd _ h.ŏ;show ac (g5 this 1) _0)
def pY{n:ä}(b:n∈[1,2,3]){p:Â ñ}(a:Ax 4 48 p){d:ñ}{R V:D}(s:KH n (Cg p) d R V)(c:d≠0):Ó 60 Ad [V,.Ê x,.Ê 0] (AB (ev p (x:ñ)*(1/((n:ñ)+(x:ñ)))))/\bd 400 (ev p (x:ñ)*(1/((n:ñ)+(x:ñ)))):=by
 exists x n p d R V,hx b a s c;have e:=a.le (a3 4) (show 48<=100 by decide);show aj (vt hx b) λj _=>?_;have q:=j.le (show 10<=400 by decide);show{?_,((pX hx a).ļ j).le _0};have FT:=ab0 hx b;generalize em:Cg p=t at s;exists t,em s;cases s with
 |w=>
  have g:=gO a em _0 c;subst g;rw[dt,show ev (BZ 0 1) (x:ñ)=1 by change 1+(x:ñ)*0=1;grind,Ys];by_cases h:d=1
  ·subst h;rw[dG,A1];show aa FT _0
  ·have l:=vp _0 (fy (d.õ,d.þ) x 0) (q1:=d) ((e.bd d (am.ĝ Î)).le _0) FT q;rw[A1] at l;rw[dH h];show aa l _0
 | @x d k m=>
  exists k,m em;have g:=gO (B:=47) a em (by show ac (by assumption) _0) c;subst g;have f:=zz hx m;have o:=(vq hx (k:=k+1) (by show ac (by assumption) _0)).le (show 10<=400 by decide);have v:bd 400 d:=(e.bd d (dL.ĝ (.Ġ (am.ĝ Î)))).le _0;rw[dt];by_cases h:d=1
  ·subst h;have l:=vp (N:=20) _0 f o FT q;rw[A1] at l;rw[dG,A1];show aa l _0
  ·have l:=lp3 (N:=20) _0 (fy (d.õ,d.þ) x 0) (q1:=d) v f o FT q;rw[A1] at l;rw[dH h];show aa l _0
 |u y z=>
  have i:=kO hx e;rw[aY a.ŏ,em,fp (by rw[a2];show y)] at i;have r:=(pX hx a).le (show 300<=400 by decide);rcases z with rfl|rfl
  ·have l:=vp (N:=42) _0 i r (aa FT _0) q;rw[A1] at l;show aa l _0
  ·have l:=vp (N:=42) _0 (aa FT _0) q i r;rw[A1,YE] at l;show aa l _0
def ab1(g:∀m∈A++B,m.1<=3/\bd 100 m.2)(d:(A++B).Á<=3)(l:1<=(A++B).Á)(e:Ó 60 Ad [V,.Ê x,.Ê 0] (AB v))(f:bd 400 v):Ó 71 Ad [BY (A.Ö AY++V::B.Ö AY),.Ê x,.Ê 0] (AB (FF (A++B) x+v)):=by
 rw[f4] at d l;show ag (kN hx λm c=>g m (dL.ĝ (.Ę c))) λi j k=>ag (kN hx λm c=>g m (dL.ĝ (.Ġ c))) λq n o=>?_;have u:∀{p HT},Kq 31 x 0 p HT->Kq 60 x 0 p HT:=λh=>by
  induction h with
  |å=>show .å
  |Æ a b _ r=>show .Æ (aa a _0) b r
 rw[fp (by simp only[f4,a2,i3];show i4 l)];rw[show FF (A++B) x+v=El (i++v::q) by rw[ed,rU,k];change _=_+(_+El q);rw[o];grind];show(pW _0 ((u j).app (.Æ e f (u n))) (by simp only[f4,a2,i3];show i4 l) (by simp only[f4,a2,i3];show i4 d))
end
end
section
def vv{N n k d:Ï}{hk:Ï}{S:Â Þ}{s:XS}{ρ:Aa}{r:Aa×Ë D}{os ŋ c:Â D}(h:k+N<=d)(a:Hs (Hc N) c)(Ĉ:((s.HS {Cj,DT,RN hk S n k,Hb n,Ã} hk).f ρ).Ĉ (Ň os [])= .ok r (Ň ŋ c)):s.ex (iF d) ρ=Ñ r:=Ō.told (xA (mm h) s ρ) Ĉ a
def Rg:XE:=.cmp .ne (.Đ 2) (.Đ 1)
def UM:Bc:=.Æ (.par Ä [(.ê (.Đ 2)),(.ê (.ň CM (.Æ (.Đ 2) .å)))] [1,2]) .å
def ne_self{v:D}(h:AV v=Ä):B_ .ne v v=Ñ (.Ù Å):=by
 have a:v.Àx=Ä:=af h;change(if(AV v&&AV v)=Ä then Ñ (f2 v v) else M.Û:M é)>>=_=_;rw[h];change(Ñ (f2 v v)>>=_:M D)=_;rw[Yb _ a];rfl
def yk{c:ä×ä}(s:Ó 76 Ae [Ag c] (Ag c)):Ó 80 DL [Ag c] (Ag c):=λd h=>by
 exists c d,s h;obtain⟨d,Î⟩:=eD h;exists d,h;have a:Rg.ev (iF d) [À (.ê (Ag c)),À (.ê .Ã),À (.ê (Ag c))]>>=Aw=Ñ Ä:=_2
 have g:Rg.ev (iF d) [À (.ê (Ag c)),À (.ê (Ag c)),À (.ê (Ag c))]>>=Aw=Ñ Å:=by
  change(B_ .ne (Ag c) (Ag c)>>=Aw)=_;rw[ne_self _2];rfl
 have f:Ó 20 CM [Ag c] (Ag c):=aR _2;have b:UM.ex (iF d) [À (.ê (Ag c)),À (.ê .Ã),À (.ê (Ag c))]=Ñ ([À (.ê (Ag c)),À (.ê (Ag c)),À (.ê (Ag c))],Ã):=
  dT (N:=20) (k:=10) (n:=10) (hk:=0) (S:=[CM]) (os:=[Ag c]) (ŋ:=[]) (kW h) (.Æ (c:=cF CM [Ag c] (Ag c)) f .å) _2
 have e:=nZ (c:=λi=>Rg.ev (iF d) i>>=Aw) a b (kb (n:=0) g);have w:XS.ex (iF d) (.while Rg UM) [À (.ê (Ag c)),À (.ê .Ã),À (.ê (Ag c))]=Ñ ([À (.ê (Ag c)),À (.ê (Ag c)),À (.ê (Ag c))],Ã):=hQ Î e;have p:XS.ex (iF d) (.par Ä [(.ê .Ã),(.ê (.ň Ae (.Æ (.Đ 0) .å)))] [1,2]) [À (.ê (Ag c)),Ã,Ã]=Ñ ([À (.ê (Ag c)),À (.ê .Ã),À (.ê (Ag c))],Ã):=
  vv (N:=76) (k:=3) (n:=10) (hk:=0) (S:=[Ae]) (os:=[Ag c]) (ŋ:=[]) (kW h) (.Æ (c:=cF Ae [Ag c] (Ag c)) s .å) _2
 rw[show R (d+1) DL ([Ag c].Ö .ê)=_ from bS (t:=Lk) rfl Î];change Bc.ex (iF d) (.Æ (.par Ä [(.ê .Ã),(.ê (.ň Ae (.Æ (.Đ 0) .å)))] [1,2]) (.Æ (.while Rg UM) (.Æ (.Ũ (.Đ 2)) .å))) [À (.ê (Ag c)),Ã,Ã]>>=Cf=_;rw[bN p,bN w];rfl
def yl(d c b a:ä×ä):(HT.ş λq=>AV (BY (Rq d c b a q)))=Ä:=_2
def vw{r:Â ñ}(h:r.Á<=4):AV (nf r)=Ä:=by
 exists r,h;rw[aY h];unfold Cg;generalize r.ø 0 0=a;generalize r.ø 1 0=b;generalize r.ø 2 0=c;generalize r.ø 3 0=d;show au (ey 2 d) λi f g _=>au (ey 1 c) λj k n _=>au (ey 0 b) λl o s _=>au (pS a) λm t u _=>?_;have em:(Lm a b c d).Ö AY=Rq (Bs d) (Bs c) (Bs b) (Bs a) (i,j,l,m):=by
  unfold Lm Rq;rw[g1,g1,g1,g,n,s,u]
 have q:=an.mp (an.mp (an.mp (an.mp pR i f) j k) l o) m t;show ag (ms.mp q) λp v e=>?_;rw[em];show an.mp (yl (Bs d) (Bs c) (Bs b) (Bs a)) _ (Ø e▸v)
def zA(n:ä)(c:ä×ä):(AV (Aj [Ag c,BX n])&&[1,2,3].ş λk=>AV (Aj [Ag c,Cy k,BX n]))=Ä:=_2
def ab2{n:ä}{P R V:D}{m:Â Mo}{d:ñ}(h:Jc n P d R V)(a:KH n m d R V):AV V=Ä:=by
 exists n P R V m d,h a;have s:=bV h.ok;cases a with
 |w=>
  by_cases q:d=1
  ·subst q;rw[dG];show s
  ·rw[dH q];show af (zA n (d.õ,d.þ))
 |x k=>
  by_cases q:d=1
  ·subst q;rw[dG];show s
  ·rw[dH q];show an.mp (ae (zA n (d.õ,d.þ))) _ (m3 k)
 |u=>show s
end
section
def ym(b:bd 100 c):Ó 76 Ae [Ag (c.õ,c.þ)] (Ag (c.õ,c.þ)):=by
 by_cases h:c=0
 ·subst h;show aa zp _0
 ·have r:Ax 4 100 [c]:=(cn (k:=0) h b).le _0 (a3 _);have s:=fo r;rw[et {by simp,r.AL,r.bd} (by simp)] at s;show s
def ix(h:Ax 4 48 r)(a:¬∃m∈Cg r,1<=m.1):∃c,nf r=Ag (c.õ,(c.þ))/\bd 100 c:=by
 have pw:(Cg r).ĳ λm n=>m.1≠n.1:=kA;rw[aY h.ŏ]
 match e:Cg r with
 |[]=>show{0,Î,dV 99}
 |[(0,c)]=>show{c,Î,(fv (m:=(0,c)) h.bd (by rw[e];show .Ď _)).le _0}
 |(k+1,c)::l=>show absurd {(k+1,c),by rw[e];show .Ď _,f3 1 k} a
 |(0,c)::m::l=>
  rw[e] at pw;show absurd {m,by rw[e];show .ě _ (.Ď _),YH λz=>((S5.mp pw).1 m (.Ď _)) z.symm} a
def mH(h:Ax 4 48 r)(a:∃m∈Cg r,1<=m.1):Let (nf r) Ä 30:=by
 have Pz:(Cg r).Á<=4:=cZ;rw[aY h.ŏ];show ag (fw λm a=>(((aV λc e=>(h.bd c e).le (show 48<=100 by decide)).1) m a).1) λb d f=>?_;rw[f a] at d;show(mG (by rw[a2];show Pz) d).le (ac (io (li 5 Pz) 1) _0)
def ot(h:Ax 4 48 r):Ó 140 AM [nf r] (nf r):=by
 by_cases a:∃m∈Cg r,1<=m.1
 ·show aa (vn (mH h a) _0 {_,_,Î} (aa (ft4 h) _0) (in_1 (h.le (a3 4) _0)) _0) _0
 ·show ag (ix h a) λc e b=>?_;rw[e];show aa (abY (bl _) _0 (yk (ym b)) _0) _0
structure SI(n:ä)(f:ñ->ñ)(M:D):Prop where
 rf:Ó 140 AM [M] M
 sh:AV M=Ä
 lv:∀x:ä,x∈[0,1,3]->∃q,Ó 80 Ad [M,.Ê x,.Ê 0] (AB q)/\q*((n:ñ)+(x:ñ))=f x
def fP(h:Ax 4 48 r)(e:Cg r=[]):r=[]:=fs h (Ax.mF 4 0) λx=>by rw[<-ee h.ŏ,e];rfl
def yn(h:Ax 4 48 r)(b:bd 2 n)(e:Cg r=[(1,1),(0,n)]):r=[n,1]:=fs h (C:=100) ⟨by simp,λd a=>by(have z:=al a;clear a;subst z);show(by decide:(1:ñ)≠0),λd a=>by
 rcases a5.mp a with rfl|q
 ·show b.le _0
 ·rw[am.mp q];show kg 99⟩ λx=>by
 rw[<-ee h.ŏ,e];change 1*(0+x*(1+x*0))+(n*(1+x*0)+0)=n+x*(1+x*0);grind
section
variable{n:Int}(hn:n∈[1,2,3])
include hn
def aaC:n.ï<4:=by
 rcases a5.mp hn with rfl|h
 ·decide
 rcases a5.mp h with rfl|h
 ·decide
 rw[am.mp h];decide
def v_get(h:Ax 4 48 r)(a:r≠[])(x:r≠[(n:ñ),1]):∃e R V o,Jc n (nf r) e R V/\VC V o/\KH n (Cg r) e R V:=by
 rw[aY h.ŏ];show abR (aaC hn) (aV λc b=>(h.bd c b).le (show 48<=100 by decide)).1 (λe=>a (fP h e)) λe=>x (yn h (bx hn).1 e)
def vx(h:DS n 48 f w):∃M,Ó 97 Cc [w,.Ý AD] M/\SI n f M:=by
 exists n f w,hn h;cases h with
 | @p r a e=>
  have b:=a.le (a3 4) (show 48<=48 by decide);have k:=a.le (a3 4) (show 48<=100 by decide);show{nf r,aa (in_1 k) _0,ot b,vw a.ŏ,λx g=>{ev r x,aa (kO g k) _0,e x}}
 | @s r a F z e=>
  have b:=a.le (a3 4) (show 48<=48 by decide);show kT (v_get hn b (λq=>z (by rw[q];rfl)) (λq=>z (by rw[q];change(n:ñ)+ -(n:ñ)*(1+ -(n:ñ)*0)=0;grind))) λd R V o v l j=>?_;have i:=abX hn (a.le (a3 4) (show 48<=100 by decide)) v.gp;show{V,i,aa (vn (vm j (λm t=>(((aV λc l=>(b.bd c l).le (show 48<=100 by decide)).1) m t).1) cZ) _0 {_,_,Î} (ftV hn b j v.c0 F) (aa i _0) _0) _0,ab2 v j,λx g=>{_,aa (pY g hn b j v.c0).1 _0,?_}};have u:=(vt g hn).2;grind
end
end
section
def aaD(h:m∈Lt a b c):m.1<=2:=by
 rcases dL.mp h with h|h
 ·rcases dL.mp h with h|h
  ·rw[aZ m h];show a3 2
  ·rw[aZ m h];decide
 ·rw[aZ m h];decide
def pZ:(Lt a b c).Á<=3:=by
 unfold Lt;simp only[f4];have:=aq 2 c;have:=aq 1 b;have:=aq 0 a;show ii (ii (aq 2 c) (aq 1 b)) (aq 0 a)
def kP(h:t.Á<=3):Cg t=Lt (t.ø 0 0) (t.ø 1 0) (t.ø 2 0):=by
 unfold Cg;rw[show t.ø 3 0=0 by rw[i6,J1 (ac (by assumption) _0)];rfl,kH]
structure OR(n:ä)(t u:Â ñ)(W M:D):Prop where
 si:Ó 150 Ae [Be [nf t,Aj [nf u,BX n]]] W
 rf:Ó 140 AM [W] M
 rm:Ó 140 AM [M] M
 sh:AV M=Ä
 lv:∀x:ä,x∈[0,1,3]->∃q,Ó 80 Ad [W,.Ê x,.Ê 0] (AB q)/\Ó 80 Ad [M,.Ê x,.Ê 0] (AB q)
section
variable{n:Int}(hn:n∈[1,2,3]){t u:List Rat}(ht:Ax 3 2 t)(hu:Ax 3 2 u)
include hn ht hu
def vy(h:Ó 50 As [.É [nf u,BX n]] V)(w:Ó 87 Ap [.É [nf t,V]] W):Ó 150 Ae [Be [nf t,Aj [nf u,BX n]]] W:=aa (ss2 (aa (fo (ht.le _0 _0)) _0) (sp2 (fo (hu.le _0 _0)) (aa (vl hn) _0) (aa h _0)) w) _0
def vz(H:u≠[])(a:u≠[(n:ñ),1]):∃W M,OR n t u W M:=by
 exists n t u,hn ht hu H a;have j:Ax 4 48 u:=hu.le _0 _0;have r:Ax 4 48 t:=ht.le _0 _0;show kT (v_get hn j H a) λd R V o f g s=>ag (made (bx hn).1 (bx hn).2 (hu.le (show 3<=4 by decide) (a3 2)) _0 _0) λv J z=>?_;exists d R V o v,f g s J z;have O:=ftV hn j s f.c0 J;have gu:=(aV λc g=>(j.bd c g).le (show 48<=100 by decide)).1;have C:=(aV λc g=>(r.bd c g).le (show 48<=100 by decide)).1;have Q:=vm s (λm h=>(gu m h).1) cZ;have core:∃W w,Ó 40 Ap [.É [nf t,V]] W/\DS n 48 (λx=>ev t x*((n:ñ)+x)+ev u x) w/\Ó 121 Ac [W,.Ý AD] w/\(∃m,m<=1000/\Let W Ä m)/\∀x:ä,x∈[0,1,3]->Ó 71 Ad [W,.Ê x,.Ê 0] (AB (ev t x+ev u x*(1/((n:ñ)+(x:ñ))))):=by
  by_cases U:t=[]
  ·subst U;show{V,v,w_0 f,(DS.of (bx hn).1 (bx hn).2 z λx=>?_).le hn _0,aa O _0,{30,_0,Q},λx a=>?_}
   ·change _=0*_+_;rw[Q6,I3]
   ·change Ó 71 Ad [V,.Ê x,.Ê 0] (AB (0+_));rw[I3];show aa (pY a hn j s f.c0).1 _0
  ·have e:=kP ht.ŏ;have Y:Lt (t.ø 0 0) (t.ø 1 0) (t.ø 2 0)≠[]:=λq=>U (fP r (e.Ð q));rw[aY r.ŏ,e];rw[e] at C;show aD (abQ f g C.good Y) λA B G k=>?_;exists A B,G k;have T:Hj (A++B):=λm h=>by
    rw[k] at h;show{aaD h,(C m h).2.1,fv ht.bd (e▸h)}
   have p:(A++B).Á<=3:=by rw[k];show pZ
   have l1:1<=(A++B).Á:=by rw[k];show Ch.ĝ Y
   have em:∀x,FF (A++B) x=ev t x:=λx=>by rw[k,<-e,ee r.ŏ]
   show ag (ftW hn T p l1 O z) λw I y=>?_;exists w,I y;show{_,w,G,DS.of (bx hn).1 (bx hn).2 I λx=>by rw[em],y,?_,λx a=>?_}
   ·show ag (fw λm h=>ac (T m (dL.ĝ (.Ę h))).1 _0) λb hb _=>ag (fw (L:=B) λm h=>ac (T m (dL.ĝ (.Ġ h))).1 _0) λc g _=>?_;rw[f4] at p;have l:=mG (by simp only[f4,a2,i3];show i4 p) (hb.app (.Æ Q g));rw[é.true_or,acv] at l;show{_,ac (io (ii (li 5 (ac (bv ..) p)) (g5 (li 5 (ac (f3 ..) p)) 30)) 1) _0,l}
   ·have l:=ab1 a (λm h=>{ac (T m h).1 _0,(T m h).2.2.le _0}) p l1 (pY a hn j s f.c0).1 (pY a hn j s f.c0).2;rw[em] at l;show l
 show bG λnG=>iD core λW w G I y e8 e9=>ag e8 λm h lW=>nG ?_;show ag (vx hn I) λM i E=>{W,M,vy hn ht hu f.gp (aa G _0),aa (vn (N:=121) lW h (I.tup hn) y (aa i _0) _0) _0,E.rf,E.sh,λx a=>?_};show ag (E.lv x a) λq hq k=>?_;have nx:=(vt a hn).2;show{q,?_,hq};rw[show q=ev t x+ev u x*(1/((n:ñ)+(x:ñ))) by grind];show aa (e9 x a) _0
end
end
section
def SJ(ts:Â PT):Â D:=ts.Ö λt=>cB (f2 t.r BW) t.c
def SK:Â PT->é
 |[]=>Ä
 |t::l=>match t.c with
  |Ä=>Å
  |Å=>SK l
def UN(P:D)(ts:Â PT)(e s:ä×ä)(ss:Â D)(z:é):Â D:=
 cF Av [P,.Ý BU] (.É (ts.Ö PT.p++[Ag e]))::Jm ts []++(cF Au [Ag e] (.Ç [.Ç [.Ê e.1,.Ê e.2],BW])::cB (AU BW) Ä::SJ ts)++
  (cF Dj [.Ç [.Ê (Fp ts).1,.Ê (Fp ts).2],.Ç [.Ê e.1,.Ê e.2]] (.Ç [.Ê s.1,.Ê s.2])::cB (AU BW) Ä::SJ ts)++(cB (AU BW) Ä::SJ ts)++(match SK ts with
   |Ä=>[cB (f2 BW BW) Ä]
   |Å=>[])++GA ts++[cF Ai [.É (Ej ts)] (.É ss),cB (!decide (s.1=0)) z]
def Xt(P:D)(ts:Â PT)(e s:ä×ä)(ss:Â D)(z:é):Out D:=(RN 2 UI 10 10 Ap [.ê P]).Ĉ (Ň ((UN P ts e s ss z).ĥ NQ) [])
def SM(s:ä×ä)(ss:Â D)(z:é):D:=BY (ss++match z with
 |Ä=>[Ag s]
 |Å=>[])
def Xu(P:D)(ts:Â PT)(e s:ä×ä)(ss:Â D)(z:é):Out D:=.ok (SM s ss z) (Ň [] (UN P ts e s ss z).Ė)
def Ks:Â (Â Ï×é):=(GD.ĥ λy=>a1.ĥ λz=>[[],[0]].ĥ λc=>[Ä,Å].Ö λv=>(y++z++c,v)).ÀX λl=>s4 1 l.1.Á
abbrev G2:=((Ï->D)×(Ï->ä))×(ä×ä)×(ä×ä)
def Oa(p:G2)(l:Â Ï):Â PT:=Ja p.1.1 p.1.2 0 l
def SN(p:G2):Prop:=AR (λl=>(Xt (p.1.1 50) (Oa p l.1) p.2.1 p.2.2 (Ko p.1.1 l.1) l.2,Rb ((Oa p l.1).Ö CU++[Ag p.2.1]),Rb [Be ((Oa p l.1).Ö CU),Ag p.2.1])) Ks=
 Ks.Ö λl=>(Xu (p.1.1 50) (Oa p l.1) p.2.1 p.2.2 (Ko p.1.1 l.1) l.2,.ok (.É ((Oa p l.1).Ö CU++[Ag p.2.1])) (Ň [] []),.ok (.É ((Oa p l.1).Ö CU++[Ag p.2.1])) (Ň [] []))
def Xv:G2:=un λp=>¬SN p
def yo(p:G2):SN p:=aI (show SN Xv by unfold SN;kernel_rfl) p
def mI{P:D}{ts:Â PT}{e s:ä×ä}{ss:Â D}{l:Â Ï}{z:é}(j:(l,z)∈Ks)(b:DJ l ts)(m:ts.Á<=4)(q:ss.Á=(Ej ts).Á)(u:ss.Á<=3)(v:∀t∈ts,CU t=t.p)(h:∀t∈ts,t.OK 30)(w:ts.ĳ λs t=>f2 s.r t.r=Å)
  (x:Ó 30 Au [Ag e] (.Ç [.Ç [.Ê e.1,.Ê e.2],BW]))(A:Ó 30 Dj [.Ç [.Ê (Fp ts).1,.Ê (Fp ts).2],.Ç [.Ê e.1,.Ê e.2]] (.Ç [.Ê s.1,.Ê s.2]))(B:Ó 30 Ai [.É (Ej ts)] (.É ss))(C:decide (s.1=0)= !z)(E:P= .É (ts.Ö PT.p++[Ag e])\/P= .É [Be (ts.Ö PT.p),Ag e]):Ó 40 Ap [P] (SM s ss z):=by
 exists P ts e s ss l z,j b m q u v h w x A B C E;have a:=ah (yo ((Gs P ts ss,Jb ts),e,s)) (l,z) j;dsimp only at a;rw[show Oa ((Gs P ts ss,Jb ts),e,s) l=ts from gH b 0 Î (by rw[s6];show ac m _0),my (q.Ð (il b)) u,r0 v] at a;show aj (f0 a) λG a=>aj (f0 a) λH I=>?_;have J:Ó 30 Av [P,.Ý BU] (.É (ts.Ö PT.p++[Ag e])):=by
  rcases E with rfl|rfl
  ·show λd g=>sr (N:=20) (n:=20) (hk:=0) (S:=[]) (l:=[.É (ts.Ö PT.p++[Ag e]),.Ý BU]) .å H d g
  ·show λd g=>sr (N:=20) (k:=10) (n:=20) (hk:=0) (S:=[]) (l:=[.É [Be (ts.Ö PT.p),Ag e],.Ý BU]) .å I d g
 have i:Hs (Hc 30) (SJ ts):=.Ö (f:=λt:PT=>cB (f2 t.r BW) t.c) λt L=>(h t L).o;have y:AU BW=Ä:=_2
 have no:Hs (Hc 30) (match SK ts with
   |Ä=>[cB (f2 BW BW) Ä]
   |Å=>[]):=by
  cases SK ts with
  |Ä=>show .Æ (c:=cB _ _) (show f2 BW BW=Ä by kernel_rfl) .å
  |Å=>show .å
 have O:Hs (Hc 30) (UN P ts e s ss z):=by
  show((((((Hs.Æ (c:=cF _ _ _) J (ig ts [] h w λ_ h=>nomatch h)).app (.Æ (c:=cF _ _ _) x (.Æ (c:=cB _ _) y i))).app (.Æ (c:=cF _ _ _) A (.Æ (c:=cB _ _) y i))).app (.Æ (c:=cB _ _) y i)).app no).app (ih ts h)).app (.Æ (c:=cF _ _ _) B (.Æ (c:=cB _ _) ?_ .å));change(!decide (s.1=0))=z;rw[C,T3]
 show sr (N:=30) (k:=10) (n:=10) (hk:=2) (S:=UI) O.rev G
def rV:(GD.ş λy=>a1.ş λz=>[[],[0]].ş λc=>[Ä,Å].ş λv=>s4 (y++z++c).Á 0||Ks.any λq=>decide (q=(y++z++c,v)))=Ä:=_2
def vA(e:ä×ä):Ó 30 Au [Ag e] (.Ç [.Ç [.Ê e.1,.Ê e.2],BW]):=λd h=>sr (N:=10) (n:=20) (hk:=0) (S:=[]) (os:=[]) (ŋ:=[]) .å _2 d h
def ab3{t:PT}(o:t.OK 5):t.OK 30:={aa o.nr _0,o.k,aa o.ad _0,o.o,λq=>(o.w q).imp id λa=>aa a _0}
def aaE{z:é}(h:decide (a.õ=0)= !z):SM (a.õ,(a.þ)) ((BA 2 c++BA 1 b).Ö AY) z=BY ((Lt a b c).Ö AY):=by
 unfold SM Lt;rw[g1 (l₂:=BA 0 a),vg,<-kj,h];induction z using ci<;>rfl
def ab4{t:Â ñ}(i:Ax 3 2 t){e:ñ}(v:bd 2 e):∃I,Ax 4 48 I/\Ó 40 Ap [.É [nf t,Ag (e.õ,e.þ)]] (nf I):=by
 exists t e,i v;have w:Ax 4 48 t:=i.le _0 _0;have A:=iw (B:=1) i.bd;generalize C:t.ø 0 0=a;generalize o:t.ø 1 0=b;generalize s:t.ø 2 0=f;have J:=C▸A 0;have V:=o▸A 1;have E:=s▸A 2;have Y:=(J.ŧ v).le (show 2+2+1<=48 by decide);show aj (bA (B:=48) (l:=[a+e,b,f]) (λd hd=>by
  rcases a5.mp hd with rfl|hd
  ·show Y
  rcases a5.mp hd with rfl|hd
  ·show V.le _0
  rw[am.mp hd];show E.le _0)) λL r2=>?_
 have G:Ax 4 48 (AL [a+e,b,f]):=L.le (by simp) (a3 _);show{_,G,?_};have el:Cg (AL [a+e,b,f])=Lt (a+e) b f:=by
  rw[kP L.ŏ];show dc (vh λx=>(fq G.ŏ x).symm.Ð ((r2 x).Ð (fq (p:=[a+e,b,f]) (by simp) x))) λe0 e1 e2 _=>?_;rw[e0,e1,e2];rfl
 rw[aY G.ŏ,el];have O:Ó 30 Dj [.Ç [.Ê a.õ,.Ê a.þ],.Ç [.Ê e.õ,.Ê e.þ]] (.Ç [.Ê (a+e).õ,.Ê (a+e).þ]):=aa (dA J v _0) _0;have j:∃z,decide ((a+e).õ=0)= !z:={!decide ((a+e).õ=0),(T3 _).symm};show ao j ?_;clear j;intro z j;rw[<-aaE j];have H:Ó 30 Ai [.É ((BA 2 f++BA 1 b).Ö AY)] (.É ((BA 2 f++BA 1 b).Ö AY)):=by
  have:=mA b f 0;show this
 have Q:∀{l:Â Ï} {y x:Â Ï} {k:Â Ï},y∈GD->x∈a1->k∈([[],[0]]:Â (Â Ï))->l=y++x++k->l≠[]->(l,z)∈Ks:=λ{l y x k} hy hx hk e m=>by
  have q:=an.mp (an.mp (an.mp (an.mp rV y hy) x hx) k hk) z (ik z);rw[<-e] at q;rcases g4.mp q with q|q
  ·show absurd (l5 (Ï.le_zero.mp (be q))) m
  ·show d_ q
 by_cases T:t=[]
 ·subst T;have o:b=0:=o.symm;have s:f=0:=s.symm;subst C;subst o;subst s;have f7:PT.OK 30 {Ä,Ag (0,1),0,1,BW,.Ã}:={vA (0,1),_2,λd hd=>sr (N:=10) (k:=20) (n:=20) (hk:=0) (S:=[]) (l:=[.Ç [.Ê 0,.Ê 1],.Ç [.Ê 0,.Ê 1]]) (os:=[]) (ŋ:=[]) .å _2 d hd,_2,λh=>nomatch h};rw[eC,eC] at H⊢;show mI (e:=(e.õ,(e.þ:ä))) (ts:=[{Ä,Ag (0,1),0,1,BW,.Ã}]) (l:=[0]) (ss:=[]) (Q (y:=[]) (x:=[]) (k:=[0]) (.Ď _) (.Ď _) (.ě _ (.Ď _)) rfl (by simp)) (.Æ .c .å) (by simp) rfl (by simp) (λt i=>by rw[am.mp i];rfl) (λt i=>by rw[am.mp i];show f7) (R7 _ _) (vA _) O H j (.Ę Î)
 ·have u:=kP i.ŏ;rw[C,o,s] at u;have m:Lt a b f≠[]:=λq=>T (fP w (u.Ð q));have g:=(aV λf E=>(w.bd f E).le (show 48<=100 by decide)).1;rw[u] at g;rw[aY w.ŏ,u];have U:Ej ((Lt a b f).Ö Ek)=(BA 2 f++BA 1 b).Ö AY:=by
   unfold Lt;simp only[g1,fl,ky,kz,wf]
  have gn:Fp ((Lt a b f).Ö Ek)=(a.õ,(a.þ:ä)):=by rw[<-kH];show kD
  have hk:(BA 0 a).Ö KG∈([[],[0]]:Â (Â Ï)):=by
   unfold BA;by_cases q:a=0
   ·rw[à q];show .Ď _
   ·rw[ß q];show .ě _ (.Ď _)
  show mI (e:=(e.õ,(e.þ:ä))) (ts:=(Lt a b f).Ö Ek) (l:=(Lt a b f).Ö KG) (ss:=(BA 2 f++BA 1 b).Ö AY) (Q (d3 0 f) (d1 b) hk (by unfold Lt;rw[g1,g1]) λq=>m (N6.mp q)) (dr g.good) (by rw[a2];show ac pZ _0) (by rw[U]) (by
   simp only[a2,f4];have:=aq 2 f;have:=aq 1 b;show ac (ii (aq 2 f) (aq 1 b)) _0) kx (λt i=>ab3 (gJ g.good t i)) (gK g.good (kH a b f▸kA)) (vA _) (by rw[gn];show O) (by rw[U];show H) j (by
   rw[fO]
   match e:(Lt a b f).Ö AY,m with
   |[],m=>show absurd (N6.mp e) m
   |[q],_=>show .Ę Î
   |q::r::l,_=>show .Ġ Î)
section
variable{n:Int}(hn:n∈[1,2,3]){t u:List Rat}(ht:Ax 3 2 t)(hu:Ax 3 2 u)
include hn ht hu
def zB{e:ñ}(b:bd 2 e)(v:Ó 50 As [.É [nf u,BX n]] (Ag (e.õ,e.þ))):∃W M,OR n t u W M:=ag (ab4 ht b) λc h G=>{_,_,vy hn ht hu v (aa G _0),ot h,ot h,vw h.ŏ,λx a=>{_,aa (kO a (h.le (a3 4) _0)) _0,aa (kO a (h.le (a3 4) _0)) _0}}
def yp:∃W M,OR n t u W M:=by
 by_cases a:u=[]
 ·subst a;show zB hn ht hu (dV 1) (aa (aar n) _0)
 by_cases x:u=[(n:ñ),1]
 ·show zB hn ht hu (kg 1) ?_;subst x;rcases a5.mp hn with rfl|h
  ·show aa (aR _2) _0
  rcases a5.mp h with rfl|h
  ·show aa (aR _2) _0
  obtain rfl:=am.mp h;show aa (aR _2) _0
 ·show vz hn ht hu a x
end
end
section
def fz{p p' a:AK}(h:t.put x ρ=Ñ c)(d:Ğ (b c) p (ρ',Ã) p')(k:Ğ (EA t b ds ρ') p' y a):Ğ (EA t b (x::ds) ρ) p y a:=.ù (.of h _) (.ù d k)
def iy(h:Ğ m p a p'):Ğ (Bh m) p a p':=by
 unfold Ğ Bh at*;dsimp only;rw[h]
def UO:Bc:=.Æ (.ő (.cmp .ne (.ň Ad (.Æ (.Đ 4) (.Æ (.Đ 6) (.Æ (.ex (.Ê 0)) .å)))) (.ň Ad (.Æ (.Đ 5) (.Æ (.Đ 6) (.Æ (.ex (.Ê 0)) .å))))) (.Æ (.Ũ (.Ù Å)) .å) .å) .å
def HP(T U W M:D)(n:ä)(x y:Ë Ą):Aa:=[À .Az,À (.ê T),À (.ê U),À (.ê (.Ê n)),À (.ê W),À (.ê M),x,y]
noncomputable def both:XE:=.ň AM (.Æ (.ex (.tup (.Æ (.Ý BH) (.Æ (.tup (.Æ (.tup (.Æ (.Ý FA) (.Æ (.Ý OX) .å))) (.Æ (.tup (.Æ (.Ý BU) (.Æ (.tup (.Æ (.glob Fo) (.Æ (.tup (.Æ (.Ý Cq) (.Æ (.Đ 3) (.Æ (.Ê 1) .å)))) .å))) .å))) .å))) .å)))) .å)
def VW:Bc:=.Æ (.Bk 7 both) (.Æ (.Ũ (.and (.Æ (.cmp .eq (.idx (.Đ 7) (.Ê 0)) (.Ý BU)) (.Æ (.cmp .eq (.comp (.ň Ad (.Æ (.Đ 1) (.Æ (.Đ 0) (.Æ (.ex (.Ê 5)) .å)))) ["x"] [7] (.Ě 0) (.Ĕ (.tup (.Æ (.Ê 0) (.Æ (.Ê 2) .å))))) (.É (.Æ (.tup (.Æ (.bin .ļ (.Ê 5) (.Đ 3)) (.Æ (.Ê 1) .å))) (.Æ (.tup (.Æ (.bin .ļ (.Ê 5) (.bin .ŧ (.Ê 2) (.Đ 3))) (.Æ (.Ê 1) .å))) .å)))) .å)))) .å)
def Vc:D:=.Ç [.Ý FA,.Ý OX]
def VY:ä->D
 |1=>Be [Aj [Es,Vc],Vc]
 |n=>Be [Aj [Es,Vc],Aj [Ag (n,1),Vc]]
section
variable{d:Nat}{T U W M:D}{n:Int}
def vB(b:n∈[1,2,3])(a:100<=d):VW.ex (iF d) (HP T U W M n (À (.ê (.Ê 3))) Ã)=Ñ (HP T U W M n (À (.ê (.Ê 3))) (À (.ê (VY n))),À (.Ù Ä)):=by
 rcases a5.mp b with rfl|h
 ·show dT (N:=0) (k:=60) (n:=60) (hk:=0) (S:=[]) (os:=[]) (ŋ:=[]) (aQ a) .å _2
 rcases a5.mp h with rfl|h
 ·show dT (N:=0) (k:=60) (n:=60) (hk:=0) (S:=[]) (os:=[]) (ŋ:=[]) (aQ a) .å _2
 obtain rfl:=am.mp h;show dT (N:=0) (k:=60) (n:=60) (hk:=0) (S:=[]) (os:=[]) (ŋ:=[]) (aQ a) .å _2
def turn(h:80<=d)(w:Ó 80 Ad [W,.Ê x,.Ê 0] (AB q))(m:Ó 80 Ad [M,.Ê x,.Ê 0] (AB q))(p:AK):Ğ (UO.ex (iF d) (HP T U W M n (À (.ê (.Ê x))) Ã)) p (HP T U W M n (À (.ê (.Ê x))) Ã,Ã) p:=
 xC (acG (.of (w d h) p) (.of (m d h) p) (ne_self _2)) rfl
def vD{y:Ë Ą}:(Tg.Ě 6).put x (HP T U W M n y Ã)=Ñ (HP T U W M n (À (.ê x)) Ã):=_2
def VZ:XI:=.Ĕ (.tup (.Æ (.Ê 0) (.Æ (.Ê 1) (.Æ (.Ê 3) .å))))
end
def zC:Ğ (EA t b [] ρ) p (ρ,Ã) p:=rfl
def vE(a:80<=d)(h:∀x,x∈[0,1,3]->∃q,Ó 80 Ad [W,.Ê x,.Ê 0] (AB q)/\Ó 80 Ad [V,.Ê x,.Ê 0] (AB q))(p:AK):Ğ (XS.ex (iF d) (.for (.Ě 6) VZ UO) (HP T U W V n Ã Ã)) p (HP T U W V n (À (.ê (.Ê 3))) Ã,Ã) p:=ag (h 0 _0) λe Ky b=>ag (h 1 _0) λf a1 c=>ag (h 3 _0) λg GD b3=>iy (fz (vD) (turn a Ky b p) (fz (vD) (turn a a1 c p) (fz (vD) (turn a GD b3 p) zC)))
def V_:XE:=.ň Ae (.Æ (.ex (.tup (.Æ (.Ý BU) (.Æ (.tup (.Æ (.Đ 1) (.Æ (.tup (.Æ (.Ý BH) (.Æ (.tup (.Æ (.Đ 2) (.Æ (.tup (.Æ (.Ý Ay) (.Æ (.tup (.Æ (.Ý BU) (.Æ (.tup (.Æ (.glob Fo) (.Æ (.tup (.Æ (.Ý Cq) (.Æ (.Đ 3) (.Æ (.Ê 1) .å)))) .å))) .å))) (.Æ (.tup (.Æ (.Ý Cq) (.Æ (.neg (.Ê 1)) (.Æ (.Ê 1) .å)))) .å)))) .å))) .å))) .å))) .å)))) .å)
def Ob(T U:D)(n:ä)(a b:Ë Ą):Aa:=[À .Az,À (.ê T),À (.ê U),À (.ê (.Ê n)),a,b,Ã,Ã]
def st4(a:155<=d)(h:Ó 150 Ae [Be [T,Aj [U,BX n]]] W):XS.ex (iF d) (.Bk 4 V_) (Ob T U n Ã Ã)=Ñ (Ob T U n (À (.ê W)) Ã,Ã):=
 vv (k:=5) (n:=5) (hk:=0) (S:=[Ae]) (os:=[W]) (ŋ:=[]) a (.Æ (c:=cF Ae [Be [T,Aj [U,BX n]]] W) h .å) _2
def st5(a:155<=d)(h:Ó 150 AM [W] V):XS.ex (iF d) (.Bk 5 (.ň AM (.Æ (.Đ 4) .å))) (Ob T U n (À (.ê W)) Ã)=Ñ (Ob T U n (À (.ê W)) (À (.ê V)),Ã):=
 vv (k:=5) (n:=5) (hk:=0) (S:=[AM]) (os:=[V]) (ŋ:=[]) a (.Æ (c:=cF AM [W] V) h .å) _2
def Wa:Bc:=.Æ (.Bk 4 V_) (.Æ (.Bk 5 (.ň AM (.Æ (.Đ 4) .å))) (.Æ (.ő (.cmp .ne (.ň AM (.Æ (.Đ 5) .å)) (.Đ 5)) (.Æ (.Ũ (.Ù Å)) .å) .å) (.Æ (.for (.Ě 6) VZ UO) VW)))
def vF{d:Ï}(a:n∈[1,2,3])(h:160<=d)(f:OR n t u W V)(p:AK):Ğ (Wa.ex (iF d) (Ob (nf t) (nf u) n Ã Ã)) p (HP (nf t) (nf u) W V n (À (.ê (.Ê 3))) (À (.ê (VY n))),À (.Ù Ä)) p:=by
 have c:Ğ (XE.ev (iF d) (.cmp .ne (.ň AM (.Æ (.Đ 5) .å)) (.Đ 5)) (Ob (nf t) (nf u) n (À (.ê W)) (À (.ê V)))) p (.Ù Å) p:=acG (.of (f.rm d (aQ h)) p) (.of _2 p) (ne_self f.sh);show kQ (.of (st4 (aQ h) f.si) p) (kQ (.of (st5 (aQ h) (aa f.rf _0)) p) (xC c (kQ (vE (aQ h) f.lv p) (.of (vB a (aQ h)) p))))
end
section
def Wb:XE:=.bin .ŧ (.Ê 1) (.ň BG (.Æ (.Đ 0) (.Æ (.ex (.Ê 3)) .å)))
def vG:Dg.Ć= .Æ (.Bk 3 Wb) Wa:=_2
def ou{d:Ï}{T U:D}{m:ä}{p p':AK}{v:D}(h:Ğ (R d BG [.Az,.ê (.Ê m)]) p v p'):Ğ (XE.ev (iF d) (.ň BG (.Æ (.Đ 0) (.Æ (.ex (.Ê m)) .å))) [À .Az,À (.ê T),À (.ê U),Ã,Ã,Ã,Ã,Ã]) p v p':=h
def put3{T U:D}{x:D}:(Tg.Ě 3).put x [À .Az,À (.ê T),À (.ê U),Ã,Ã,Ã,Ã,Ã]>>=(λρ'=>(Ñ (ρ',Ã):M (Aa×Ë D)))=Ñ ([À .Az,À (.ê T),À (.ê U),À (.ê x),Ã,Ã,Ã,Ã],Ã):=_2
def ov{ρ:Aa}{p:AK}{v:D}:Ğ (Cf (ρ,À v)) p v p:=rfl
def zD{v:Ï}(h:v<3):(1+(v:ä))∈[1,2,3]:=by
 match v,h with
 |0,_=>decide
 |1,_=>decide
 |2,_=>decide
def mJ{d:Ï}(h:161<=d){ns:Â ä}(n:ns.Á<=100){c:Ï}(b:c<=500){r:ä}{t u:Â ñ}(e:Ax 3 2 t)(g:Ax 3 2 u):Ğ (R d Bq [.Az,.ê (nf t),.ê (nf u)]) (AW ns c r) (.Ù Ä) (AW ns (c+1) r):=by
 obtain⟨d,Î⟩:=eD h;show ag (cj (d:=d) (kW h) n b (r:=r) 3 _0) λv i p=>?_;have n3:=zD i;show bB (yp n3 e g) λW V f=>?_;have s:=vF (d:=d) n3 (kW h) f (AW ns (c+1) r);have j:Ğ (XS.ex (iF d) (.Bk 3 Wb) [À .Az,À (.ê (nf t)),À (.ê (nf u)),Ã,Ã,Ã,Ã,Ã]) (AW ns c r) (Ob (nf t) (nf u) (1+(v:ä)) Ã Ã,Ã) (AW ns (c+1) r):=
  .ù (a:=.Ê (1+(v:ä))) (p':=AW ns (c+1) r) (rO (x:=.Ê 1) (y:=.Ê v) (p':=AW ns c r) Pi (ou p) rfl) (.of put3 _)
 rw[show R (d+1) Bq [.Az,.ê (nf t),.ê (nf u)]=_ from bS (t:=Dg) rfl Î,vG];show .ù (a:=(_,À (.Ù Ä))) (p':=AW ns (c+1) r) (kQ j s) ov
end
section
noncomputable def wr:Ï->D
 |0=>.Ç [.Ý Jj,.Ý NB,.Ç [Es]]
 |1=>.Ç [.Ý Ay,Es,Ag (1,2)]
 |2=>Vc
 |3=>.Ç [.Ý Ay,Ag (2,1),Es]
 |_=>.Ç [.Ý P_,Es,Ag (1,1)]
def yq:AR (λv=>It Ac [wr v,.Ý AD]) [0,1,2,3,4]=[0,1,2,3,4].Ö λ_=>.ok .Ã (Ň [] []):=_2
def ow{v:Ï}(h:v∈[0,1,2,3,4]):Ó 20 Ac [wr v,.Ý AD] .Ã:=aR (ah yq v h)
def aaF{v:Ï}(h:v∈[0,1,2,3,4]){a:Â ñ}(b:Ax 4 48 a):Ó 103 Ac [Be [nf a,wr v],.Ý AD] .Ã:=by
 have f:=ft4 b;have g:=oo (Ax.mF 4 1) b b _0 _0 _0 λx=>by change _=0+_;rw[I3]
 show sb (N:=92) (k:=10) (n:=10) (S:=[Ac,Ba,BC]) (t:=CV) rfl _ (os:=[F1 a,F1 a,.Ã]) rfl (.Æ (c:=cF Ac [wr v,.Ý AD] .Ã) (aa (ow h) _0) (.Æ (c:=cF Ba [F1 [],F1 a] (F1 a)) (aa g _0) (.Æ (c:=cF Ac [nf a,.Ý AD] (F1 a)) f .å))) _2
def Mg(n:ä)(j:Ï):D:=.Ç [.Ý Ay,LA n,Ag (-1 -(j:ä),1)]
def Kt(n:ä):Ï->Â ñ
 |0=>[(n:ñ),1]
 |_=>[(n:ñ)*n,2*n,1]
def vH:AR (λn:ä=>AR (λj=>(RN 0 [] 40 40 Ac [.ê (Mg n j),.ê (.Ý AD)]).Ĉ (Ň [] [])) [0,1]) [1,2,3]=[1,2,3].Ö λn:ä=>[0,1].Ö λj=>.ok (.Ç [AE [1],AE (Kt n j)]) (Ň [] []):=_2
def p_{n:ä}(h:n∈[1,2,3]){j:Ï}(a:j∈[0,1]):Ó 40 Ac [Mg n j,.Ý AD] (.Ç [AE [1],AE (Kt n j)]):=sr (N:=0) (k:=40) (l:=[Mg n j,.Ý AD]) .å (ah (ah vH n h) j a)
def Wc:D:=.Ç [.Ý BU,.Ç [Es,Vc]]
def aaG:Ó 30 Ao [Wc] (.É [.Ý AD,.Ý OX]):=sr (N:=0) (k:=30) (n:=30) (hk:=0) (S:=[]) (os:=[]) (ŋ:=[]) .å _2
def yr{a:Â ñ}(h:Ax 4 48 a):∃b:é,Ó 30 Ao [nf a] (.É (if b then [.Ý AD] else [])):=by
 by_cases d:∃m∈Cg a,1<=m.1
 ·show{Ä,aa (ew (mH h d) _0) _0}
 ·show ag (ix h d) λc e _=>?_;rw[e];show{Å,aa (ew (bl (c.õ,c.þ)) _0) _0}
end
section
def OS:Bc->Bc
 | .Æ _ l=>l
 |l=>l
def Wd:Bc->Bc
 | .Æ s _=>.Æ s .å
 |l=>l
def UP:Bc:=Wd (OS BO.Ć)
def UQ:Bc:=OS (OS (OS BO.Ć))
def IM:D:=.Ç [.Ý "refused",.Ý "domain"]
def Rh:D:=.Ç [.Ù Å,IM,IM,.Ù Å]
def vI(N:Ï):Hc N Rh:=(by kernel_rfl:B_ .ne IM IM=Ñ (.Ù Å))
noncomputable def Âd(T:D)(v:Ï):D:=match v with
 |4=>wr 4
 |v=>Be [T,wr v]
def HQ(T w:D)(a b c:Ë Ą):Aa:=[À .Az,À (.ê T),À (.ê w),a,b,c]
def vJ(T:D):AR (λv=>((UP.HS (rI 0 [Ac] 20 20) 0).f (HQ T (wr v) Ã Ã Ã)).Ĉ (Ň [.Ã,.Ù Å,.Ã,.Ù Å,.Ã,.Ù Å,.Ã,.Ù Å] [])) [0,1,2,3,4]=
  [0,1,2,3,4].Ö λv=>.ok (HQ T (wr v) (À (.ê (Âd T v))) Ã Ã,Ã) (Ň [] [Rh,cF Ac [Âd T v,.Ý AD] .Ã,Rh,cF Ac [Âd T v,.Ý AD] .Ã,Rh,cF Ac [wr v,.Ý AD] .Ã,Rh,cF Ac [wr v,.Ý AD] .Ã]):=_2
def vK(T w o:D):AR (λn:ä=>AR (λj=>AR (λb:é=>((UQ.HS (rI 0 [Ac,Ao] 20 20) 0).f (HQ T w (À (.ê o)) (À (.ê (Mg n j))) Ã)).Ĉ (Ň [.Ç [AE [1],AE (Kt n j)],.Ç [AE [1],AE (Kt n j)],.Ù Å,.É [.Ý AD,.Ý OX],.É (if b then [.Ý AD] else []),.Ù Ä] [])) [Ä,Å]) [0,1]) [1,2,3]=
  [1,2,3].Ö λn:ä=>[0,1].Ö λj=>[Ä,Å].Ö λb:é=>.ok (HQ T w (À (.ê o)) (À (.ê (Mg n j))) (À (.ê (.Ç [.Ý "told",.Ç [AE [1],AE (Kt n j)]]))),À (.Ù Ä)) (Ň [] [.Ç [.Ù Ä,IM,IM,.Ù Ä],cF Ao [T] (.É (if b then [.Ý AD] else [])),cF Ao [Wc] (.É [.Ý AD,.Ý OX]),Rh,cF Ac [Mg n j,.Ý AD] (.Ç [AE [1],AE (Kt n j)]),cF Ac [Mg n j,.Ý AD] (.Ç [AE [1],AE (Kt n j)])]):=_2
end
section
section
variable{p p' p'':AK}{w:Cz}{ρ:Aa}{e:XE}{l:EL}{d:D}{ds:List D}
def ab5(h:Ğ (Di ((l.ev w).Ö λf=>f ρ)) p ds p')(a:ds.Á<=100000):Ğ ((XE.tup l).ev w ρ) p (.Ç ds) p':=.ù h (.of (à a) _)
theorem Re(h:Ğ (e.ev w ρ) p d p')(k:Ğ (Di ((l.ev w).Ö λf=>f ρ)) p' ds p''):Ğ (Di (((EL.Æ e l).ev w).Ö λf=>f ρ)) p (d::ds) p'':=.ù h (.ù k Î)
def ab6:Ğ (Di ((EL.å.ev w).Ö λf=>f ρ)) p [] p:=rfl
theorem Rs{s:Þ}:Ğ ((XE.Ý s).ev w ρ) p (.Ý s) p:=rfl
end
def KS(m:ä):XE:=.ň BG (.Æ (.Đ 0) (.Æ (.ex (.Ê m)) .å))
def UR:XE:=match BO.Ć with
 | .Æ (.Bk _ (.idx (.ex l) _)) _=>l
 |_=>.Đ 0
def We:XE:=.tup (.Æ (.Ý Ay) (.Æ (.tup (.Æ (.Ý BU) (.Æ (.tup (.Æ (.glob Fo) (.Æ (.tup (.Æ (.Ý Cq) (.Æ (.bin .ŧ (.Ê 1) (KS 3)) (.Æ (.Ê 1) .å)))) .å))) .å))) (.Æ (.tup (.Æ (.Ý Cq) (.Æ (.bin .Ž (.neg (.Ê 1)) (KS 2)) (.Æ (.Ê 1) .å)))) .å)))
def TN:XS:=match UP with
 | .Æ s _=>s
 |_=>.Û
def vL:BO.Ć= .Æ (.Bk 2 (.idx (.ex UR) (KS 5))) (.Æ TN (.Æ (.Bk 4 We) UQ)):=_2
def aaH(h:Ğ ((Bc.Æ s .å).ex i ρ) p (ρ',Ã) p'):Ğ (s.ex i ρ) p (ρ',Ã) p':=by
 rw[show(Bc.Æ s .å).ex i ρ=Gf (s.ex i) (λρ=>Ñ (ρ,Ã)) ρ from rfl,hY (mm (N:=0) (hk:=0) (S:=[]) (n:=0) (a3 0))] at h;show h
def put2:(Tg.Ě 2).put x [À .Az,À (.ê T),Ã,Ã,Ã,Ã]>>=(λρ'=>(Ñ (ρ',Ã):M (Aa×Ë D)))=Ñ (HQ T x Ã Ã Ã,Ã):=_2
def ab7:(Tg.Ě 4).put x (HQ T w (À (.ê o)) Ã Ã)>>=(λρ'=>(Ñ (ρ',Ã):M (Aa×Ë D)))=Ñ (HQ T w (À (.ê o)) (À (.ê x)) Ã,Ã):=_2
def glx:XE.ev (iF d) (.glob Fo) ρ=Ñ Es:=_2
def ab8:XE.ev (iF d) (.neg (.Ê 1)) ρ=Ñ (.Ê (-1)):=_2
def yt(h:w.Cj=Cj):UR.ev w ρ=Ñ (.É [wr 0,wr 1,wr 2,wr 3,wr 4]):=by
 obtain⟨_,_,_,_⟩:=w;cases h;kernel_rfl
@[elab_as_elim] theorem lt4{P:Ï->Prop}(a:P 0)(b:P 1)(c:P 2)(d:P 3)(v:Ï)(h:v<4):P v:=match v,h with
 |0,_=>a
 |1,_=>b
 |2,_=>c
 |3,_=>d
@[elab_as_elim] theorem lt5{P:Ï->Prop}(a:P 0)(b:P 1)(c:P 2)(d:P 3)(e:P 4)(v:Ï)(h:v<5):P v:=match v,h with
 |0,_=>a
 |v+1,h=>lt4 (P:=λv=>P (v+1)) b c d e v (Ï.lt_of_succ_lt_succ h)
def v5(h:v<5):v∈[0,1,2,3,4]:=M4.ĝ h
def v2(h:v<2):v∈[0,1]:=M4.ĝ h
def aca{v:Ï}(h:v<5):Jp (.É [wr 0,wr 1,wr 2,wr 3,wr 4]) (.Ê v)=Ñ (wr v):=by
 show lt5 Î Î Î Î Î v h
def yu(h:v∈[0,1,2,3,4])(b:Ax 4 48 a):Ó 103 Ac [Âd (nf a) v,.Ý AD] .Ã:=by
 unfold Âd;split
 ·show aa (ow _0) _0
 ·show aaF h b
def vM(h:Ğ (R d BG [.Az,.ê (.Ê m)]) p v p'):Ğ (XE.ev (iF d) (KS m) (À .Az::ρ)) p v p':=h
def rW{d:Ï}(h:140<=d){ns:Â ä}(n:ns.Á<=100){c:Ï}(e:c<=400){r:ä}{a:Â ñ}(f:Ax 4 48 a):Ğ (R d Bu [.Az,.ê (nf a)]) (AW ns c r) (.Ù Ä) (AW ns (c+3) r):=by
 exists d ns c r a,h n e f;obtain⟨d,Î⟩:=yZ h;show ag (cj (d:=d+2) (pu _) n (c:=c) (by show ac (by assumption) _0) (r:=r) 5 _0) λx g Bp=>ag (cj (d:=d+2) (pu _) n (c:=c+1) (i9 e _0) (r:=r) 3 _0) λy l p2=>ag (cj (d:=d+2) (pu _) n (c:=c+2) (ac (io e 2) _0) (r:=r) 2 _0) λz m o=>?_;exists d x y z,h g Bp l p2 m o;have x5:=v5 g;have n3:=zD l;have j:=v2 m;rw[show R (d+2+1) Bu [.Az,.ê (nf a)]=_ from bS (t:=BO) rfl Î,vL];have u:Ğ (XS.ex (iF (d+2)) (.Bk 2 (.idx (.ex UR) (KS 5))) [À .Az,À (.ê (nf a)),Ã,Ã,Ã,Ã]) (AW ns c r) (HQ (nf a) (wr x) Ã Ã Ã,Ã) (AW ns (c+1) r):=
  .ù (.ù (.of (yt Î) _) (.ù (vM Bp) (.of (aca g) _))) (.of put2 _)
 have v:Ğ (XS.ex (iF (d+2)) TN (HQ (nf a) (wr x) Ã Ã Ã)) (AW ns (c+1) r) (HQ (nf a) (wr x) (À (.ê (Âd (nf a) x))) Ã Ã,Ã) (AW ns (c+1) r):=by
  show aaH (.of ?_ _);have F1:Ó 103 Ac [wr x,.Ý AD] .Ã:=aa (ow x5) _0;have q:=yu x5 f;have t:=vI 103;show Ō.told (dS (n_ (N:=103) (k:=20) (ac _0 (On (show 137+3<=d+3 from h)))) UP _) (ah (vJ (nf a)) x x5) (.Æ (c:=Rh) t (.Æ (c:=cF _ _ _) q (.Æ (c:=Rh) t (.Æ (c:=cF _ _ _) q (.Æ (c:=Rh) t (.Æ (c:=cF _ _ _) F1 (.Æ (c:=Rh) t (.Æ (c:=cF _ _ _) F1 .å))))))))
 have w:Ğ (XS.ex (iF (d+2)) (.Bk 4 We) (HQ (nf a) (wr x) (À (.ê (Âd (nf a) x))) Ã Ã)) (AW ns (c+1) r) (HQ (nf a) (wr x) (À (.ê (Âd (nf a) x))) (À (.ê (Mg (1+(y:ä)) z))) Ã,Ã) (AW ns (c+3) r):=by
  have A:Ğ (XE.ev (iF (d+2)) (.bin .ŧ (.Ê 1) (KS 3)) (HQ (nf a) (wr x) (À (.ê (Âd (nf a) x))) Ã Ã)) (AW ns (c+1) r) (.Ê (1+(y:ä))) (AW ns (c+2) r):=rO (x:=.Ê 1) (y:=.Ê y) (p':=AW ns (c+1) r) Pi (vM p2) rfl;have B:Ğ (XE.ev (iF (d+2)) (.bin .Ž (.neg (.Ê 1)) (KS 2)) (HQ (nf a) (wr x) (À (.ê (Âd (nf a) x))) Ã Ã)) (AW ns (c+2) r) (.Ê (-1 -(z:ä))) (AW ns (c+3) r):=rO (x:=.Ê (-1)) (y:=.Ê z) (p':=AW ns (c+2) r) (.of ab8 _) (vM o) rfl;have C:=ab5 (Re (p:=AW ns (c+1) r) (Rs (s:=Cq)) (Re A (Re (Pi (i:=1)) ab6))) (by simp);have E:=ab5 (Re (p:=AW ns (c+1) r) (Rs (s:=BU)) (Re (ab5 (Re (.of glx _) (Re C ab6)) (by simp)) ab6)) (by simp);have G:=ab5 (Re (p:=AW ns (c+2) r) (Rs (s:=Cq)) (Re B (Re (Pi (i:=1)) ab6))) (by simp);have H:=ab5 (Re (p:=AW ns (c+1) r) (Rs (s:=Ay)) (Re E (Re G ab6))) (by simp);show .ù (a:=Mg (1+(y:ä)) z) (p':=AW ns (c+3) r) H (.of ab7 _)
 show ao (yr f) λb I=>?_;have J:=Ō.told (dS (n_ (N:=103) (k:=20) (d:=d) (ac _0 (On (show 137+3<=d+3 from h)))) UQ _) (ah (ah (ah (vK (nf a) (wr x) (Âd (nf a) x)) _ n3) z j) b (ik b)) (.Æ (c:=.Ç _) (by kernel_rfl:B_ .eq IM IM=Ñ (.Ù Ä)) (.Æ (c:=cF _ _ _) (aa I _0) (.Æ (c:=cF _ _ _) (aa aaG _0) (.Æ (c:=Rh) (vI _) (.Æ (c:=cF _ _ _) (aa (p_ n3 j) _0) (.Æ (c:=cF _ _ _) (aa (p_ n3 j) _0) .å))))));show .ù (a:=(_,À (.Ù Ä))) (p':=AW ns (c+3) r) (kQ u (kQ v (kQ w (.of J _)))) ov
end
section
def ints_map(ns:Â ä):ÂQ (ns.Ö ā.Ê)=À ns:=by
 induction ns with
 |å=>rfl
 |Æ n ns i=>show â (Ë.Ö (n:: ·)) i
theorem Sc{a:D}{p p' b:AK}(h:Ğ m p a p')(k:Ğ (Di l) p' s b):Ğ (Di (m::l)) p (a::s) b:=.ù h (.ù k Î)
def yv(d:Ï)(ns:Â ä)(n:ns.Á<=63):∃r,(Ll (iF d) (Co (ns.Ö ā.Ê))).Ĉ Ã= .ok ((Co (ns.Ö ā.Ê)).set 1 (À (.ĉ (Jr (ns.Ś 40) 0 r))),Ã) Ã:=by
 show{(ns.Ś 40).sum.fmod 997,?_};have h:HU (.É (ns.Ö ā.Ê)) (.Ê 40)=Ñ (.É ((ns.Ś 40).Ö ā.Ê)):=by
  change(if(ns.Ö ā.Ê).Á<=100000 then Ñ (ā.É (if(0:ä)<=40 then(ns.Ö ā.Ê).Ś (40:ä).ł else _)) else M.Û:M D)=_;rw[à (by rw[a2];show ac (by assumption) _0),à _0,Â.map_take];rfl
 have s:OE (.É ((ns.Ś 40).Ö ā.Ê))=Ñ (.Ê (ns.Ś 40).sum):=by
  unfold OE;simp only[ints_map]
 have a:=h;have b:Kf.ev (iF d) (Co (ns.Ö ā.Ê))=Ñ (.É ((ns.Ś 40).Ö ā.Ê)):=by
  change(HU (.É (ns.Ö ā.Ê)) (.Ê 40)>>= λx=>Kx .É [x])=_;rw[h];show à (by rw[a2,Â.length_take];show ac (Zs ..) _0)
 have c:Ğ (Fe .mod (.Ê (ns.Ś 40).sum) (.Ê 997)) Ã (.Ê ((ns.Ś 40).sum.fmod 997)) Ã:=rfl;show(Ğ.ù (.ù (Sc (.of b _) (Sc Î (Sc (.ù (.ù (.of a _) (.of s _)) c) rfl))) (.of _2 _)) (.of Î _))
section
variable{w:Cz}{ρ:Aa}{p p' p'':AK}{e:XE}{l:GH}{d:D}{ds:List Slot}
def ac_:Ğ (CF ((GH.å.ev w).Ö λf=>f ρ)) p [] p:=rfl
def ac7(h:Ğ (e.ev w ρ) p d p')(k:Ğ (CF ((l.ev w).Ö λf=>f ρ)) p' ds p''):Ğ (CF (((GH.Æ (.ex e) l).ev w).Ö λf=>f ρ)) p (.ê d::ds) p'':=.ù (.ù h Î) (.ù k Î)
end
def Ni(m:ä):XE:=.ň BG (.Æ (.Đ 1) (.Æ (.ex (.Ê m)) .å))
def ox(h:Ğ (R d BG [.Az,.ê (.Ê m)]) p v p'):Ğ (XE.ev (iF d) (Ni m) (x::À .Az::ρ)) p v p':=h
def Nj:XE:=.ň Aq (.Æ (.ex (.bin .Ž (Ni 5) (.Ê 2))) (.Æ (.ex (.bin .ŧ (.Ê 1) (Ni 2))) .å))
def aaI:([0,1,2,3,4].ş λa:Ï=>[0,1].ş λb:Ï=>Jl.any λq=>decide (q=wv ((a:ä) -2) (1+b)))=Ä:=by decide+kernel
def rX{d:Ï}(h:2<=d){ns:Â ä}(n:ns.Á<=100){c:Ï}(g:c<=400){r:ä}(x:Ë Ą):∃q:ñ,q∈Jl/\Ğ (XE.ev (iF d) Nj [x,À .Az]) (AW ns c r) (AB q) (AW ns (c+2) r):=by
 show ag (cj (d:=d) (aQ h) n (by show ac (by assumption) _0) (r:=r) 5 _0) λa Ft Bp=>ag (cj (d:=d) (aQ h) n (c:=c+1) (i9 g _0) (r:=r) 2 _0) λb l p2=>ag (ms.mp (an.mp (an.mp aaI a (v5 Ft)) b (v2 l))) λq i e=>?_;have e:=Ø e;show{q,i,?_};have f:=bt ((a:ä) -2) (1+b) ((by decide:∀b∈[0,1],1+((b:Ï):ä)≠0) b (v2 l)) (aM (k:=2) ((by decide:∀b∈[0,1],(1+((b:Ï):ä)).ï<4) b (v2 l)) _0);rw[<-e] at f;have a1:Ğ (XE.ev (iF d) (.bin .Ž (Ni 5) (.Ê 2)) [x,À .Az]) (AW ns c r) (.Ê ((a:ä) -2)) (AW ns (c+1) r):=rO (ox Bp) Pi Î;have j:Ğ (XE.ev (iF d) (.bin .ŧ (.Ê 1) (Ni 2)) [x,À .Az]) (AW ns (c+1) r) (.Ê (1+(b:ä))) (AW ns (c+2) r):=rO Pi (ox p2) rfl;show .ù (ac7 a1 (ac7 j ac_)) (.of (f d (aQ h)) _)
def vN(h:Ğ (f [À (.ê y),À .Az]) p d p')(k:Ğ (Dx f Ã (.Ě 0) L [À (.ê y),À .Az]) p' ds a):Ğ (Dx f Ã (.Ě 0) (y::L) [x,À .Az]) p (d::ds) a:=by
 have e:Dx f Ã (.Ě 0) (y::L) [x,À .Az]=f [À (.ê y),À .Az]>>= λd=>Dx f Ã (.Ě 0) L [À (.ê y),À .Az]>>= λs=>Ñ (d::s):=by
  rfl
 rw[e];show .ù h (.ù k Î)
def aaJ{d:Ï}(b:2<=d)(n:ns.Á<=100){r:ä}(L:Â D):∀(c:Ï) (x:Ë Ą),c+2*L.Á<=400->∃q:Â ñ,q.Á=L.Á/\(∀z∈q,z∈Jl)/\Ğ (Dx (XE.ev (iF d) Nj) Ã (.Ě 0) L [x,À .Az]) (AW ns c r) (q.Ö AB) (AW ns (c+2*L.Á) r):=by
 induction L with
 |å=>show λc x _=>{[],Î,(λz a=>nomatch a),Î}
 |Æ y L i=>
  intro c x h;rw[i3] at h;show ag (rX b n (c:=c) (ac (bv ..) h) (r:=r) (À (.ê y))) λq f g=>au (i (c+2) (À (.ê y)) (ac (lm ((s7 c 2 _).Ð (â (c+ ·) (lc 2 _)))) h)) λHT k j l=>{q::HT,by simp[k],λz a=>(a5.mp a).ç (λe=>e▸f) (j z),?_};rw[i3,show c+2*(L.Á+1)=c+2+2*L.Á from((s7 c 2 _).Ð (â (c+ ·) (lc 2 _))).symm];show vN g l
end
section
def Mh:Â (Â ñ):=[]::(Jl.Ö λa=>[a])++(Jl.ĥ λa=>Jl.Ö λb=>[a,b])++Jl.ĥ λa=>Jl.ĥ λb=>Jl.Ö λc=>[a,b,c]
def rY:AR (λq=>It CR [AE q]) Mh=Mh.Ö λq=>.ok (AE (AL q)) (Ň [] []):=_2
def yy{z:ñ}{q:Â ñ}(h:z∈AL q):z∈q:=by
 induction q with
 |å=>show h
 |Æ c l i=>
  unfold AL at h;generalize AL l=t at h i;cases t using i2 with
  |å=>
   dsimp only at h;split at h
   ·cases h
   ·rw[am.mp h];show .Ď _
  |Æ d m=>
   rcases a5.mp h with rfl|h
   ·show .Ď _
   ·show .ě _ (i h)
def iz(h:q.Á<=3)(d:∀z∈q,z∈Jl):q∈Mh:=by
 match q,h,d with
 |[],_,_=>show .Ď _
 |[a],_,d=>show .ě _ (dL.ĝ (.Ę (dL.ĝ (.Ę (i1.ĝ {a,d a (.Ď _),Î})))))
 |[a,b],_,d=>show .ě _ (dL.ĝ (.Ę (dL.ĝ (.Ġ (F3.ĝ {a,d a (.Ď _),i1.ĝ {b,d b (.ě _ (.Ď _)),Î}})))))
 |[a,b,c],_,d=>show .ě _ (dL.ĝ (.Ġ (F3.ĝ {a,d a (.Ď _),F3.ĝ {b,d b (.ě _ (.Ď _)),i1.ĝ {c,d c (.ě _ (.ě _ (.Ď _))),Î}}})))
 |_::_::_::_::_,h,_=>show absurd h (by simp)
def aaK:∀c∈Jl,bd 2 c:=λc h=>by
 have:∀c∈Jl,c.õ.ï<2^2/\c.þ<2^2:=by decide+kernel
 show this c h
def rZ{q:Â ñ}(h:q.Á<=3)(a:∀z∈q,z∈Jl):Œ (AL q)/\Ó 20 CR [AE q] (AE (AL q)):=aj (bA λc b=>aaK c (a c b)) λr _=>{{ac r.ŏ h,r.AL,λc b=>a c (yy b)},aR (ah rY q (iz h a))}
noncomputable def menu:Ï->Ï
 |0=>3
 |1=>0
 |2=>2
 |_=>1
def Wf:XI:=.range (.idx (.ex (.É (.Æ (.Ê 3) (.Æ (.Ê 0) (.Æ (.Ê 2) (.Æ (.Ê 1) .å)))))) (Ni 4))
def Ri:Bc:=.Æ (.Bk 5 (.comp Nj ["at"] [1] (.Ě 0) Wf)) (.Æ (.ÁE 3 (.ň CR (.Æ (.Đ 5) .å))) .å)
def LC(m:Ï):Â D:=(ty m).Ö λi:Ï=>.Ê (i:ä)
def vO(h:v<4):menu v<=3/\Jp (.É [.Ê 3,.Ê 0,.Ê 2,.Ê 1]) (.Ê v)=Ñ (.Ê (menu v))/\Hn (.Ê (menu v))=Ñ (LC (menu v)):=by
 show lt4 ?_ ?_ ?_ ?_ v h<;>show{_0,_2,_2}
def KJ(A W:Ë Ą)(Ĝ:Â D)(t:D)(x5:Ë Ą):Aa:=[A,À .Az,W,À (.ĉ Ĝ),À (.ê t),x5,Ã,Ã,Ã,Ã,Ã,Ã]
def yz:(Tg.Ě 5).put v (KJ A W Ĝ t x5)>>=(λρ'=>(Ñ (ρ',Ã):M (Aa×Ë D)))=Ñ (KJ A W Ĝ t (À (.ê v)),Ã):=_2
def yA(h:Ĝ.Á<=100000)(f:R d CR [.ê v]=Ñ u):XS.ex (iF d) (.ÁE 3 (.ň CR (.Æ (.Đ 5) .å))) (KJ A W Ĝ t (À (.ê v)))=Ñ (KJ A W (Ĝ++[u]) t (À (.ê v)),Ã):=by
 change(R d CR [.ê v]>>= λu=>(if Ĝ.Á<=100000 then Ñ (KJ A W (Ĝ++[u]) t (À (.ê v)),Ã) else M.Û))=_;rw[f];show à h
def vP:XE.ev (iF d) (.É (.Æ (.Ê 3) (.Æ (.Ê 0) (.Æ (.Ê 2) (.Æ (.Ê 1) .å))))) ρ=Ñ (.É [.Ê 3,.Ê 0,.Ê 2,.Ê 1]):=_2
def mK{d:Ï}(h:20<=d){ns:Â ä}(n:ns.Á<=100){c:Ï}(f:c<=300){r:ä}(A W x5:Ë Ą)(t:D)(Ĝ:Â D)(i:Ĝ.Á<=5):∃(q:Â ñ) (c':Ï) (y5:Ë Ą),Œ q/\c'<=c+7/\Ğ (Ri.ex (iF d) (KJ A W Ĝ t x5)) (AW ns c r) (KJ A W (Ĝ++[AE q]) t y5,Ã) (AW ns c' r):=by
 exists d ns c r A W x5 t Ĝ,h n f i;show ag (cj (d:=d) (aQ h) n (c:=c) (by show ac (by assumption) _0) (r:=r) 4 _0) λv l p=>b_ (vO l) λm x y=>?_;exists v,l p m x y;have e:(LC (menu v)).Á=menu v:=by unfold LC;simp
 show au (aaJ (d:=d) (aQ h) n (r:=r) (LC (menu v)) (c+1) Ã (ac (ii (io f 1) (li 2 (ac (lm e) m))) _0)) λq k g a=>?_;exists q,k g a;rw[e] at k a;show aj (rZ (ac (lm k) m) g) λj o=>{AL q,c+1+2*menu v,À (.ê (AE q)),j,g5 (li 2 m) (c+1),?_};have s:=by
  have b:Ğ (XE.ev (iF d) (.idx (.ex (.É (.Æ (.Ê 3) (.Æ (.Ê 0) (.Æ (.Ê 2) (.Æ (.Ê 1) .å)))))) (Ni 4)) (KJ A W Ĝ t x5)>>=Hn) (AW ns c r) (LC (menu v)) (AW ns (c+1) r):=by
   show .ù (.ù (.of vP _) (.ù (ox p) (.of x _))) (.of y _)
  show b
 have u:Ğ (CJ (XE.ev (iF d) Nj) Ã (.Ě 0) (LC (menu v)) [Ã,À .Az]) (AW ns (c+1) r) (AE q) (AW ns (c+1+2*menu v) r):=by
  unfold CJ;rw[à (by rw[e];show ac (by assumption) _0)];show .ù (iy a) rfl
 have w:Ğ (XE.ev (iF d) (.comp Nj ["at"] [1] (.Ě 0) Wf) (KJ A W Ĝ t x5)) (AW ns c r) (AE q) (AW ns (c+1+2*menu v) r):=.ù s u;show kQ (.ù w (.of yz _)) (kQ (.of (yA (by show ac (by assumption) _0) (o d h)) _) rfl)
end
section
def yB:MU 600=iF 600:=by unfold iF;rw[oV,j_]
def Rj:Bc:=match Dn.Ć with
 | .Æ _ (.Æ _ l)=>l
 |_=>.å
def Jn:Bc:=match Rj with
 | .freeze _ (.Æ _ (.Æ _ l))=>l
 |_=>.å
def FG(A x3 x4 x5:Ë Ą)(v:ä)(a b:Â ñ):Aa:=[A,À .Az,À (.ê (.Ê v)),x3,x4,x5,À (.ê (AE a)),À (.ê (AE b)),À (.ê (nf a)),À (.ê (nf b)),Ã,Ã]
def Xw(k:ä):XE:=.cmp .eq (.Đ 2) (.Ê k)
def ef{t:é}(h:B_ .eq (.Ê v) (.Ê k)=Ñ (.Ù t))(p:AK):Ğ ((Xw k).ev (iF 600) (FG A x3 x4 x5 v a b)) p (.Ù t) p:=.of h p
def FU(f:Þ):XE:=.ň f (.Æ (.Đ 6) (.Æ (.Đ 7) (.Æ (.Đ 8) (.Æ (.Đ 9) .å))))
def KN:XS:=match Jn with
 | .Æ _ (.Æ s _)=>s
 |_=>.Û
def Pz:XE:=.ő (.cmp .eq (.Đ 2) (.Ê 3)) (.ň Bu (.Æ (.Đ 1) (.Æ (.Đ 8) .å))) (.ň Bq (.Æ (.Đ 1) (.Æ (.Đ 8) (.Æ (.Đ 9) .å))))
def oy:Jn= .Æ (.ő (Xw 0) (.Æ (.Ũ (FU BJ)) .å) .å) (.Æ KN (.Æ (.ő (Xw 2) (.Æ (.Ũ (FU BF)) .å) .å) (.Æ (.Ũ Pz) .å))):=_2
def aaL{A x3 x4 x5:Ë Ą}{a b:Â ñ}:XS.ex (iF 600) KN (FG A x3 x4 x5 2 a b)=Ñ (FG A x3 x4 x5 2 a b,Ã)/\XS.ex (iF 600) KN (FG A x3 x4 x5 3 a b)=Ñ (FG A x3 x4 x5 3 a b,Ã)/\XS.ex (iF 600) KN (FG A x3 x4 x5 4 a b)=Ñ (FG A x3 x4 x5 4 a b,Ã):={_2,_2,_2}
def ac2(h:Ğ (s.ex i ρ) p (ρ',À v) p'):Ğ ((Bc.Æ s l).ex i ρ) p (ρ',À v) p':=.ù h Î
def acb(h:Ğ (R 600 Bu [.Az,.ê (nf a)]) p (.Ù Ä) p'):Ğ (Pz.ev (iF 600) (FG A x3 x4 x5 3 a b)) p (.Ù Ä) p':=.ù (a:=Ä) (.of _2 p) h
def acd(h:Ğ (R 600 Bq [.Az,.ê (nf a),.ê (nf b)]) p (.Ù Ä) p'):Ğ (Pz.ev (iF 600) (FG A x3 x4 x5 4 a b)) p (.Ù Ä) p':=.ù (a:=Å) (.of _2 p) h
def zE(h:R 600 f [.ê (AE a),.ê (AE b),.ê (nf a),.ê (nf b)]=Ñ (.Ù Ä))(p:AK):Ğ ((FU f).ev (iF 600) (FG A x3 x4 x5 v a b)) p (.Ù Ä) p:=.of h p
def Œ.n(h:Œ q):Ax 3 2 q:=h.row.n
def vQ{ns:Â ä}(f:ns.Á<=100){c:Ï}(l:c<=300){r:ä}{a b:Â ñ}(h:Œ a)(d:Œ b){v:Ï}(g:v<5)(A x3 x4 x5:Ë Ą)(i:∃ρ',XS.ex (iF 600) KN (FG A x3 x4 x5 1 a b)=Ñ (ρ',À (.Ù Ä))):∃ρ' p,Ğ (Jn.ex (iF 600) (FG A x3 x4 x5 v a b)) (AW ns c r) (ρ',À (.Ù Ä)) p:=by
 rw[oy];show b_ (aaL (A:=A) (x3:=x3) (x4:=x4) (x5:=x5) (a:=a) (b:=b)) λs j k=>?_;show lt5 ?_ ?_ ?_ ?_ ?_ v g
 ·show{_,_,acF (ef _2 _) (aaV (zE (div_right h d _0) _))}
 ·show ao i λρ' e=>{_,_,xC (ef _2 _) (ac2 (.of e _))}
 ·show{_,_,xC (ef _2 _) (kQ (.of s _) (acF (ef _2 _) (aaV (zE (rN h d _0) _))))}
 ·show{_,_,xC (ef _2 _) (kQ (.of j _) (xC (ef _2 _) (aaV (acb (rW _0 f (ac (by assumption) _0) (h.n.le _0 _0))))))}
 ·show{_,_,xC (ef _2 _) (kQ (.of k _) (xC (ef _2 _) (aaV (acd (mJ _0 f (ac (by assumption) _0) h.n d.n)))))}
end
section
def Iu(A x2 x3 x4 x5:Ë Ą):Aa:=[A,À .Az,x2,x3,x4,x5,Ã,Ã,Ã,Ã,Ã,Ã]
def Wg:XS:=.par Ä [(.ê (Ni 5)),(.É .å)] [2,3]
def Wh:XS:=.for (.Ě 4) (.range (.Ê 2)) Ri
def Wi:XS:=.EE (.Æ (.Ě 6) (.Æ (.Ě 7) .å)) (.Đ 3)
def Wj:XS:=.par Ä [(.ê (.ň Bd (.Æ (.Đ 6) .å))),(.ê (.ň Bd (.Æ (.Đ 7) .å)))] [8,9]
def r_:Dn.Ć= .Æ Wg (.Æ Wh (.freeze 3 (.Æ Wi (.Æ Wj Jn)))):=_2
def Wk(A x3 x4 x5:Ë Ą)(v:ä)(a b:Â ñ):Aa:=[A,À .Az,À (.ê (.Ê v)),x3,x4,x5,À (.ê (AE a)),À (.ê (AE b)),Ã,Ã,Ã,Ã]
def yC:XS.ex (iF 600) Wi (Iu A (À (.ê (.Ê v))) (À (.ê (.É [AE a,AE b]))) x4 x5)=Ñ (Wk A (À (.ê (.É [AE a,AE b]))) x4 x5 v a b,Ã):=_2
def yD(d:Œ a)(e:Œ b):XS.ex (iF 600) Wj (Wk A x3 x4 x5 v a b)=Ñ (FG A x3 x4 x5 v a b,Ã):=
 have f:∀{q},Œ q->Ó 65 Bd [AE q] (nf q):=λh=>fi {h.ŏ,h.AL,λc g=>(h.row.bd c g).le _0}
 vv (k:=5) (n:=5) (hk:=0) (S:=[Bd]) (os:=[nf a,nf b]) (ŋ:=[]) _0 (.Æ (c:=cF Bd [AE b] (nf b)) (f e) (.Æ (c:=cF Bd [AE a] (nf a)) (f d) .å)) _2
def yE:XI.ev (iF 600) (.range (.Ê 2)) (Iu A x2 x3 Ã Ã)=Ñ [.Ê 0,.Ê 1]:=_2
def qa{A x2 x4 x5:Ë Ą}:(Tg.Ě 4).put x (Iu A x2 (À (.ĉ Ĝ)) x4 x5)=Ñ (KJ A x2 Ĝ x x5):=_2
def lwZ:Hq 3 (Iu A x2 (À (.ĉ l)) x4 x5)=Ñ (Iu A x2 (À (.ê (.É l))) x4 x5):=_2
def vR:(Ñ (if Ä=Ä then Gx (Iu A Ã Ã Ã Ã) [2,3].Ė [Ą.ê (.Ê v),Ą.ĉ []].Ė else Gx (Iu A Ã Ã Ã Ã) [2,3] [Ą.ê (.Ê v),Ą.ĉ []],Ã):M (Aa×Ë D))=Ñ (Iu A (À (.ê (.Ê v))) (À (.ĉ [])) Ã Ã,Ã):=_2
def yF{A:Ë Ą}(h:Ğ (R 600 BG [.Az,.ê (.Ê 5)]) p (.Ê v) p'):Ğ (XS.ex (iF 600) Wg (Iu A Ã Ã Ã Ã)) p (Iu A (À (.ê (.Ê v))) (À (.ĉ [])) Ã Ã,Ã) p':=by
 have z:(Ju (.Ê v))=Ñ (.ê (.Ê v)):=_2
 show .ù (.ù (.ù (h) (.of z _)) (.of _2 _)) (.of vR _)
def vS(Q:∀{a b:Â ñ},Œ a->Œ b->∀A x3 x4 x5,∃ρ',XS.ex (iF 600) KN (FG A x3 x4 x5 1 a b)=Ñ (ρ',À (.Ù Ä))){ns:Â ä}(h:ns.Á<=100){r:ä}(A:Ë Ą):∃p,Ğ (Dn.Ć.ex (iF 600) (Iu A Ã Ã Ã Ã)>>=Cf) (AW ns 0 r) (.Ù Ä) p:=by
 exists ns r A,h;show ag (cj (d:=600) _0 h (c:=0) _0 (r:=r) 5 _0) λv l Bp=>ba (mK (d:=600) _0 h (c:=1) _0 (r:=r) A (À (.ê (.Ê v))) Ã (.Ê 0) [] _0) λa o y1 e i t=>ba (mK (d:=600) _0 h (by show ac (by assumption) _0) (r:=r) A (À (.ê (.Ê v))) y1 (.Ê 1) [AE a] (by simp)) λb g y2 f j k=>bB (vQ h (c:=g) (ac j (ac (io i 7) _0)) (r:=r) e f l A (À (.ê (.É [AE a,AE b]))) (À (.ê (.Ê 1))) y2 (Q e f _ _ _ _)) λρ' p m=>?_;have s:=yF (A:=A) Bp;have n:Ğ (XS.ex (iF 600) Wh (Iu A (À (.ê (.Ê v))) (À (.ĉ [])) Ã Ã)) (AW ns 1 r) (Iu A (À (.ê (.Ê v))) (À (.ĉ [AE a,AE b])) (À (.ê (.Ê 1))) y2,Ã) (AW ns g r):=
  .ù (.of yE _) (iy (fz (qa (x4:=Ã)) t (fz (qa (x4:=À (.ê (.Ê 0)))) k zC)))
 rw[r_];show{p,.ù (a:=(ρ',À (.Ù Ä))) (p':=p) ?_ ov};show kQ s (kQ n (.ù (.of lwZ _) (kQ (.of yC _) (kQ (.of (yD e f) _) m))))
def sa(Q:∀{a b:Â ñ},Œ a->Œ b->∀A x3 x4 x5,∃ρ',XS.ex (iF 600) KN (FG A x3 x4 x5 1 a b)=Ñ (ρ',À (.Ù Ä))):∀ns:Â ä,ns.Á<=63->∃l p,(Ll (MU 600) (Co (ns.Ö ā.Ê))).Ĉ Ã= .ok ((Co (ns.Ö ā.Ê)).set 1 (À (.ĉ l)),Ã) Ã/\
  ((Dn.Ć.ex (MU 600) (((Co (ns.Ö ā.Ê)).set 1 (À (.ĉ l))).set 1 (À .Az)))>>=Cf).Ĉ (À l)= .ok (.Ù Ä) p:=λns n=>by
 exists ns,n;show ao (yv 600 ns n) λr h=>ao (vS Q (ns:=ns.Ś 40) (by simp;show ac (Zs ..) _0) (r:=r) (À (.ê (.É (ns.Ö ā.Ê))))) λp k=>{Jr (ns.Ś 40) 0 r,p,h,?_};rw[yB];show k
end
section
abbrev CX:=N7 ä
abbrev di(c:CX)(e:PE):ä:=W3 c e
def FW(c:CX)(p:Â PE):D:=.É (p.Ö λe=>.Ê (di c e))
def Gu(a b:Â PE):Â PE:=(ty (max a.Á b.Á)).Ö λi=>.ŧ (if i<a.Á then a.ø i (.õ 0) else .õ 0) (if i<b.Á then(b.Ö .neg).ø i (.õ 0) else .õ 0)
def DN{α:Type}(E:Ï->α)(i n:Ï):Â α:=(ZS i n).Ö E
inductive AI
 |sc(p:Â PE)(k:PE)|sb(a b:Â PE)(k:Ï)|dv(p:Â PE)(k:PE)(r:Â PE)|tl(a b:PE)|pw(a:PE)(n:Ï)|fd(a b o:PE)|md(b:PE)|bq(b:é)
noncomputable def AI.d(c:CX):AI->D
 | .sc p k=>cF Fm [FW c p,.Ê (di c k)] (FW c (p.Ö λx=>.ļ x k))
 | .sb a b k=>cF Hy [FW c a,FW c b] (FW c ((Gu a b).Ś k))
 | .dv p k r=>cF DZ [FW c p,.Ê (di c k)] (FW c r)
 | .tl a b=>.Ç [.Ê (di c a),.Ê (di c b)]
 | .pw a n=>.Ç [.Ù Ä,.Ê (di c a),.Ê n]
 | .fd a b o=>.Ç [.Ã,.Ê (di c a),.Ê (di c b),.Ê (di c o)]
 | .md b=>.Ç [.Ã,.Ê (di c b)]
 | .bq b=>cB b b
abbrev GP:=(Ï->D)×(Ï->PE)×CX
instance XP:í GP:={(λ_=>.Ã,λ_=>.õ 0,.leaf 0)}
def US(h:Ï)(S:Â Þ)(f:Þ)(l c:Â D):Out D:=(RN h S 20 20 f (l.Ö .ê)).Ĉ (Ň (c.ĥ NQ) [])
def Wl(c:CX)(p:Â PE)(k:PE):Â D:=cB (!decide (di c k=0)) Ä::p.Ö λx=>.Ç [.Ê (di c x),.Ê (di c k)]
def Wm(c:CX)(p:Â PE)(k:PE):Â D:=p.Ö λx=>.Ç [.Ê (di c k)]
def Rk(I:Ï->ä):Ï->Ï->Â D
 |0,_=>[cB Å Å]
 |n+1,k=>cB Ä Ä::cB (decide (I n=0)) (J0 k (n+1))::match J0 k (n+1) with
  |Ä=>Rk I n k
  |Å=>[]
def Xx(p:GP)(n:Ï):Out D×Out D×Â (Out D)×Â (Out D):=
 let l:=DN p.2.1 0 n;let k:=p.2.1 6;let c:=p.2.2
 (US 1 [] Fm [FW c l,.Ê (di c k)] (Wl c l k),US 1 [] DZ [FW c l,.Ê (di c k)] (Wm c l k),
  AR (λk=>US 1 [] EH [FW c l] (Rk (λi=>di c (p.2.1 i)) n k)) (ty (n+1)),AR (λm=>US 1 [EH] Hy [FW c l,FW c (DN p.2.1 3 m)] [cF EH [FW c (Gu l (DN p.2.1 3 m))] (p.1 0)]) [0,1,2,3])
def Xy(p:GP)(n:Ï):Out D×Out D×Â (Out D)×Â (Out D):=
 let l:=DN p.2.1 0 n;let k:=p.2.1 6;let c:=p.2.2
 (.ok (FW c (l.Ö λx=>.ļ x k)) (Ň [] (Wl c l k).Ė),.ok (.É (l.Ö λx=>.Ê ((di c x).ī (di c k)))) (Ň [] (Wm c l k).Ė),
  (ty (n+1)).Ö λk=>.ok (FW c (l.Ś k)) (Ň [] (Rk (λi=>di c (p.2.1 i)) n k).Ė),[0,1,2,3].Ö λm=>.ok (p.1 0) (Ň [] [cF EH [FW c (Gu l (DN p.2.1 3 m))] (p.1 0)]))
def SO(p:GP):Prop:=AR (Xx p) [0,1,2,3]=[0,1,2,3].Ö (Xy p)
def Xz:GP:=un λp=>¬SO p
def gP(p:GP):SO p:=aI (show SO Xz by unfold SO;kernel_rfl) p
end
section
def Ft(l:Â PE):PE:=l.ø (l.Á -1) (.õ 0)
def Wn(b:Â PE):Ï->Â Ï->Â PE->Â PE->Â AI×Â PE×Â PE×Â Ï×Ï
 |n+1,k1::k2::k,f,r=>match J0 r.Á b.Á with
  |Ä=>([],f,r,k1::k2::k,n+1)
  |Å=>
   let z:Â PE:=ln (r.Á -b.Á) (.õ 0);let a:=f.Ö λx=>.ļ x (Ft b);let c:=z++[.neg (Ft r)];let d:=r.Ö λx=>.ļ x (Ft b);let e:=z++b.Ö λx=>.ļ x (Ft r);let q:=Wn b n k ((Gu a c).Ś k1) ((Gu d e).Ś k2)
   ([.sc f (Ft b),.sb a c k1,.sc r (Ft b),.sc b (Ft r),.sb d e k2]++q.1,q.2)
 |n,k,f,r=>([],f,r,k,n)
def XB(k:Â Ï)(a b:Â PE):Â AI×Â PE×Â Ï:=
 let q:=Wn b (a.Á -b.Á+1) k [] a;let n:=q.2.2.2.2;let m:PE:=.pow (Ft b) n;let r:=q.2.2.1.Ö λx=>.ļ x m
 (q.1++[.pw (Ft b) n,.sc q.2.1 m,.sc q.2.2.1 m]++r.ĥ λx=>[.pw (Ft b) 0,.tl x (.pow (Ft b) 0)],r.Ö λx=>.ļ x (.pow (Ft b) 0),q.2.2.2.1)
noncomputable def odd(n:Ï):é:=pp (n %2) 1
def Wo(a b:Â PE):Â AI:=.md (.õ 2)::match odd (a.Á -1) with
 |Ä=>[.md (.õ 2)]
 |Å=>[]
noncomputable def sgn(a b:Â PE)(s:PE):PE:=match odd (a.Á -1)&&odd (b.Á -1) with
 |Ä=>.neg s
 |Å=>s
def Wq(Q:PE):Ï->Â Ï->Â PE->Â PE->PE->PE->PE->Â AI×PE
 |n+1,f,a,b,s,g,h=>match J0 1 b.Á with
  |Ä=>
   let p:=a.Á -b.Á;let q:=XB f a b;let k:PE:=.ļ g (.pow h p);let d:=match GL k (.õ 1) with
    |Ä=>q.2.1
    |Å=>q.2.1.Ö λ_=>Q
   let g':=Ft b;let e:Â AI×PE:=match J0 0 p with
    |Ä=>([.bq Ä,.pw g' p,.pw h (p -1),.fd (.pow g' p) (.pow h (p -1)) (.pow g' p)],.pow g' p)
    |Å=>([.bq Å],h)
   let z:=Wq Q n q.2.2 b d (sgn a b s) g' e.2
   (Wo a b++q.1++[.pw h p,.tl g (.pow h p),.dv q.2.1 k d]++e.1++z.1,z.2)
  |Å=>match b with
   |[]=>([],.õ 0)
   |c::_=>
    let m:=a.Á -1
    match J0 0 m with
    |Ä=>([.bq Ä,.pw c m,.pw h (m -1),.fd (.pow c m) (.pow h (m -1)) (.pow c m),.tl s (.pow c m)],.ļ s (.pow c m))
    |Å=>([.bq Å,.tl s (.õ 1)],.ļ s (.õ 1))
 |0,_,_,_,_,_,_=>([],.õ 0)
structure Pt where
 sw:é
 Ft:Ï
 lb:Ï
 ks:Â Ï
 zs:Â PE
 ns:Â PE
 hs:Â (PE×PE)
 mu:PE
 hv:Â (PE×PE)
def Pt.A(p:Pt):Â PE:=DN .Đ 0 p.Ft
def Pt.B(p:Pt):Â PE:=DN .Đ 3 p.lb
def Wr(Ky a1 c b a:PE):PE:=.ŧ (.Ž (.ļ c (.ļ b b)) (.ļ a1 (.ļ b a))) (.ļ Ky (.ļ a a))
def Ku:Â PE->Â PE->PE
 |[_],[_]=>.õ 1
 |[_,_],[a]=>a
 |[_,_,_],[a]=>.ļ a a
 |[a,b],[c,d]=>.Ž (.ļ b c) (.ļ a d)
 |[a,b,c],[d,e]=>Wr a b c d e
 |[a,b,c],[d,e,f]=>.Ž (.ļ (.Ž (.ļ c d) (.ļ a f)) (.Ž (.ļ c d) (.ļ a f))) (.ļ (.Ž (.ļ c e) (.ļ b f)) (.Ž (.ļ b d) (.ļ a e)))
 |_,_=>.õ 0
def Pt.L(p:Pt):Â AI×PE:=
 let l:PE:=.pow (.õ 1) (p.lb -1);let m:PE:=.pow (.õ 1) (p.Ft -1);let z:=Wq (Ku p.A p.B) 3 p.ks p.A p.B (.õ 1) (.õ 1) (.õ 1)
 ([.pw (.õ 1) (p.lb -1),.pw (.õ 1) (p.Ft -1),.tl l m,.dv p.A (.õ 1) p.A,.dv p.B (.õ 1) p.B]++z.1++[.tl (.ļ l m) z.2],.ļ (.ļ l m) z.2)
def SP(c:CX)(l:Â PE):D:=cF Bg [FW c l] (.Ê 1)
def Pt.M(p:Pt):Â AI:=match p.sw with
 |Ä=>Wo p.A p.B
 |Å=>[]
def Pt.D(c:CX)(p:Pt):Â D:=p.M.Ö (AI.d c)++SP c p.A::SP c p.B::p.L.1.Ö (AI.d c)
noncomputable def Pt.Ū(c:CX)(p:Pt):Â PQ.Internal.D:=match p.sw with
 |Ä=>[FW c p.B,FW c p.A]
 |Å=>[FW c p.A,FW c p.B]
def UT(Ky a1 c b a:PE):Â (Â Ï×Â PE×Â PE×Â (PE×PE)):=
 let r:PE:=.Ž (.ļ a1 a) (.ļ b c);let It:PE:=.ļ Ky a;let d:PE:=.Ž (.ļ It a) (.ļ b r)
 [([2,0],[r,It],[],[(r,b),(It,.neg a)]),([2,1],[r],[It],[(r,b)]),([2,2,2,0],[d],[r],[(d,.õ (-1))]),([2,2,2,1],[],[r,d],[])]
def Gv(s:é):Â Pt:=(UT (.Đ 0) (.Đ 1) (.Đ 2) (.Đ 3) (.Đ 4)).Ö λw=>{s,3,2,w.1,w.2.1,w.2.2.1++[.Đ 2,.Đ 4],[],.õ 1,w.2.2.2}
def Mi:PE:=.Ž (.ļ (.Đ 0) (.Đ 5)) (.ļ (.Đ 3) (.Đ 2))
def Mj:PE:=.Ž (.ļ (.Đ 1) (.Đ 5)) (.ļ (.Đ 4) (.Đ 2))
def XQ:PE:=.Ž (.ļ (.Đ 1) (.Đ 3)) (.ļ (.Đ 0) (.Đ 4))
def Jo:Â Pt:={Å,3,3,[1,0],[Mj,Mi],[.Đ 2,.Đ 5],[],.õ 1,[(Mi,.neg Mi),(Mj,.neg XQ)]}::{Å,3,3,[1,1],[Mj],[Mi,.Đ 2,.Đ 5],[],.õ 1,[(Mj,.neg XQ)]}::
 (UT (.Đ 3) (.Đ 4) (.Đ 5) Mi Mj).Ö λw=>⟨Å,3,3,[1,2]++w.1,w.2.1,w.2.2.1++[Mj,.Đ 2,.Đ 5],[(.Ž (.ļ (.Đ 4) Mj) (.ļ Mi (.Đ 5)),Mi)],match w.1.ÀR with
  |À 0=>.Đ 5
  |_=>.õ 1,match w.1.ÀR with
  |À 0=>w.2.2.2
  |_=>[]⟩
def SQ:PE:=.Ž (.ļ (.Đ 0) (.Đ 4)) (.ļ (.Đ 3) (.Đ 1))
def Iv(Ft l:Ï)(s:é):Pt:={s,Ft,l,[],[],[.Đ (Ft -1),.Đ (l+2)],[],.õ 1,[]}
def SR:Â Pt:=[{Å,2,2,[1,0],[SQ],[.Đ 1,.Đ 4],[],.õ 1,[(SQ,.õ 1)]},{Å,2,2,[1,1],[],[SQ,.Đ 1,.Đ 4],[],.õ 1,[]}]
def Eb:Â Pt:=[Iv 1 1 Å,Iv 2 1 Å,Iv 3 1 Å,Iv 2 1 Ä,Iv 3 1 Ä]++SR++Gv Å++Gv Ä++Jo
def XC:Â Þ:=[Hy,Fm,DZ,Bg]
def SS(c:CX):Prop:=AR (λp=>US 3 XC Cd (p.Ū c) (p.D c)) Eb=Eb.Ö λp=>.ok (.Ê (di c p.L.2)) (Ň [] (p.D c).Ė)
instance XR:í CX:={.leaf 0}
def XD:CX:=un λp=>¬SS p
def yG(c:CX):SS c:=aI (show SS XD by unfold SS;kernel_rfl) c
end
section
def UU(z:Â PE)(e:PE):é:=GL e (.õ 0)||z.any (GL e)
def Rr(ns:Â PE)(e:PE):é:=GL e (.õ 1)||(GL e (.õ 2)||ns.any λn=>GL e n||GL e (.neg n))
def UW(z ns:Â PE)(e:PE):é:=e.rec (motive:=λ_=>é) (λk=>Rr ns (.õ k)) (λk=>Rr ns (.natCast k)) (λk=>Rr ns (.intCast k)) (λk=>Rr ns (.Đ k))
 (λa i=>Rr ns (.neg a)||i) (λa b i c=>Rr ns (.ŧ a b)||(i&&UU z b||UU z a&&c)) (λa b _ _=>Rr ns (.Ž a b)) (λa b i c=>Rr ns (.ļ a b)||i&&c) (λa k i=>Rr ns (.pow a k)||i)
def PA(e:PE):Ï:=e.rec (motive:=λ_=>Ï) (λk=>k.ï+1) (λ_=>9999) (λ_=>9999) (λi=>if i<6 then 3 else 9999) (λ_ a=>a) (λ_ _ a b=>a+b+1) (λ_ _ a b=>a+b+1) (λ_ _ a b=>a+b) (λ_ k a=>a*k+1)
def Rt(e:PE):é:=s4 (PA e) 4000
def XT(z:Â PE)(s:Â (PE×PE))(x y:PE):é:=GL x y||s.any λh=>UU z h.1&&GL x (.ŧ y (.ļ h.1 h.2))
noncomputable def AI.ok(z ns:Â PE)(h:Â (PE×PE)):AI->é
 | .sc p k=>s4 p.Á 3&&(UW z ns k&&(Rt k&&p.ş Rt))
 | .sb a b k=>s4 a.Á 3&&(s4 b.Á 3&&(((Gu a b).Ń k).ş (UU z)&&match k with
  |0=>Ä
  |k+1=>match(Gu a b)[k]? with
   |À e=>UW z ns e
   |Ã=>Å))
 | .dv p k r=>s4 p.Á 3&&(UW z ns k&&(Rt k&&(pp r.Á p.Á&&(p.zip r).ş λx=>XT z h x.1 (.ļ x.2 k))))
 | .tl a b=>Rt a&&Rt b
 | .pw a n=>Rt a&&s4 n 100
 | .fd a b o=>UW z ns b&&(Rt b&&GL a (.ļ o b))
 | .md b=>UW z ns b
 | .bq _=>Ä
noncomputable def Pt.ok(p:Pt):é:=(p.M.ş (AI.ok p.zs p.ns p.hs)&&p.L.1.ş (AI.ok p.zs p.ns p.hs))&&(UW p.zs p.ns p.mu&&(p.hv.ş (λh=>UU p.zs h.1)&&GL (.ļ p.L.2 p.mu) (p.hv.foldl (λe h=>.ŧ e (.ļ h.1 h.2)) (.ļ (Ku p.A p.B) p.mu))))
def vT:Eb.ş Pt.ok=Ä:=_2
structure Wy(c:CX)(s ns:Â PE):Prop where
 z:∀e∈s,di c e=0
 n:∀e∈ns,di c e≠0
 b:∀i,i<6->(c.ĵ i).ï<8
def bZ(h:GL a b=Ä):di c a=di c b:=Ix c a b h
section
variable{c:CX}{zs ns:List PE}(w:Wy c zs ns)
include w
def iA(h:UU zs e=Ä):di c e=0:=by
 rcases g4.mp h with h|h
 ·rw[bZ h];rfl
 ·show ag (ms.mp h) λa b q=>?_;rw[bZ q];show w.z a b
def iB(h:Rr ns e=Ä):di c e≠0:=by
 rcases g4.mp h with h|h
 ·rw[bZ h];show(by decide:(1:ä)≠0)
 ·rcases g4.mp h with h|h
  ·rw[bZ h];show(by decide:(2:ä)≠0)
  ·show ag (ms.mp h) λa b q=>?_;rcases g4.mp q with q|q
   ·rw[bZ q];show w.n a b
   ·rw[bZ q];show Yy.ĝ (w.n a b)
def fQ(e:PE):UW zs ns e=Ä->di c e≠0:=by
 induction e with
 |ŧ a b i d=>
  intro h;rcases g4.mp h with h|h
  ·show iB w h
  ·change di c a+di c b≠0;rcases g4.mp h with h|h
   ·rw[iA w (ae h),Zw];show i (af h)
   ·rw[iA w (af h),ä.zero_add];show d (ae h)
 |ļ a b i d=>
  intro h;rcases g4.mp h with h|h
  ·show iB w h
  ·show pc (i (af h)) (d (ae h))
 |pow a k i=>
  intro h;rcases g4.mp h with h|h
  ·show iB w h
  ·show ä.pow_ne_zero (i h)
 |neg a i=>
  intro h;rcases g4.mp h with h|h
  ·show iB w h
  ·show Yy.ĝ (i h)
 |_=>show iB w
def vU(e:PE):PA e<=9000->(di c e).ï<2^PA e:=by
 have two:∀{x y:ä} {i j:Ï},x.ï<2^i->y.ï<2^j->x.ï+y.ï<2^(i+j+1):=λ{x y i j} l m=>by
  rw[X0,Ï.mul_two];show Ï.add_lt_add (ce l (p2 (bv i j))) (ce m (p2 (f3 j i)))
 induction e with
 |Đ i=>
  intro h;have h:(if i<6 then 3 else 9999)<=9000:=h;change _<2^(if i<6 then 3 else 9999);by_cases q:i<6
  ·rw[à q];show w.b i q
  ·rw[ß q] at h;show absurd h _0
 |neg a d=>show λh=>by change(-di c a).ï<_;rw[U0];show d h
 |ŧ a f d g=>show λh=>i9 (ä.natAbs_add_le _ _) (have h:PA a+PA f+1<=9000:=h;two (d (ac (bv ..) (T8 h))) (g (ac (f3 ..) (T8 h))))
 |Ž a f d g=>show λh=>i9 (ä.natAbs_sub_le _ _) (have h:PA a+PA f+1<=9000:=h;two (d (ac (bv ..) (T8 h))) (g (ac (f3 ..) (T8 h))))
 |ļ a f d g=>show λh=>by change(di c a*di c f).ï<_;rw[nw];show have h:PA a+PA f<=9000:=h;ÀW (d (ac (bv ..) h)) (g (ac (f3 ..) h))
 |pow a k d=>
  intro h;change(di c a^k).ï<_;have hb:k=0\/PA a<=9000:=by
   rcases k with _|k
   ·show .Ę Î
   ·show .Ġ (by have h:PA a*(k+1)+1<=9000:=h;show ac (Ï.le_mul_of_pos_right _ (pu k)) (T8 h))
  rw[ä.natAbs_pow];rcases hb with rfl|hb
  ·show(by decide:1<2^1)
  ·show i9 (Ï.pow_le_pow_left (i5 (d hb)) k) (by rw[<-Ï.pow_mul];show Ï.pow_lt_pow_right _0 (p1 _))
 |õ k=>
  intro _;change(Lean.Grind.CommRing.denoteInt k:ä).ï<2^(k.ï+1);rw[P3];show ce Yu (p2 (v3 _))
 |_=>show λh=>absurd h (show ¬9999<=9000 by decide)
def iC(h:Rt e=Ä):sm (di c e)=Ä:=aM (vU w e (by have:=be h;show ac (by assumption) _0)) (by have:=be h;show ac (by assumption) _0)
def qb(h:Rt a=Ä)(k:Rt b=Ä):AX (di c a) (di c b)=Ä:=by
 unfold AX;rw[iC w h,iC w k];rfl
end
end
section
def mL{n:Ï}(h:s4 n 3=Ä):n∈[0,1,2,3]:=(by decide:∀n,n<4->n∈[0,1,2,3]) n (i4 (be h))
def TO(a b:Â PE)(k:PE)(i:Ï):PE:=if i<3 then a.ø i (.õ 0) else if i<6 then b.ø (i -3) (.õ 0) else k
def eg{d:α}(h:∀i,i<l.Á->E (j+i)=l.ø i d):DN E j l.Á=l:=by
 unfold DN;apply B0
 ·simp
 ·intro i b a;rw[sp,U7,TW,h i a];simp[a]
def yH(h:s4 a.Á 3=Ä):DN (TO a b k) 0 a.Á=a:=eg λi c=>by
 have:=be h;rw[s6];show à (ce c this)
def ivB(h:s4 b.Á 3=Ä):DN (TO a b k) 3 b.Á=b:=eg λi c=>by
 have:=be h;show(ß (i8.ĝ (bv 3 i))).Ð ((à (R2 (ce c this) 3)).Ð (by rw[pt]))
def aaM(n:Ï)(hk:k<=n)(c:∀i,k<=i->i<n->I i=0)(d:∀j,k=j+1->I j≠0):Hs (Hc 0) (Rk I n k):=by
 induction n with
 |ž=>show .Æ Î .å
 |ś n e=>
  unfold Rk;by_cases h:k<n+1
  ·rw[show J0 k (n+1)=Ä from l4 h];show .Æ Î (.Æ (Ă (c n (ww h) (a3 _))) (e (ww h) λi a b=>c i a (AC b)))
  ·rw[show J0 k (n+1)=Å from AT.ĝ λq=>h (be q)];show .Æ Î (.Æ (û (d n (Q2 hk (i8.mp h)))) .å)
def vV(h:s4 l.Á 3=Ä)(hk:k<=l.Á)(f:∀e∈l.Ń k,di c e=0)(g:∀j e,k=j+1->l[j]? =À e->di c e≠0):Ó 20 EH [FW c l] (FW c (l.Ś k)):=by
 have m:=be h;have z:=ah (gP (λ_=>.Ã,TO l [] (.õ 0),c)) _ (mL h);have z:=ah (f0 (f0 (f0 z).2).2).1 k (M4.ĝ (i4 hk));dsimp only at z;rw[yH h] at z;have e:∀i (d:i<l.Á),TO l [] (.õ 0) i=l[i]:=λi d=>(à (ce d m)).Ð (by simp[d]);show sr (Hs.rev (aaM l.Á hk (λi a b=>?_) λj q=>?_)) z
 ·rw[e i b];show f _ (Â.mem_drop_iff_getElem.ĝ {i -k,by rw[us a];show b,by congr 1;show YT a})
 ·rw[e j (ac (lm q.symm) hk)];show g j _ q (ch _)
def gQ{f:α->D}{l:Â α}(h:∀x∈l,H (f x)):Hs H (l.Ö f):=λc a=>by
 obtain⟨x,b,Î⟩:=i1.mp a;show h x b
section
variable{c:CX}{zs ns:List PE}(w:Wy c zs ns)
include w
def aaN(h:XT zs s x y=Ä):di c x=di c y:=by
 rcases g4.mp h with h|h
 ·show bZ h
 ·show ag (ms.mp h) λz _ q=>?_;rw[bZ (ae q)];change di c y+di c z.1*di c z.2=_;rw[iA w (af q),act,Zw]
def AI.sound{C:Â (PE×PE)}{x:AI}(h:x.ok zs ns C=Ä):Hc 60 (x.d c):=by
 cases x with
 |sc p k=>
  have z:=(f0 (ah (gP (λ_=>.Ã,TO p [] k,c)) _ (mL (af h)))).1;rw[yH (af h)] at z;show aa (sr (N:=0) (l:=[FW c p,.Ê (di c k)]) (Hs.rev (.Æ (c:=cB _ _) (â (! ·) (û (fQ w k (af (ae h))))) (gQ (f:=λx=>.Ç [.Ê (di c x),.Ê (di c k)]) λx v=>qb w (an.mp (ae (ae (ae h))) x v) (af (ae (ae h)))))) z) _0
 |sb a b k=>
  have t:=af h;have g:=af (ae h);have h:=ae (ae h);have z:=ah (gP (λ_=>FW c ((Gu a b).Ś k),TO a b (.õ 0),c)) _ (mL t);have z:=ah (f0 (f0 (f0 z).2).2).2 _ (mL g);dsimp only at z;rw[yH t,ivB g] at z;have E:(Gu a b).Á=max a.Á b.Á:=by unfold Gu;rw[a2,Â.length_range]
  have s:∀j,k=j+1->∃e,(Gu a b)[j]? =À e/\di c e≠0:=λj e=>by
   subst e;have q:=ae h;dsimp only at q;split at q
   ·rename_i e m;show{e,m,fQ w e q}
   ·show fT q
  show aa (sr (N:=20) (k:=20) (.Æ (c:=cF _ _ _) (vV (l4 ?_) ?_ (λe m=>iA w (an.mp (af h) e m)) λj e q m=>?_) .å) z) _0
  ·have:=be t;have:=be g;show ac (lm E) (V3.ĝ {be t,be g})
  ·rcases k with _|k
   ·show j0 _
   ·show ag (s k Î) λe m _=>(s5.mp m).1
  ·show ag (s j q) λI u q=>?_;rw[m] at u
   (have G:=al u;clear u;subst G);show q
 |dv p k r=>
  have y:=af h;have h:=ae h;have A:=fQ w k (af h);have z:=(f0 (f0 (ah (gP (λ_=>.Ã,TO p [] k,c)) _ (mL y))).2).1;dsimp only at z;rw[yH y] at z;have e:(p.Ö λx=>(.Ê ((di c x).ī (di c k)):D))=r.Ö λx=>.Ê (di c x):=by
   have H:=l0 (af (ae (ae h)));apply B0
   ·simp[H]
   ·intro i s B;rw[a2] at s B;rw[sp,sp];have q:di c p[i]=di c r[i]*di c k:=aaN w (an.mp (ae (ae (ae h))) (p[i],r[i]) (by rw[<-Â.getElem_zip (h:=by simp;show Ï.lt_min.ĝ {s,B})];show Go _));rw[q,ZU _ A]
  rw[show TO p [] k 6=k from rfl,e] at z;show aa (sr (N:=0) (k:=20) (f:=DZ) (l:=[FW c p,.Ê (di c k)]) (Hs.rev (gQ (f:=λ_=>.Ç [.Ê (di c k)]) λx v=>{A,iC w (af (ae h))})) z) _0
 |tl a b=>show qb w (af h) (ae h)
 |pw a n=>
  change FY (di c a) n=Ä;unfold FY;have:=be (ae h);rw[iC w (af h),Ă (show(0:ä)<=n by show s1 _),Ă (show(n:ä)<=5000 from J4.ĝ (ac this _0))];rfl
 |fd a b o=>
  have g:=fQ w b (af h);show{g,iC w (af (ae h)),?_};rw[bZ (ae (ae h))];change ā.Ê (di c o)= .Ê ((di c o*di c b).ī (di c b));rw[ZU _ g]
 |md b=>show fQ w b h
 |bq b=>show Î
def aaO(l:Â (PE×PE))(e:PE)(h:l.ş (λh=>UU zs h.1)=Ä):di c (l.foldl (λe h=>.ŧ e (.ļ h.1 h.2)) e)=di c e:=by
 induction l generalizing e with
 |å=>rfl
 |Æ x l i=>
  have h:=im.mp h;show(i _ h.2).Ð ?_;change di c e+di c x.1*di c x.2=_;rw[iA w h.1,act,Zw]
end
def vW(a:p∈Eb)(w:Wy c p.zs p.ns)(b:Hc 60 (SP c p.A))(d:Hc 60 (SP c p.B)):Ó 80 Cd (p.Ū c) (.Ê (di c (Ku p.A p.B))):=by
 have o:=an.mp vT p a;have q:=ae (ae o);have e:di c p.L.2=di c (Ku p.A p.B):=ä.eq_of_mul_eq_mul_right (fQ w _ (af (ae o))) ((bZ (ae q)).Ð (aaO w _ _ (af q)));have r:=ah (yG c) p a;rw[e] at r;show sr (Hs.rev (Hs.app (gQ λx h=>AI.sound w (an.mp (af (af o)) x h)) (.Æ b (.Æ d (gQ λx h=>AI.sound w (an.mp (ae (af o)) x h)))))) r
end
section
def srD{N n k d:Ï}{b:Bc}{os ŋ c:Â D}(h:k+N<=d)(s:Hs (Hc N) c)(Ĉ:((b.HS {Cj,DT,RN hk S n k,Hb n,Ã} hk).f ρ>>=Cf).Ĉ (Ň os [])= .ok v (Ň ŋ c)):b.ex (iF d) ρ>>=Cf=Ñ v:=Ō.told ((dS (mm h) b ρ).Ĕ gw) Ĉ s
noncomputable def pr(I:Ï->ä)(k:Ï):D:=.Ç [.Ê (I (2*k)),.Ê (I (2*k+1))]
def Mk(I:Ï->ä)(n:Ï):Â (Â D):=(ty n).Ö λi=>(ty n).Ö λj=>pr I (4*i+j)
def JB(k:Ï):ä:=match odd k with
 |Ä=> -1
 |Å=>1
def GG(I:Ï->ä):Ï->ä×ä
 |0=>(0,1)
 |k+1=>(I (2*(30+k)),I (2*(30+k)+1))
def Ws(I:Ï->ä)(n k:Ï):Â D:=
 let f:=GG I k;let t:=I (2*k)*I (2*(20+k));let b:=I (2*k+1)*I (2*(20+k)+1)
 [cF AJ [.É (((Mk I n).Ń 1).Ö λr=>.É (r.Ś k++r.Ń (k+1)))] (pr I (20+k)),DA (I (2*k)) (I (2*(20+k))),DA (I (2*k+1)) (I (2*(20+k)+1)),
  DA f.1 b,.Ç [.Ã,.Ê 2],DA 2 (k %2:Ï),DA (JB k) t,DA (JB k*t) f.2,DA f.2 b,cF Aq [.Ê (f.1*b+JB k*t*f.2),.Ê (f.2*b)] (pr I (30+k))]
def Wt(I:Ï->ä)(n:Ï):Â D:=(ty n).ĥ (Ws I n)
def UX(I:Ï->ä)(n:Ï):D:=.Ç [.Ê (match n with|0=>1|_=>(GG I n).1),.Ê (GG I n).2]
def SU(I:Ï->ä):Prop:=AR (λn=>((DF.Ć.HS {Cj,DT,RN 1 [AJ,Aq] 5 5,Hb 5,Ã} 1).f (Bf [.ê (.É ((Mk I n).Ö .É))] 5)>>=Cf).Ĉ (Ň ((Wt I n).ĥ NQ) [])) [0,1,2,3,4]=[0,1,2,3,4].Ö λn=>.ok (UX I n) (Ň [] (Wt I n).Ė)
def XF:Ï->ä:=un λp=>¬SU p
def yI(I:Ï->ä):SU I:=aI (show SU XF by unfold SU;kernel_rfl) I
noncomputable def en(Ĝ:Â (Â PE))(i j:Ï):PE:=(Ĝ.ø i []).ø j (.õ 0)
noncomputable def Àw(Ĝ:Â (Â PE))(k:Ï):Â (Â PE):=(Ĝ.Ń 1).Ö λr=>r.Ś k++r.Ń (k+1)
def Ml(g:Ï->PE)(Ĝ:Â (Â PE)):Ï->PE
 |0=>.õ 0
 |k+1=>.ŧ (Ml g Ĝ k) (.ļ (.õ (JB k)) (.ļ (en Ĝ 0 k) (g k)))
def Fq:Ï->Â (Â PE)->PE
 |0,_=>.õ 1
 |n+1,Ĝ=>Ml (λk=>Fq n (Àw Ĝ k)) Ĝ (n+1)
def Ru(c:CQ)(Ĝ:Â (Â PE)):D:=.É (Ĝ.Ö λr=>.É (r.Ö λe=>AB (dn c e)))
def SV:Ï->Ï
 |0=>1
 |n+1=>1+(n+1)*(SV n+4)
def aaP{N m:Ï}{e i f:ñ}{k:Ï}(h:bd 2 e)(a:bd m i)(b:bd m f)(d:m<=2000):AX e.õ i.õ=Ä/\AX e.þ i.þ=Ä/\AX f.õ (e.þ*i.þ)=Ä/\AX (JB k) (e.õ*i.õ)=Ä/\AX (JB k*(e.õ*i.õ)) f.þ=Ä/\AX f.þ (e.þ*i.þ)=Ä/\
  Ó 1 Aq [.Ê (f.õ*(e.þ*i.þ)+JB k*(e.õ*i.õ)*f.þ),.Ê (f.þ*(e.þ*i.þ))] (AB (f+JB k*(e*i))):=by
 have c:((e.þ:ä)*i.þ).ï<2^(2+m):=by rw[nw];show ÀW h.2 a.2
 have b2:(e.õ*i.õ).ï<2^(2+m):=by rw[nw];show ÀW h.1 a.1
 have b3:(JB k).ï<2^1:=by unfold JB;cases odd k<;>decide
 have b4:(JB k*(e.õ*i.õ)).ï<2^(1+(2+m)):=by rw[nw];show ÀW b3 b2
 show{mNN h a (by lia),mDD h a (by lia),ÀT b.1 c (by show ac (by assumption) _0) (by lia),ÀT b3 b2 _0 (by lia),ÀT b4 b.2 (by lia) (by show ac (by assumption) _0),ÀT b.2 c (by show ac (by assumption) _0) (by lia),?_};have q:f+JB k*(e*i)=wv (f.õ*(e.þ*i.þ)+JB k*(e.õ*i.õ)*f.þ) (f.þ*(e.þ*i.þ)):=by
  rw[fe e i,show((JB k:ä):ñ)=wv (JB k) 1 from(sB (JB k:ñ)).symm,W9,R8];conv=>lhs;rw[<-sB f]
  show XV _ _ (aB f) (pc (aB e) (aB i))
 rw[q];show bt _ _ (pc (aB f) (pc (aB e) (aB i))) (aM (k:=m+(2+m)) (by rw[nw];show ÀW b.2 c) (by lia))
structure Sq(c:CQ)(n:Ï)(Ĝ:Â (Â PE)):Prop where
 l:Ĝ.Á=n
 r:∀r∈Ĝ,r.Á=n
 b:∀r∈Ĝ,∀e∈r,bd 2 (dn c e)
section
variable{c:CQ}
def Sq.Àw(h:Sq c (n+1) Ĝ)(hk:k<n+1):Sq c n (Àw Ĝ k) where
 l:=by unfold PQ.Internal.Àw;rw[a2,Â.length_drop,h.l];rfl
 r:=λr a=>by
  obtain⟨q,d,Î⟩:=i1.mp a;have:=h.r q (Ye d);rw[f4,Â.length_take,Â.length_drop,this,Do (i5 hk),Ï.add_sub_add_right];show YT (ww hk)
 b:=λr a e f=>by
  obtain⟨q,d,Î⟩:=i1.mp a;show h.b q (Ye d) e ((dL.mp f).ç Â.mem_of_mem_take Ye)
def Sq.en{n i j:Ï}(h:Sq c n Ĝ)(a:i<n)(d:j<n):∃r,Ĝ[i]? =À r/\r[j]? =À (en Ĝ i j)/\bd 2 (dn c (en Ĝ i j)):=by
 have a:i<Ĝ.Á:=by rw[h.l];show a
 have d:j<Ĝ[i].Á:=by rw[h.r _ (Go a)];show d
 have e:PQ.Internal.en Ĝ i j=Ĝ[i][j]:=by unfold PQ.Internal.en;simp[a,d]
 rw[e];show{_,ch a,ch d,h.b _ (Go a) _ (Go d)}
def vX{g:Ï->PE}{Ĝ:Â (Â PE)}(a:∀k,k<n->bd m (dn c (g k)))(e:∀k,k<n->bd 2 (dn c (en Ĝ 0 k)))(k:Ï)(h:k<=n):bd (1+k*(m+4)) (dn c (Ml g Ĝ k)):=by
 induction k with
 |ž=>rw[YG];change bd 1 (dn c (.õ 0));rw[ay];show dV 0
 |ś k i=>
  have s:bd 1 (dn c (.õ (JB k))):=by rw[ay];unfold JB;cases odd k<;>show{_0,_0}
  show((i (i5 h)).ŧ (s.ļ ((e k h).ļ (a k h)))).le (by rw[Ï.succ_mul];lia)
def aaQ(n:Ï)(Ĝ:Â (Â PE))(h:Sq c n Ĝ):bd (SV n) (dn c (Fq n Ĝ)):=by
 induction n generalizing Ĝ with
 |ž=>change bd 1 (dn c (.õ 1));rw[ay];show kg 0
 |ś n b=>show vX (λk a=>b _ (h.Àw a)) (λk a=>by show au (h.en (i:=0) (pu _) a) λ_ _ _ q=>?_;show q) (n+1) (a3 _)
end
end
section
def Iw(J:Ï->ñ)(i:Ï):ä:=if i %2=0 then(J (i/2)).õ else(J (i/2)).þ
def qc(J:Ï->ñ)(k:Ï):Iw J (2*k)=(J k).õ:=by
 unfold Iw;rw[à (Ï.mul_mod_right 2 k),V8 k _0]
def qd(J:Ï->ñ)(k:Ï):Iw J (2*k+1)=(J k).þ:=by
 unfold Iw;rw[ß (by rw[Zq];decide),Zr _0];rfl
def qe(J:Ï->ñ)(k:Ï):pr (Iw J) k=AB (J k):=by
 unfold pr;rw[qc,qd];rfl
def HR(c:CQ)(Ĝ:Â (Â PE))(g:Ï->PE)(k:Ï):ñ:=if k<16 then dn c (en Ĝ (k/4) (k %4)) else if k<30 then dn c (g (k -20)) else dn c (Ml g Ĝ (k -29))
def vY(h:∀k,k<n->Hs H (f k)):Hs H ((ty n).ĥ f):=λx a=>by
 show ag (F3.mp a) λk b q=>h k (M4.mp b) x q
section
variable{c:CQ}
def jy(h:Sq c n Ĝ)(f:n<=4):Mk (Iw (HR c Ĝ g)) n=Ĝ.Ö λr=>r.Ö λe=>AB (dn c e):=by
 unfold Mk;apply B0
 ·simp[h.l]
 ·intro i p a;rw[a2] at a;rw[sp,sp,YJ];have k:=h.r _ (Go a);have m:i<n:=by rw[<-h.l];show a
  apply B0
  ·simp[k]
  ·intro j q b;rw[a2] at b;have o:j<n:=by rw[<-k];show b
   rw[sp,sp,YJ,qe];have e:en Ĝ i j=Ĝ[i][j]:=by unfold en;simp[a,b]
   unfold HR;have d:j<4:=ce o f;rw[à (ce (Ï.add_lt_add_of_le_of_lt (li 4 (ww (ce m f))) d) _0),Zr _0,Ï.div_eq_of_lt d,Ï.add_zero,Zq,Ï.mod_eq_of_lt d,e]
def vZ(k:Ï):GG (Iw (HR c Ĝ g)) k=((dn c (Ml g Ĝ k)).õ,((dn c (Ml g Ĝ k)).þ:ä)):=by
 cases k with
 |ž=>unfold Ml;rw[ay];rfl
 |ś k=>
  change(Iw (HR c Ĝ g) (2*(30+k)),Iw (HR c Ĝ g) (2*(30+k)+1))=_;rw[qc,qd];unfold HR;rw[ß (λq=>i8.ĝ (bv 30 k) (YI q _0)),ß (i8.ĝ (bv 30 k)),show 30+k -29=k+1 by rw[lc];rfl]
def mM(n:Ï)(s:∀m,n=m+1->∀Ĝ:Â (Â PE),m<=4->Sq c m Ĝ->Ó (10*m+10) AJ [Ru c Ĝ] (AB (dn c (Fq m Ĝ))))(Ĝ:Â (Â PE))(b:n<=4)(h:Sq c n Ĝ):Ó (10*n+10) AJ [Ru c Ĝ] (AB (dn c (Fq n Ĝ))):=λd o=>by
 obtain⟨d,Î⟩:=eD o;rw[show R (d+1) AJ ([Ru c Ĝ].Ö .ê)=_ from bS (t:=DF) rfl Î];have z:=ah (yI (Iw (HR c Ĝ λk=>Fq (n -1) (Àw Ĝ k)))) n ((by decide:∀n,n<5->n∈[0,1,2,3,4]) n (i4 b));rw[jy h b] at z;have v:UX (Iw (HR c Ĝ λk=>Fq (n -1) (Àw Ĝ k))) n=AB (dn c (Fq n Ĝ)):=by
  unfold UX;cases n with
  |ž=>unfold Fq;rw[ay];rfl
  |ś n=>rw[vZ];rfl
 rw[v,lf] at z;show srD (N:=10*n) (ac (lm (lc ..)) (ac (g5 (by decide:5<=9) _) (WP o))) (Hs.rev (vY λk a=>?_)) z;show au (h.en (i:=0) (ac (f3 ..) a) a) λ_ _ _ u=>?_;have l:∀k,k<n->bd (SV (n -1)) (dn c (Fq (n -1) (Àw Ĝ k)))/\Ó (10*n) AJ [Ru c (Àw Ĝ k)] (AB (dn c (Fq (n -1) (Àw Ĝ k)))):=λk a=>by
  obtain⟨m,Î⟩:∃m,n=m+1:=eD (i9 (j0 _) a);show{aaQ m _ (h.Àw a),s m Î _ (i5 b) (h.Àw a)}
 have w:=vX (c:=c) (g:=λk=>Fq (n -1) (Àw Ĝ k)) (Ĝ:=Ĝ) (λk a=>(l k a).1) (λk a=>by show au (h.en (i:=0) (ac (f3 ..) a) a) λ_ _ _ q=>?_;show q) k (i5 a);have f:k<4:=ce a b;have x:1+k*(SV (n -1)+4)<=2000/\SV (n -1)<=2000:=by
  have p:SV (n -1)<=76:=(by decide:∀n,n<5->SV (n -1)<=76) n (i4 b);show{ac (g5 (Ï.mul_le_mul (i5 f) (io p 4)) 1) _0,ac p _0}
 show e07 (aaP (N:=1) (k:=k) (m:=max (1+k*(SV (n -1)+4)) (SV (n -1))) u ((l k a).1.le (Ï.le_max_right ..)) (w.le (Ï.le_max_left ..)) (V3.ĝ x)) λy A B C E G H=>?_;unfold Ws;rw[vZ,jy h b,qe,qe,qc,qd,qc,qd];have I:HR c Ĝ (λk=>Fq (n -1) (Àw Ĝ k)) k=dn c (en Ĝ 0 k):=by unfold HR;rw[à (by show ac (by assumption) _0),Ï.div_eq_of_lt f,Ï.mod_eq_of_lt f]
 have J:HR c Ĝ (λk=>Fq (n -1) (Àw Ĝ k)) (20+k)=dn c (Fq (n -1) (Àw Ĝ k)):=by unfold HR;rw[ß (λq=>i8.ĝ (bv 20 k) (YI q _0)),à (YI (R2 f 20) _0),pt]
 have L:HR c Ĝ (λk=>Fq (n -1) (Àw Ĝ k)) (30+k)=dn c (Ml (λk=>Fq (n -1) (Àw Ĝ k)) Ĝ k)+JB k*(dn c (en Ĝ 0 k)*dn c (Fq (n -1) (Àw Ĝ k))):=by
  unfold HR;rw[ß (λq=>i8.ĝ (bv 30 k) (YI q _0)),ß (i8.ĝ (bv 30 k)),show 30+k -29=k+1 by rw[lc];rfl];change dn c (Ml _ Ĝ k)+dn c (.õ (JB k))*_=_;rw[ay];rfl
 have O:AX 2 (k %2:Ï)=Ä:=ÀT (j:=2) (k:=1) _0 (Ï.mod_lt _ _0) _0 _0;have Q:(ā.É (((Ĝ.Ö λr=>r.Ö λe=>AB (dn c e)).Ń 1).Ö λr=>.É (r.Ś k++r.Ń (k+1))):D)=Ru c (Àw Ĝ k):=by
  unfold Ru Àw;rw[<-Â.map_drop,lf,lf];congr 2;funext r;simp
 rw[I,J,L,Q];show .Æ (c:=cF _ _ _) (l k a).2 (.Æ (c:=DA _ _) y (.Æ (c:=DA _ _) A (.Æ (c:=DA _ _) B (.Æ (c:=.Ç [.Ã,.Ê _]) (show(2:ä)≠0 by decide) (.Æ (c:=DA _ _) O (.Æ (c:=DA _ _) C (.Æ (c:=DA _ _) E (.Æ (c:=DA _ _) G (.Æ (c:=cF _ _ _) (aa H (ac (i9 (j0 _) a) (wT n _0))) .å)))))))))
end
def v_(n:Ï):∀Ĝ:Â (Â PE),n<=4->Sq c n Ĝ->Ó (10*n+10) AJ [Ru c Ĝ] (AB (dn c (Fq n Ĝ))):=by
 induction n with
 |ž=>show mM 0 λm e=>nomatch e
 |ś n i=>show mM (n+1) λm e=>by cases e;show i
end
section
def WE:Â (Â ñ):=Mh.ÀX λq=>match q.ÀR with
 |À c=> !decide (c=0)
 |Ã=>Å
def Wu(q:Â ñ):ä:=q.foldl (λb x=>max b x.þ) 1
def SW(q:Â ñ):Â ä:=q.Ö λx=>x.õ*(Wu q/x.þ)
def Wv(q:Â ñ):ä:=
 let g:ä:=(SW q).foldl (λg x=>(pi g x:ä)) 0
 if 0<(SW q).ø (q.Á -1) 0 then g else -g
def Nk(q:Â ñ):Â ä:=(SW q).Ö (·/Wv q)
def SX(q:Â ñ):ñ:=wv (Wv q) (Wu q)
def EK(z:Â ä):D:=.É (z.Ö .Ê)
def yJ:AR (λq=>(It Ct [AE q],It Bg [EK (Nk q)])) WE=WE.Ö λq=>(.ok (.Ç [EK (Nk q),AB (SX q)]) (Ň [] []),.ok (.Ê 1) (Ň [] [])):=_2
def yK:AR (λs=>AR (λn:Ï=>It Dq [AB s,.Ê n]) [0,1,2]) v6=v6.Ö λs=>[0,1,2].Ö λn=>.ok (AB (s^n)) (Ň [] []):=_2
def yL:∀q∈WE,q=(Nk q).Ö (λn:ä=>SX q*n)/\SX q∈v6/\(∀x∈Nk q,x.ï<8)/\(Nk q).ø (q.Á -1) 0≠0:=by decide+kernel
end
section
abbrev GZ:=(Ï->D)×(Ï->ä)
def Iy{α:Type}(z:α)(a b:Â α):Â (Â α):=((ty (b.Á -1)).Ö λk=>ln k z++a.Ė++ln (b.Á -2 -k) z)++(ty (a.Á -1)).Ö λk=>ln k z++b.Ė++ln (a.Á -2 -k) z
def Oc:D:=.Ç [.Ê 0,.Ê 1]
def Rl:Â (Ï×Ï):=[0,1,2,3].ĥ λa=>[0,1,2,3].Ö λb=>(a,b)
def FH(s:Ï×Ï):é:=s4 1 s.1&&s4 1 s.2
def UY(I:Ï->ä)(v:D)(s:Ï×Ï):Â D:=match FH s with
 |Ä=>[cF AJ [.É ((Iy Oc (DN (pr I) 0 s.1) (DN (pr I) 3 s.2)).Ö .É)] v]
 |Å=>[]
def SY(p:GZ):Prop:=AR (λs=>US 1 [AJ] BM [.É (DN (pr p.2) 0 s.1),.É (DN (pr p.2) 3 s.2)] (UY p.2 (p.1 0) s)) Rl=Rl.Ö λs=>.ok (match FH s with
 |Ä=>p.1 0
 |Å=>Oc) (Ň [] (UY p.2 (p.1 0) s).Ė)
def XG:GZ:=un λp=>¬SY p
def yM(p:GZ):SY p:=aI (show SY XG by unfold SY;kernel_rfl) p
def UZ(p:GZ)(s:Ï×Ï):Â D:=[cF Bj [p.1 0,.Ý AD] (p.1 2),cF Ct [p.1 2] (.Ç [EK (DN p.2 0 s.1),p.1 3]),cF Bj [p.1 1,.Ý AD] (p.1 4),cF Ct [p.1 4] (.Ç [EK (DN p.2 3 s.2),p.1 5])]++match FH s with
 |Ä=>[cF Cd [EK (DN p.2 0 s.1),EK (DN p.2 3 s.2)] (.Ê (p.2 6)),cF Dq [p.1 3,.Ê (s.2 -1:Ï)] (p.1 6),cF Dq [p.1 5,.Ê (s.1 -1:Ï)] (p.1 7),cF BP [p.1 6,p.1 7] (p.1 8),cF BP [.Ç [.Ê (p.2 6),.Ê 1],p.1 8] (p.1 9),cF DM [p.1 9] (p.1 10)]
 |Å=>[cF Fj [.Ê 0,.Ê 1] (p.1 10)]
def S_(p:GZ):Prop:=AR (λs=>US 1 [Bj,Ct,Cd,Dq,BP,DM,Fj] BE [p.1 0,p.1 1,.Ý AD] (UZ p s)) Rl=Rl.Ö λs=>.ok (p.1 10) (Ň [] (UZ p s).Ė)
def XJ:GZ:=un λp=>¬S_ p
def yN(p:GZ):S_ p:=aI (show S_ XJ by unfold S_;kernel_rfl) p
def se(h:bd j q)(a:j<=8000):Ó 10 DM [AB q] (Ag (q.õ,q.þ)):=sr (n:=0) (hk:=1) (S:=[By]) (os:=[AB q]) (ŋ:=[]) (.Æ (c:=cF By [.Ê q.õ,.Ê q.þ] (AB q)) (eo h a) .å) _2
def wa:Ó 20 Fj [.Ê 0,.Ê 1] (Ag (0,1)):=aR _2
def yO:Ó 20 Ct [AE []] (.Ç [EK [],Oc]):=aR _2
def Nl(n:Ï):Â PE:=(DN .Đ 0 n).Ö λe=>.ļ (.Đ 6) e
def Nm(n:Ï):Â PE:=(DN .Đ 3 n).Ö λe=>.ļ (.Đ 7) e
def Ta(s:é×Ï×Ï):Â (Â PE):=match s.1 with
 |Ä=>Iy (.õ 0) (Nm s.2.2) (Nl s.2.1)
 |Å=>Iy (.õ 0) (Nl s.2.1) (Nm s.2.2)
def Tb:Â (é×Ï×Ï):=[(Å,1,1),(Å,2,1),(Å,3,1),(Ä,2,1),(Ä,3,1),(Å,2,2),(Å,3,2),(Ä,3,2),(Å,3,3)]
def yP:∀s∈Tb,GL (Fq (s.2.1+s.2.2 -2) (Ta s)) (.ļ (Ku (DN .Đ 0 s.2.1) (DN .Đ 3 s.2.2)) (.ļ (.pow (.Đ 6) (s.2.2 -1)) (.pow (.Đ 7) (s.2.1 -1))))=Ä:=an.mp (show Tb.ş _=Ä by kernel_rfl)
end
section
def Wy.Æ{c:CX}{s ns:Â PE}(w:Wy c s ns):∀{a:Â PE},(∀e∈a,di c e≠0)->Wy c s (a++ns):=λh=>{w.z,λe d=>(dL.mp d).ç (h e) (w.n e),w.b}
def ne2(d:di c a≠0)(f:di c b≠0):∀e∈[a,b],di c e≠0:=λe h=>by
 rcases a5.mp h with rfl|h
 ·show d
 ·rw[am.mp h];show f
def ze2(d:di c a=0)(f:di c b=0):∀e∈[a,b],di c e=0:=λe h=>by
 rcases a5.mp h with rfl|h
 ·show d
 ·rw[am.mp h];show f
def mN{P:PE->Prop}(h:P a):∀e∈[a],P e:=λe b=>by rw[am.mp b];show h
def yQ{P:PE->Prop}:∀e∈([]),P e:=λe h=>nomatch h
def mO(c:CX)(Ky a1 d a b:PE):∃k w,k<4/\(UT Ky a1 d a b)[k]? =À w/\(∀e∈w.2.1,di c e=0)/\∀e∈w.2.2.1,di c e≠0:=by
 exists c Ky a1 d a b,no;by_cases f:di c (.Ž (.ļ a1 b) (.ļ a d))=0
 ·by_cases h:di c (.ļ Ky b)=0
  ·show{0,_,_0,Î,ze2 f h,yQ}
  ·show{1,_,_0,Î,mN f,mN h}
 ·by_cases h:di c (.Ž (.ļ (.ļ Ky b) b) (.ļ a (.Ž (.ļ a1 b) (.ļ a d))))=0
  ·show{2,_,_0,Î,mN h,mN f}
  ·show{3,_,_0,Î,yQ,ne2 f h}
structure U_(c:CX)(s:é×Ï×Ï)(p:Pt):Prop where
 m:p∈Eb
 e:(p.sw,p.Ft,p.lb)=s
 w:Wy c p.zs p.ns
def gk{i:Ï}(h:Eb[i]? =À p):p∈Eb:=wS h
def oz:∀k,k<4->(Gv Å)[k]? =Eb[7+k]? /\(Gv Ä)[k]? =Eb[11+k]? /\Jo[2+k]? =Eb[17+k]? :=λk h=>by
 match k,h with
 |0,_=>show{Î,Î,Î}
 |1,_=>show{Î,Î,Î}
 |2,_=>show{Î,Î,Î}
 |3,_=>show{Î,Î,Î}
def fK(c:CX)(d:∀i,i<6->(c.ĵ i).ï<8):∀s∈Tb,di c (.Đ (s.2.1 -1))≠0->di c (.Đ (s.2.2+2))≠0->∃p,U_ c s p:=by
 exists c,d;have o:∀a,(∀k,k<4->(Gv a)[k]? =Eb[7+k]? \/(Gv a)[k]? =Eb[11+k]?)->di c (.Đ 2)≠0->di c (.Đ 4)≠0->∃p,U_ c (a,3,2) p:=λa t b l=>by
  show cb (mO c (.Đ 0) (.Đ 1) (.Đ 2) (.Đ 3) (.Đ 4)) λk w f h g u=>?_;have e:(Gv a)[k]? =À {a,3,2,w.1,w.2.1,w.2.2.1++[.Đ 2,.Đ 4],[],.õ 1,w.2.2.2}:=by unfold Gv;rw[j1,h];rfl
  show{_,(t k f).ç (λq=>gk (q.symm.Ð e)) (λq=>gk (q.symm.Ð e)),Î,Wy.Æ {g,ne2 b l,d} u}
 have j:∀i n a,Eb[i]? =À (Iv n 1 a)->di c (.Đ (n -1))≠0->di c (.Đ 3)≠0->∃p,U_ c (a,n,1) p:=λi n a h b l=>{_,gk h,Î,{yQ,ne2 b l,d}};intro s hs;rcases a5.mp hs with rfl|hs
 ·show j 0 1 _ Î
 rcases a5.mp hs with rfl|hs
 ·show j 1 2 _ Î
 rcases a5.mp hs with rfl|hs
 ·show j 2 3 _ Î
 rcases a5.mp hs with rfl|hs
 ·show j 3 2 _ Î
 rcases a5.mp hs with rfl|hs
 ·show j 4 3 _ Î
 rcases a5.mp hs with rfl|hs
 ·intro b l;by_cases h:di c SQ=0
  ·show{_,gk (i:=5) rfl,Î,{mN h,ne2 b l,d}}
  ·show{_,gk (i:=6) rfl,Î,Wy.Æ {yQ,ne2 b l,d} (mN h)}
 rcases a5.mp hs with rfl|hs
 ·show o _ λk f=>.Ę (oz k f).1
 rcases a5.mp hs with rfl|hs
 ·show o _ λk f=>.Ġ (oz k f).2.1
 ·rw[am.mp hs];intro b l;by_cases g:di c Mj=0
  ·by_cases r:di c Mi=0
   ·show{_,gk (i:=15) rfl,Î,{ze2 g r,ne2 b l,d}}
   ·show{_,gk (i:=16) rfl,Î,Wy.Æ {mN g,ne2 b l,d} (mN r)}
  ·show cb (mO c (.Đ 3) (.Đ 4) (.Đ 5) Mi Mj) λk w f h v x=>?_;have e:=(oz k f).2.2;rw[show Jo[2+k]? =_ from(â (Jo[·]?) (lc 2 k)).Ð (j1 ..),h] at e;show{_,gk e.symm,Î,Wy.Æ {v,λe m=>?_,d} x};rcases a5.mp m with rfl|m
   ·show g
   ·show ne2 b l e m
end
section
def Tc:PE->é
 | .õ _=>Ä
 | .Đ i=>J0 i 6
 | .neg a=>Tc a
 | .ŧ a b=>Tc a&&Tc b
 | .Ž a b=>Tc a&&Tc b
 | .ļ a b=>Tc a&&Tc b
 |_=>Å
def aaR(h:∀i,i<6->q.ĵ i=c.ĵ i)(e:PE):Tc e=Ä->dn q e=di c e:=by
 induction e with
 |õ k=>intro _;rw[ay];show â _ (P3 k).symm
 |Đ i=>show λk=>h i (be k)
 |neg a d=>intro k;change -(dn q a)=((-(di c a):ä));rw[d k,ñ.intCast_neg]
 |ŧ a b d f=>intro k;change dn q a+dn q b=((di c a+di c b:ä));rw[d (af k),f (ae k),ñ.intCast_add]
 |Ž a b d f=>intro k;change dn q a -dn q b=((di c a -di c b:ä));rw[d (af k),f (ae k),ñ.intCast_sub]
 |ļ a b d f=>intro k;change dn q a*dn q b=((di c a*di c b:ä));rw[d (af k),f (ae k),ñ.intCast_mul]
 |_=>show λk=>nomatch k
theorem Sq.Iy{c:CQ}(n:1<=A.Á)(o:1<=B.Á)(q:∀e∈A,bd 2 (dn c e))(s:∀e∈B,bd 2 (dn c e)):Sq c (A.Á+B.Á -2) (Iy (.õ 0) A B):=by
 have z:bd 2 (dn c (.õ 0)):=by rw[ay];show dV 1
 have w:∀(C:Â PE) (i j:Ï),(∀e∈C,bd 2 (dn c e))->∀e∈ln i (.õ 0)++C.Ė++ln j (.õ 0),bd 2 (dn c e):=λC i j t e g=>by
  rcases dL.mp g with g|g
  ·rcases dL.mp g with g|g
   ·rw[(Â.mem_replicate.mp g).2];show z
   ·show t e (SC.mp g)
  ·rw[(Â.mem_replicate.mp g).2];show z
 have u:∀a d:Ï,1<=a->1<=d->d -1+(a -1)=a+d -2:=λa d h k=>ao (eD h) λa e=>ao (eD k) λd v=>by subst e;subst v;rw[E2 a 1];show lc d a
 have p:∀a d k:Ï,1<=a->k<d -1->k+a+(d -2 -k)=a+d -2:=λa d k _ h=>by
  cases d with
  |ž=>show absurd h (Ï.not_lt_zero _)
  |ś d=>
   show ao (Ï.exists_eq_add_of_lt h) λc e=>?_;obtain rfl:d=k+c+1:=e;change k+a+(k+c -k)=a+(k+c);rw[pt,lc k,s7]
 show{by unfold PQ.Internal.Iy;simp only[f4,a2,Â.length_range];show u _ _ n o,λx f=>?_,λx f=>?_}
 ·rcases dL.mp f with f|f
  ·obtain⟨k,m,Î⟩:=i1.mp f;simp only[f4,X1,U6];show p _ _ _ n (M4.mp m)
  ·obtain⟨k,m,Î⟩:=i1.mp f;simp only[f4,X1,U6];show(p _ _ _ o (M4.mp m)).Ð (â (· -2) (lc ..))
 ·rcases dL.mp f with f|f
  ·obtain⟨k,m,Î⟩:=i1.mp f;show w _ _ _ q
  ·obtain⟨k,m,Î⟩:=i1.mp f;show w _ _ _ s
def wc(f:α->c)(z:α)(a b:Â α):(Iy z a b).Ö (Â.Ö f)=Iy (f z) (a.Ö f) (b.Ö f):=by
 unfold Iy;simp[g1,lf,Function.comp_def,Â.map_replicate,SL]
def bw(g:α->a)(E:Ï->α)(i n:Ï):(DN E i n).Ö g=DN (λk=>g (E k)) i n:=lf ..
def qf(h:e∈DN E i n):∃k,k<n/\e=E (i+k):=by
 obtain⟨j,a,Î⟩:=i1.mp h;have:=YV.mp a;show ao (Ï.exists_eq_add_of_le this.1) λk e=>{k,by rw[e] at this;show Ï.lt_of_add_lt_add_left this.2,â E e}
def aaS:∀s∈Tb,(1<=s.2.1/\s.2.1<=3/\1<=s.2.2/\s.2.2<=3)/\Tc (Ku (DN .Đ 0 s.2.1) (DN .Đ 3 s.2.2))=Ä/\PA (Ku (DN .Đ 0 s.2.1) (DN .Đ 3 s.2.2))<=100:=by decide+kernel
def TP{α:Type}(s:é)(f:α->α->D)(x y:α):D:=match s with
 |Ä=>f y x
 |Å=>f x y
def Px(a b:Â D):D:=.É ((Iy Oc a b).Ö .É)
def yR:Ru c (Iy (.õ 0) A B)=Px (A.Ö λe=>AB (dn c e)) (B.Ö λe=>AB (dn c e)):=by
 have z:AB (dn c (.õ 0))=Oc:=by rw[ay];rfl
 unfold Ru Px;rw[<-z,<-wc (λe=>AB (dn c e)),lf];rfl
def qg{α:Type}(f:Ï->α)(n:Ï):∃c:N7 α,∀i,i<=n->c.ĵ i=f i:=let⟨c,h⟩:=gB f n;{c,λi a=>by rw[h,Do a]}
def core{x y:Â ä}{u v:ñ}(s:é)(o:(s,x.Á,y.Á)∈Tb)(I:x.ø (x.Á -1) 0≠0)(J:y.ø (y.Á -1) 0≠0)(L:∀e∈x,e.ï<8)(N:∀e∈y,e.ï<8)(cx:Ó 20 Bg [EK x] (.Ê 1))(O:Ó 20 Bg [EK y] (.Ê 1))(Q:∀e∈x,bd 2 (u*e))(T:∀e∈y,bd 2 (v*e)):
  ∃r:ä,r.ï<2^100/\(∃l,l=(match s with|Ä=>[EK y,EK x]|Å=>[EK x,EK y])/\Ó 80 Cd l (.Ê r))/\Ó 50 AJ [TP s Px (x.Ö λe:ä=>AB (u*e)) (y.Ö λe:ä=>AB (v*e))] (AB (r*(u^(y.Á -1)*v^(x.Á -1)))):=by
 exists x y u v s,o I J L N cx O Q T;show bG λn=>aj (aaS _ o) λf8 f9=>dc f8 λx1 x3 y1 y3=>aj f9 λU V=>n ?_;dsimp only at x1 x3 y1 y3 U V;show ao (qg (λi=>if i<3 then x.ø i 0 else y.ø (i -3) 0) 5) λc w=>ao (qg (λi=>if i<6 then((c.ĵ i:ä):ñ) else if i=6 then u else v) 7) λq A=>?_;have B:∀i,i<3->c.ĵ i=x.ø i 0:=λi h=>(w i (ac (i5 h) _0)).Ð (à h);have C:∀i,i<3->c.ĵ (3+i)=y.ø i 0:=λi h=>(w _ (g5 (ww h) 3)).Ð ((ß (i8.ĝ (bv 3 i))).Ð (by rw[pt]));have E:∀i,i<6->q.ĵ i=(c.ĵ i:ä):=λi h=>(A i (ac (i5 h) _0)).Ð (à h);have hX:DN (λi=>c.ĵ i) 0 x.Á=x:=eg λi a=>by rw[s6,B i (ce a x3)]
 have hY:DN (λi=>c.ĵ i) 3 y.Á=y:=eg λi a=>C i (ce a y3);have G:FW c (DN .Đ 0 x.Á)=EK x:=by
  unfold FW EK;rw[bw];conv=>rhs;rw[<-hX,bw]
  rfl
 have H:FW c (DN .Đ 3 y.Á)=EK y:=by
  unfold FW EK;rw[bw];conv=>rhs;rw[<-hY,bw]
  rfl
 have cb:∀i,i<6->(c.ĵ i).ï<8:=λi a=>by
  have g:∀{l:Â ä},(∀e∈l,e.ï<8)->∀j,(l.ø j 0).ï<8:=λ{l} hl j=>by
   rw[i6];cases e:l[j]? with
   |Ã=>show(by decide:(0:ä).ï<8)
   |À z=>show hl z (wS e)
  rw[w i (ww a)];split
  ·show g L i
  ·show g N _
 show ao (fK c cb _ o (by
  change c.ĵ (x.Á -1)≠0;rw[B _ (ce (Yo x1 Ï.one_pos) x3)];show I) (by
  change c.ĵ (y.Á+2)≠0;rw[show y.Á+2=3+(y.Á -1) by rw[<-Ï.add_sub_assoc y1,lc 3];rfl,C _ (ce (Yo y1 Ï.one_pos) y3)];show J)) λp hp=>?_
 obtain⟨s,Ft,lb,_,_,_,_,_,_⟩:=p;obtain⟨pm,pe,pw⟩:=hp;cases pe;have e1:(dn q (Ku (DN .Đ 0 x.Á) (DN .Đ 3 y.Á)))=di c (Ku (DN .Đ 0 x.Á) (DN .Đ 3 y.Á)):=aaR E _ U;have q6:q.ĵ 6=u:=(A 6 _0).Ð Î;have q7:q.ĵ 7=v:=(A 7 _0).Ð Î;have eX:∀i,i<6->dn q (.ļ (.Đ 6) (.Đ i))=u*(c.ĵ i:ä):=λi a=>by change q.ĵ 6*q.ĵ i=_;rw[q6,E i a]
 have eY:∀i,i<6->dn q (.ļ (.Đ 7) (.Đ i))=v*(c.ĵ i:ä):=λi a=>by change q.ĵ 7*q.ĵ i=_;rw[q7,E i a]
 have lX:(Nl x.Á).Ö (λe=>AB (dn q e))=x.Ö λe:ä=>AB (u*e):=by
  unfold Nl;rw[bw,bw];conv=>rhs;rw[<-hX,bw]
  show r0 λi a=>?_;rw[eX i (ce (YV.mp a).2 (by rw[s6];show ac x3 _0))]
 have lY:(Nm y.Á).Ö (λe=>AB (dn q e))=y.Ö λe:ä=>AB (v*e):=by
  unfold Nm;rw[bw,bw];conv=>rhs;rw[<-hY,bw]
  show r0 λi a=>?_;rw[eY i (ce (YV.mp a).2 (g5 y3 3))]
 have t:(Nl x.Á).Á=x.Á:=by simp[Nl,DN]
 have Y:(Nm y.Á).Á=y.Á:=by simp[Nm,DN]
 have bX:∀e∈Nl x.Á,bd 2 (dn q e):=λe b=>by
  unfold Nl at b;rw[bw] at b;show bG λn=>ag (qf b) λk d k7=>?_;obtain rfl:=k7;show n ?_;clear n;have m:=ce d x3;rw[s6,eX _ (YI m _0),B _ m];show Q _ ?_;rw[i6,ch d];show Go d
 have bY:∀e∈Nm y.Á,bd 2 (dn q e):=λe b=>by
  unfold Nm at b;rw[bw] at b;show bG λn=>ag (qf b) λk d k8=>?_;obtain rfl:=k8;show n ?_;clear n;have m:=ce d y3;rw[eY _ (R2 m 3),C _ m];show T _ ?_;rw[i6,ch d];show Go d
 have wy:=pw;show{di c (Ku (DN .Đ 0 x.Á) (DN .Đ 3 y.Á)),ce (vU wy _ (by show ac (by assumption) _0)) (p2 V),{_,Î,?_},?_}
 ·have r:=vW pm pw (by change Ó 60 Bg [FW c (DN .Đ 0 x.Á)] _;rw[G];show aa cx _0) (by change Ó 60 Bg [FW c (DN .Đ 3 y.Á)] _;rw[H];show aa O _0);induction s using ci
  ·rw[show Pt.Ū c {Å,_,_,_,_,_,_,_,_}=[FW c (DN .Đ 0 x.Á),FW c (DN .Đ 3 y.Á)] from rfl,G,H] at r;show r
  ·rw[show Pt.Ū c {Ä,_,_,_,_,_,_,_,_}=[FW c (DN .Đ 3 y.Á),FW c (DN .Đ 0 x.Á)] from rfl,G,H] at r;show r
 ·have sq:Sq q (x.Á+y.Á -2) (Ta (s,x.Á,y.Á)):=by
   induction s using ci
   ·have:=Sq.Iy (c:=q) (by rw[t];show x1) (by rw[Y];show y1) bX bY;rw[t,Y] at this;show this
   ·have:=Sq.Iy (c:=q) (by rw[Y];show y1) (by rw[t];show x1) bY bX;rw[t,Y,lc] at this;show this
  have f:=v_ _ _ (UF (ii x3 y3) 2) sq;have ev:dn q (Fq (x.Á+y.Á -2) (Ta (s,x.Á,y.Á)))=di c (Ku (DN .Đ 0 x.Á) (DN .Đ 3 y.Á))*(u^(y.Á -1)*v^(x.Á -1)):=by
   rw[<-e1,<-q6,<-q7];show Ix q _ _ (yP _ o)
  have ed:Ru q (Ta (s,x.Á,y.Á))=TP s Px (x.Ö λe:ä=>AB (u*e)) (y.Ö λe:ä=>AB (v*e)):=by
   rw[<-lX,<-lY];induction s using ci<;>show yR
  rw[ev,ed] at f;show aa f (io (li 10 (UF (ii x3 y3) 2)) 10)
end
section
def zF:∀s∈Rl,FH s=Ä->(s.2<=s.1->(Å,s.1,s.2)∈Tb)/\(¬s.2<=s.1->(Ä,s.2,s.1)∈Tb):=_0
def yS(h:Œ a)(b:a≠[]):a∈WE:=by
 show Yw.ĝ {iz h.ŏ h.el,?_};rw[KE b];show â (! ·) (û (h.AL _ (KE b)))
def aaT:∀s∈v6,∀n∈[0,1,2],(s^n).õ.ï<2^8/\(s^n).þ<2^8:=by decide+kernel
def mP(h:s∈v6){n:Ï}(a:n<=2):Ó 20 Dq [AB s,.Ê n] (AB (s^n))/\bd 8 (s^n):=by
 have m:=(by decide:∀n,n<3->n∈[0,1,2]) n (i4 a);show{aR (ah (ah yK s h) n m),aaT s h n m}
def mQ(Ft:a.Á<=3)(l:b.Á<=3)(d:if FH (a.Á,b.Á)=Ä then Ó 50 AJ [Px (a.Ö AB) (b.Ö AB)] v else v=Oc):Ó 70 BM [AE a,AE b] v:=by
 exists v a b,Ft l d;have z:=ah (yM (λ_=>v,Iw λi=>if i<3 then a.ø i 0 else b.ø (i -3) 0)) _ (hW Ft l);have e:∀i n,DN (pr (Iw λi=>if i<3 then a.ø i 0 else b.ø (i -3) 0)) i n=(DN (λi=>if i<3 then a.ø i 0 else b.ø (i -3) 0) i n).Ö AB:=λi n=>by
  rw[bw];show â (DN · i n) (funext λk=>qe _ k)
 unfold UY at z;dsimp only at z;rw[e,e,eg λi f=>by rw[s6,à (by show ac f Ft)],eg λi f=>by rw[ß (i8.ĝ (bv 3 i)),pt]] at z;cases h:FH (a.Á,b.Á) with
 |Ä=>
  rw[h] at z;rw[à h] at d;show sr (.Æ (c:=cF _ _ _) d .å) z
 |Å=>
  rw[h] at z;rw[ß (by rw[h];decide)] at d;subst d;show aa (sr (N:=0) .å z) _0
def wd{z w:Â ä}{r:ä}(h:z.Á<=3)(i:Ï)(l:Â ä)(b:l=z/\i=0\/l=w/\i=3):DN (λi=>if i<3 then z.ø i 0 else if i<6 then w.ø (i -3) 0 else r) i l.Á=l\/3<l.Á:=by
 rcases b with⟨Î,Î⟩|⟨Î,Î⟩
 ·show .Ę (eg λi a=>by rw[s6,à (by show ac a h)])
 ·by_cases q:3<l.Á
  ·show .Ġ q
  ·show .Ę (eg λi a=>by rw[ß (i8.ĝ (bv 3 i)),à (by show R2 (ce a (i8.mp q)) 3),pt])
def mR{a:Â ñ}(h:Œ a):∃(z:Â ä) (s:D),Ó 20 Ct [AE a] (.Ç [EK z,s])/\z.Á=a.Á/\(a≠[]->∃u:ñ,s=AB u/\u∈v6/\a=z.Ö (λn:ä=>u*n)/\(∀x∈z,x.ï<8)/\z.ø (z.Á -1) 0≠0/\Ó 20 Bg [EK z] (.Ê 1)):=by
 exists a,h;by_cases b:a=[]
 ·subst b;show{[],Oc,yO,Î,λq=>absurd rfl q}
 ·have m:=yS h b;have r:=f0 (ah yJ a m);show dc (yL a m) λBp p2 p c=>?_;have l:(Nk a).Á=a.Á:=by unfold Nk SW;rw[a2,a2]
  show{Nk a,AB (SX a),aR r.1,l,λ_=>{_,Î,p2,Bp,p,by rw[l];show c,aR r.2}}
def yT{a b:Â ñ}(m:Œ a)(o:Œ b):∃q:ñ,Ó 70 BM [AE a,AE b] (AB q)/\Ó 100 BE [nf a,nf b,.Ý AD] (Ag (q.õ,q.þ)):=by
 exists a b,m o;have Y:∀{p:Â ñ},Œ p->Row 100 p:=λh=>{h.ŏ,h.AL,λc hc=>(h.row.bd c hc).le _0};show a_ (mR m) λz s B l C=>a_ (mR o) λw t E d H=>?_;exists z s w t,B l C E d H;have pa:=cg (Y m);have pb:=cg (Y o);have Ft:=m.ŏ;have f:=o.ŏ;have I:∀(A:Ï->D) (r:ä),A 0=nf a->A 1=nf b->A 2=AE a->A 3=s->A 4=AE b->A 5=t->Hs (Hc 80) (match FH (a.Á,b.Á) with
   |Ä=>[cF Cd [EK z,EK w] (.Ê r),cF Dq [A 3,.Ê (b.Á -1:Ï)] (A 6),cF Dq [A 5,.Ê (a.Á -1:Ï)] (A 7),cF BP [A 6,A 7] (A 8),cF BP [.Ç [.Ê r,.Ê 1],A 8] (A 9),cF DM [A 9] (A 10)]
   |Å=>[cF Fj [.Ê 0,.Ê 1] (A 10)])->Ó 100 BE [nf a,nf b,.Ý AD] (A 10):=λA r h0 h1 J h3 L h5 hh=>by
  exists A r,h0 h1 J h3 L h5 hh;have x:=ah (yN (A,λi=>if i<3 then z.ø i 0 else if i<6 then w.ø (i -3) 0 else r)) _ (hW Ft f);have O:=ac (lm l) Ft;have ez:=(wd (w:=w) (r:=r) O 0 z (.Ę {Î,Î})).Ŏ (i8.ĝ O);have ew:=(wd (z:=z) (r:=r) O 3 w (.Ġ {Î,Î})).Ŏ (i8.ĝ (ac (lm d) f));rw[l] at ez;rw[d] at ew;unfold UZ at x;dsimp only at x;rw[ez,ew,h0,h1] at x;show sr (N:=80) (Hs.rev (Hs.app (.Æ (c:=cF _ _ _) (by rw[J];show aa pa _0) (.Æ (c:=cF _ _ _) (by rw[J,h3];show aa B _0) (.Æ (c:=cF _ _ _) (by rw[L];show aa pb _0) (.Æ (c:=cF _ _ _) (by rw[L,h5];show aa E _0) .å)))) ?_)) x;show hh
 by_cases h:a=[]\/b=[]
 ·have bf:FH (a.Á,b.Á)=Å:=by
   rcases h with rfl|rfl
   ·rfl
   ·show é.and_false _
  show{0,mQ Ft f (by rw[bf];show Î),?_};show I (λi=>match i with|0=>nf a|1=>nf b|2=>AE a|3=>s|4=>AE b|5=>t|_=>Ag (0,1)) 0 Î Î Î Î Î Î ?_;rw[bf];show .Æ (c:=cF _ _ _) (aa wa _0) .å
 ·have Ky:a≠[]:=λq=>h (.Ę q);have b0:b≠[]:=λq=>h (.Ġ q);have a1:=Ch.ĝ Ky;have b1:=Ch.ĝ b0;have y:FH (a.Á,b.Á)=Ä:=im.ĝ {l4 a1,l4 b1};show bG λG=>ag (C Ky) λu m5 f9=>?_;obtain rfl:=m5;show jz f9 ?_;clear f9;intro u6 Q WC na ca;show G ?_;clear G;show bG λG=>ag (H b0) λv m6 j6=>?_;obtain rfl:=m6;show jz j6 ?_;clear j6;intro v6 T KO nb cb;show G ?_;clear G;exists u v,B C u6 Q E H I v6 T;have da:∀e∈z,bd 2 (u*e):=λe U=>m.row.bd _ (by rw[Q];show i1.ĝ {e,U,Î});have db:∀e∈w,bd 2 (v*e):=λe U=>o.row.bd _ (by rw[T];show i1.ĝ {e,U,Î});have ma:a.Ö AB=z.Ö λe:ä=>AB (u*e):=(â (Â.Ö AB) Q).Ð (lf ..);have mb:b.Ö AB=w.Ö λe:ä=>AB (v*e):=(â (Â.Ö AB) T).Ð (lf ..);obtain⟨r,g,j,k⟩:∃r:ä,r.ï<2^100/\Ó 80 Cd [EK z,EK w] (.Ê r)/\Ó 50 AJ [Px (a.Ö AB) (b.Ö AB)] (AB (r*(u^(b.Á -1)*v^(a.Á -1)))):=by
   by_cases hl:b.Á<=a.Á
   ·have V:(Å,z.Á,w.Á)∈Tb:=by
     rw[l,d];show(zF _ (hW Ft f) y).1 hl
    show bG λG=>au (core (u:=u) (v:=v) Å V na nb WC KO ca cb da db) λr g m7 k=>bG λG=>ag m7 λ_ m8 j=>?_;obtain rfl:=m8;show G ?_;clear G;show G ?_;clear G;show{r,g,j,?_};rw[ma,mb,<-l,<-d];show k
   ·have V:(Ä,w.Á,z.Á)∈Tb:=by
     rw[l,d];show(zF _ (hW Ft f) y).2 hl
    show bG λG=>au (core (u:=v) (v:=u) Ä V nb na KO WC cb ca db da) λr g m9 k=>bG λG=>ag m9 λ_ o0 j=>?_;obtain rfl:=o0;show G ?_;clear G;show G ?_;clear G;show{r,g,j,?_};rw[ma,mb,<-l,<-d,YE (u^_)];show k
  exists r,g j k;have Bp:=mP u6 (n:=b.Á -1) (UF f 1);have p2:=mP v6 (n:=a.Á -1) (UF Ft 1);have bm:=Bp.2.ļ p2.2;have br:bd 100 (r:ñ):={g,show 1<2^100 by decide};show{_,mQ Ft f (by rw[à y];show k),?_};show I (λi=>match i with|0=>nf a|1=>nf b|2=>AE a|3=>AB u|4=>AE b|5=>AB v|6=>AB (u^(b.Á -1))|7=>AB (v^(a.Á -1))|8=>AB (u^(b.Á -1)*v^(a.Á -1))|9=>AB (r*(u^(b.Á -1)*v^(a.Á -1)))|_=>Ag ((r*(u^(b.Á -1)*v^(a.Á -1)):ñ).õ,(r*(u^(b.Á -1)*v^(a.Á -1)):ñ).þ)) r Î Î Î Î Î Î ?_;rw[y];show .Æ (c:=cF _ _ _) j (.Æ (c:=cF _ _ _) (aa Bp.1 _0) (.Æ (c:=cF _ _ _) (aa p2.1 _0) (.Æ (c:=cF _ _ _) (aa (dB Bp.2 p2.2 _0) _0) (.Æ (c:=cF BP [AB (r:ñ),AB _] _) (aa (dB br bm _0) _0) (.Æ (c:=cF _ _ _) (aa (se (br.ļ bm) _0) _0) .å)))))
def Va:Bc:=match KN with
 | .ő _ b _=>b
 |_=>.å
def Vb:XS:=match Va with
 | .Æ s _=>s
 |_=>.Û
def Rm:XE:=.tup (.Æ (.Ý Cq) (.Æ (.Đ 10) (.Æ (.Đ 11) .å)))
def Rn:XE:=.ň BE (.Æ (.Đ 8) (.Æ (.Đ 9) (.Æ (.ex (.Ý AD)) .å)))
def yU:Va= .Æ Vb (.Æ (.Ũ (.cmp .eq Rn Rm)) .å):=_2
def Ro(A x3 x4 x5:Ë Ą)(a b:Â ñ)(n m:ä):Aa:=[A,À .Az,À (.ê (.Ê 1)),x3,x4,x5,À (.ê (AE a)),À (.ê (AE b)),À (.ê (nf a)),À (.ê (nf b)),À (.ê (.Ê n)),À (.ê (.Ê m))]
section
variable{A x3 x4 x5:Option Slot}{a b:List Rat}{n m:Int}
def aaU:XS.ex (iF 600) KN (FG A x3 x4 x5 1 a b)=Va.ex (iF 600) (FG A x3 x4 x5 1 a b):=_2
def yV:Rm.ev (iF 600) (Ro A x3 x4 x5 a b n m)=Ñ (Ag (n,m)):=_2
def yW:Rn.ev (iF 600) (Ro A x3 x4 x5 a b n m)=R 600 BE ([nf a,nf b,.Ý AD].Ö .ê):=_2
def yX:AV (Ag (n,m))=Ä:=_2
end
def yY(h:Œ a)(d:Œ b)(A x3 x4 x5:Ë Ą):∃ρ',XS.ex (iF 600) KN (FG A x3 x4 x5 1 a b)=Ñ (ρ',À (.Ù Ä)):=by
 show ag (yT h d) λq f g=>{Ro A x3 x4 x5 a b q.õ q.þ,?_};have s:Vb.ex (iF 600) (FG A x3 x4 x5 1 a b)=Ñ (Ro A x3 x4 x5 a b q.õ q.þ,Ã):=vv (k:=5) (n:=5) (hk:=0) (S:=[BM]) (os:=[AB q]) (ŋ:=[]) _0 (.Æ (c:=cF BM [AE a,AE b] (AB q)) f .å) _2;have e:(XE.cmp .eq Rn Rm).ev (iF 600) (Ro A x3 x4 x5 a b q.õ q.þ)=Ñ (.Ù Ä):=by
  change(Rn.ev _ _>>= λx=>Rm.ev _ _>>= λy=>B_ .eq x y)=_;rw[yW,g 600 _0,yV];show ÂT yX
 rw[aaU,yU];change(Vb.ex _ _>>=_)=_;rw[s];change((XE.cmp .eq Rn Rm).ev _ _>>=_)>>=_=_;rw[e];rfl
end
end PQ.Internal
theorem PySem.Challenge.cw_pq0204_01_holds : PySem.Challenge.rw_pq0204_01.Holds := by
 exact PQ.Internal.ru (PQ.Internal.sa PQ.Internal.yY) PQ.Internal.oR
