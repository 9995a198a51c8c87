import PyProof.Rows.All
import PyProof.Rows.TupDisplay
import KE.KxMul
import KE.KNest
import KE.KDictNew
import KE.KEqSeq
import KE.KMethU
import KE.RegKTryDeep
import Wide.FinOn
import OpenK.AllK
import Wide.All
import PySem.Challenge.RW_pq0369_01
set_option Elab.async false
set_option maxRecDepth 100000
set_option maxHeartbeats 4000000
set_option linter.unusedVariables false
set_option genSizeOf false
set_option genInjectivity false
set_option genCtorIdx false
set_option compiler.extract_closed false
set_option bootstrap.genMatcherCode false
set_option tactic.hygienic false
local macro_rules
  | `(tactic| obtain $p : $h:ident := $t) => `(tactic| (replace $h:ident := $t; rcases $h:term with $p))
local macro_rules
  | `(tactic| cases $h:ident) => `(tactic| first | injection $h; done | subst $h | injection $h with h1 h2 h3; cases h1; cases h2; cases h3 | injection $h with h1 h2; cases h1; cases h2 | injection $h with h1; cases h1)
open Array renaming any_toList→K1
open Bool renaming false_eq_true→Il,noConfusion→dL,and_eq_true_iff→pi,not_eq_eq_eq_not→IH,or_true→JX,or_eq_true_iff→Ib,and_eq_true→db,not_true→Ll,false_ne_true→HV,not_not→Jd,or_eq_true→Jm,not_eq_true'→KR
open Eq renaming trans→Km
open ForInStep renaming yield→IF
open Int renaming ofNat_le→Ls,eq_ofNat_of_zero_le→HX,fmod_nonneg_of_pos→JV,fmod_lt_of_pos→KG
open Int.ofNat renaming inj→Lk
open List renaming eq_nil_of_length_eq_zero→Jh,contains_cons→HU,any_eq_true→K0,size_toArray→pr,mem_cons_of_mem→Ha,mem_cons→eq,mem_append→nl,mem_append_left→r6,mem_append_right→ev,filterMap_cons→IU,mem_map→re,mem_map_of_mem→nw,replicate→Hr,length_append→Hv,length_cons→Hb,length_nil→Hx,mem_singleton→o0,not_mem_nil→HN,take_nil→Lj,map_append→wE,map_cons→mo,nodup_append→zs,nodup_cons→sB,Sublist→Ih,sublist_cons_self→IA,find?_cons→ID,any_cons→JJ,length_eq_zero_iff→JN,drop_zero→La,all_cons→IZ,append_nil→wT,map_id→Kk,getElem?_eq_some_iff→He,pairwise_iff_getElem→Jz,getElem?_map→Iq,mem_of_getElem?→Kj,forIn_nil→Jx,forIn_cons→IC,length_map→xL,nil_append→Hw,lookup_cons→Hs,getElem?_eq_none→Ka,all_eq_true→eg,findIdx?→JI,findIdx?_cons→KC,getElem?_eq_none_iff→JA,map_inj_left→wv,count→IB,getElem?_eq_getElem→JH,mem_flatMap→sK,append_assoc→H1,mem_flatMap_of_mem→HW,count_append→xz,count_nil→H0,map_map→JU,range→LJ
open List.Perm renaming swap→Ik,refl→Lb
open List.Sublist renaming append→Kq,refl→KQ
open List.cons renaming inj→IY
open Nat renaming beq→av,eq_of_beq_eq_true→J9,lt_succ_self→Db,ne_of_gt→Ig,ne_of_lt→Hg,le_refl→wh,le_of_eq→HZ,le_succ_of_le→Ip,not_le_of_lt→HM,le_of_succ_le→Hh,lt_irrefl→JG,le_trans→na,le_succ→Kh,succ_le_succ→KY,ble→gy,le_of_ble_eq_true→al,le_add_right→Jf,lt_succ_of_lt→Jb,blt→u8,lt_of_not_le→KZ,not_succ_le_self→Kg,add_sub_cancel_left→JM,lt_of_lt_of_le→sw,lt_trans→Hk,succ_ne_self→KX,beq_refl→Hu,le_of_lt→Iz,ble_eq_true_of_le→ls,lt_succ_of_le→Jc,le_add_left→Jl,lt_succ_iff_lt_or_eq→JF,zero_add→Ja,lt_of_le_of_lt→HT
open Ne renaming symm→Jo
open Option renaming noConfusion→bn,map→LG,bind_some→KW,bind_eq_some_iff→Hq,map_eq_some_iff→JR,isSome_iff_exists→kt,isNone_iff_eq_none→pt
open Option.some renaming inj→bd
open Prod renaming ext→HJ,fst→K9,snd→K8,mk→KP
open Prod.mk renaming injEq→Li
open PyProof.Rows renaming Below→H2,Top→Lh,CellsAre→Jy,lookup_of_mem_nodup→Kp,cellsFrom_names→Jj,spliced_none→HK,spliced_more→Hn,callWith_builtin1→H5,callWith_type1→Hz,MethodCall_→Ki,callWith_method1→KU,BoolOp_one→LL,Subscript_→Ju,isTrue_or_nil→Lf,isTrue_or→KT,assignInOrder_cons→Kz,assign_Name→Ho,IntsAre→Lr
open PyProof.Rows.LCg renaming ns_obj→LK
open PySem renaming Result→Hp,wpAny→fm,wpAny_loadPart_at→wS,wpAny_isSubtype_exc→Hi,wpAny_madeBy_exc→KS,codeAny→Hj,wpAt_of_wpAny→Ld,wpAny_holding→H6,wpAny_bind→ca,wpAny_mono→I0,wpAny_call→HS,arm_exec_Raise→K5,wpAny_standAt→Ir,wpAny_pure→oj,codeAny_call_builtin→H9,wpAny_mkText→JO,wpAny_loadPart→IJ,wpAny_newObj_type→I6,wpAny_field→HI,wpAny_setField→HY,ExcName→H8,BindsTo→Lv,codeAny_call_function→JZ,wpAny_newFunctionEnv_cells→Jp,codeAny_func→Ln,wpAny_attempt→JD,Sem→Jv,wpAny_throw→II,strKind→tz,wpAny_loadName_local→Kb,wpAny_Name→Ku,wpAny_Constant_int→Kv,strKind_is→Ix,wpAny_truthy_bool→I5,intText?→K7,IsTupleKey→KD,isTrue→Ie,pairTrees_nil_walk→Kw,pairTrees_cons_walk→Ko,wpAny_Slice→Kc,wpAny_isTrue_Compare1→JY,wpAny_storeName_local→IG,wpAny_Assign_Name→Im,wpAny_While→Lw,wpAny_Return_some→KL,passOn→Lp,wpAny_execs_nil→HQ,IsRangeIter→Ji,wpAny_For→LM,call_range_1→Lo,rangeSize_one→Le,wpAny_pyIter_range→Kt,small_one→LO,wpAny_pyIter_list→KI,lookup_relabel_local→Kd,wpAny_assign_Name→KJ,wpAny_tests_nil→K2,eval_ListComp→Lg,wpAny_comprehension_free→Iu,call→LF,wpAny_execs_cons→Iw,codeAny_whileLoop→KN,Params→pc
open PySem.Around renaming frames_deeper→Kn
open PySem.Builtin.Int renaming intBits→Ks
open PySem.Builtin.Range renaming rangeSize→Hc
open PySem.Calls renaming Name_function_global→IP,loadGlobal_global→KM
open PySem.Code renaming quiet_builtin→KH
open PySem.EntryCells renaming newEntry→Kr
open PySem.F renaming excBase_Exception→Hm,attr_Exception→JP,entry_bexc_ga→J8,args_bexc_ga→Kf
open PySem.Heap renaming size_push→IQ,get?_push_of_some→FB,lt_size→r7,get?_update_other→JW,get?_push_size→Ia,get?_none_of_le→Kl,SameBut→Lu
open PySem.IsRange renaming new→LC
open PySem.NameKind renaming free→HP
open PySem.Obj renaming mapFields→Hy,cls→Lq
open PySem.PyData renaming keyHash→Hl,strOk→Ht,canLay0→Jw,depth→JQ,canLayAll0→I9,depthAll→Jk,eqv→Iy,eqvAll→Iv
open PySem.Sem renaming bind→K6
open PySem.Str renaming ofString→ag
open PySem.Txt renaming slice→LR
open PySem.Value renaming ref→pf,builtin→IV,none→zn,str→HL,int→JL
open PySem.W renaming Looks→IX,InitBack→Lc,looks_findIn→Ic,any_some→Jt,looks_mroIn→Jg,check_slot→Ky,looks_clsIn→Ke,Upd→LQ,news_upd→IK,set_plain→LP,KtsTurn→Hd,kts_turn_at→Lx,hideAll_get→IM,of_hideAll→I4,hideAll_size→Lm,hideAll_none→I7,looks_find→LD,listOf→I8,topRead_of→I1,ki_setL→Jn,kdt_getItem→Ly,kda_dict→K3,cellsFrom_some→K4,codeRec_of→Kx,boot_heap→H3,boot_drawn→Jr,boot_toks→JK,look_both→IR,mem_of_lookupK→Jq
open PySem.W.Fast renaming te10110043849684766642→r9,te14364793385576792824→r8,te17119622794617984870→IW
open PySem.W.KtsTurn renaming trans→Go,refl→Cn
open PySem.W.Looks renaming here→LH
open PySem.W.Z renaming eqB→Io,ltB→KO,leB→Ij,eqB_iff→Ii,ltB_iff→KV,leB_iff→H4,blt_iff→Je
open PySem.Walks renaming list→KB,range→Lz
section
open PySem PySem.W PySem.Spec PySem.Calls
open Sem (wp)
namespace Mine
section
variable{prog:Program}{w:World}{M:Model}{A:Around}{E:Value->Shared->Prop}{R:Hp->Shared->Prop}{h:Heap}{g:Array GenState}{d:Drawn}{t:Nat}{os:OsState}
variable{nm q:Str}{C N:Addr}{bs bm:List Value}{hdct:Bool}{sn:List Str}{sub:List Value}{ab:Bool}{col:Option Bool}{dd:Option Addr}{k0 k1 k2 k3 k5:Option Value}
theorem kr{rest:List Value}{Q:Unit->Shared->Prop}(hcont:(pf C::bm).contains (.type "Exception")=true)
  (hC:h.get? C=some (excClassObj nm q C N bs bm hdct sn sub ab col dd k0 k1 k2 k3 k5 "Exception.__new__")) (hq:Q () ⟨h,g,d,t,os⟩):
  fm M A (checkBuiltinCall "Exception.__new__" ⟨.ref C::rest,[]⟩) Q E ⟨h,g,d,t,os⟩:=by
 have Fn:=Hm
 have hstar:=Fn.noStar
 simp only[checkBuiltinCall,Fn.newKind,Fn.newSplit,Fn.newRow]
 repeat (first|refine wS hC ?_|(refine Hi hC ?_;rw[hcont])|refine wpAny_staticBase_exc hC ?_|refine KS hC ?_|simp only[bne_self_eq_false,Il,if_false]|wp_step)
 exact hq
theorem zK{rest:List Value}(hcB:(pf C::bm).contains (.type "Exception")=true)(hcA:(pf C::bm).contains (.type "AttributeError")=false)(hcN:(pf C::bm).contains (.type "NameError")=false)
  (hC:h.get? C=some (excClassObj nm q C N bs bm hdct sn sub ab col dd k0 k1 k2 k3 k5 "Exception.__new__"))
  (hq:R (.ok (.ret (.ref (h.objs.size+1)))) ⟨(h.push {cls:= .type "tuple",data:= .seq rest.toArray}).push
   {cls:= .ref C,data:= .fields #[.ref h.objs.size,.none,.none,.none,.bool false,.none]},g,d,t,os⟩) (hrest:rest.length<=sizeLine):
  Hj (model prog w) A (.builtin "Exception.__new__" ⟨.ref C::rest,[]⟩) R ⟨h,g,d,t,os⟩:=by
 have Fn:=Hm
 have hends:=Fn.ends
 refine codeAny_builtinAt Fn.entry ?_
 unfold Builtin.«BaseException.__new__»
 refine wpAt_bind ?_
 show wpAt _ _ _ (stack>>=_) _ _ _
 refine wpAt_bind (wpAt_stack fun p below=>Ld ?_)
 wp_walk
 refine Ld ?_
 rw[Fn.owner]
 repeat (first|with_reducible refine wpAny_madeHere_exc Fn.canon hC ?_|with_reducible refine wS hC ?_|(with_reducible refine Hi hC ?_;first|rw[hcB]|rw[hcA]|rw[hcN])|wp_step)
 show R _ _
 rw[IQ]
 exact hq
noncomputable abbrev hS(C t:Addr):Obj:={cls:= .ref C,data:= .fields #[.ref t,.none,.none,.none,.bool false,.none]}
noncomputable abbrev iN(vs:List Value):Obj:={cls:= .type "tuple",data:= .seq vs.toArray}
theorem kq{rest:List Value}{fI:Addr}{Q:Fin->Shared->Prop}(hcB:(pf C::bm).contains (.type "Exception")=true)(hcA:(pf C::bm).contains (.type "AttributeError")=false)(hcN:(pf C::bm).contains (.type "NameError")=false)
  (hC:h.get? C=some (excClassObj nm q C N bs bm hdct sn sub ab col dd k0 k1 k2 k3 k5 "Exception.__new__"))
  (hi:IX (model prog w) h (typeLookup (.ref C) "__init__") (some (.ref fI))) (hb:∀self,IX (model prog w) h (bindSpecial (.ref fI) self) (.ref fI,[self]))
  (hq:fm (model prog w) A (call (.ref fI) (.ref (h.objs.size+1)::rest)) (fun r s'=>r= .none/\Q (.done (.ret (.ref (h.objs.size+1)))) s') E ⟨(h.push (iN rest)).push (hS C h.objs.size),g,d,t,os⟩) (hrest:rest.length<=sizeLine):
  fm (model prog w) A (Builtin.«type.__call__» ⟨.ref C::rest,[]⟩) Q E ⟨h,g,d,t,os⟩:=by
 have Fn:=Hm
 repeat (first|with_reducible refine wS hC ?_|with_reducible refine KS hC ?_|wp_step)
 refine codeAny_call_builtin_code (KH _ Fn.quiet) (kr hcB hC ?_)
 refine zK hcB hcA hcN hC ?_ hrest
 show fm _ _ _ _ _ _
 have k:∀b o,h.get? b=some o->((h.push (iN rest)).push (hS C h.objs.size)).get? b=some o:=fun b o e=>FB _ (FB _ e)
 have hC₁:=k _ _ hC
 have hget:((h.push (iN rest)).push (hS C h.objs.size)).get? (h.objs.size+1)=some (hS C h.objs.size):=by heap_get
 have hcC:(pf C::bm).contains (.ref C)=true:=by simp
 unfold isInstance
 repeat (first|with_reducible refine wS hget ?_|(with_reducible refine Hi hC₁ ?_;rw[hcC])|wp_step)
 show fm _ _ (typeLookup (.ref C) _) _ _ _
 refine(hi.keeps k).here ?_
 refine H6 (ca ?_)
 refine((hb _).keeps k).here ?_
 refine(ca (I0 hq (fun r s' hr=>?_) fun ι ι x=>x))
 obtain⟨rfl,hQ⟩:=hr
 wp_walk
 exact hQ
theorem wG{rest:List Value}{fI:Addr}{Q:Value->Shared->Prop}(hcB:(pf C::bm).contains (.type "Exception")=true)(hcA:(pf C::bm).contains (.type "AttributeError")=false)(hcN:(pf C::bm).contains (.type "NameError")=false)
  (hC:h.get? C=some (excClassObj nm q C N bs bm hdct sn sub ab col dd k0 k1 k2 k3 k5 "Exception.__new__"))
  (hi:IX (model prog w) h (typeLookup (.ref C) "__init__") (some (.ref fI))) (hb:∀self,IX (model prog w) h (bindSpecial (.ref fI) self) (.ref fI,[self]))
  (hq:fm (model prog w) (A.under (.builtin "type.__call__" ⟨.ref C::rest,[]⟩)) (call (.ref fI) (.ref (h.objs.size+1)::rest)) (fun r s'=>r= .none/\Q (.ref (h.objs.size+1)) s') E ⟨(h.push (iN rest)).push (hS C h.objs.size),g,d,t,os⟩) (hrest:rest.length<=sizeLine):
  fm (model prog w) A (call (.ref C) rest) Q E ⟨h,g,d,t,os⟩:=by
 have f1:=tc_lookup
 have f2:=tc_bind (.ref C)
 have hT:(⟨h,g,d,t,os⟩:Shared).TypeIs (.ref C) "type":=⟨_,hC,rfl⟩
 refine HS (codeAny_of_tree ?_)
 show fm _ _ (callAny (.ref C) _) _ _ _
 repeat (any_goals (first|assumption|with_reducible refine wS hC ?_|wp_step))
 refine⟨rfl,?_⟩
 refine codeAny_call_builtin_at (KH _ (by decide+kernel)) entry_typeCall (wpAny_check_type_call_sub hC (kq hcB hcA hcN hC hi hb ?_ hrest))
 exact I0 hq (fun r s' z=>z) fun ι ι x=>x
end
end Mine
end
section
open PySem PySem.W PySem.Spec PySem.Calls
open PyProof.Rows (Fr News)
open Sem (wp)
namespace Mine
noncomputable def nV(t:String):Value->Bool
 | .type s=>s==t
 |_=>false
theorem gM{t:String}{v:Value}(h:nV t v=true):v= .type t:=by
 cases v<;>first|exact congrArg Value.type (beq_iff_eq.mp h)|exact dL h
noncomputable def DO(t:String):Option Value->Bool
 |some (.builtin s)=>s==t
 |_=>false
theorem xj{t:String}{v:Option Value}(h:DO t v=true):v=some (.builtin t):=by
 cases v with
 |none=>exact dL h
 |some v=>cases v<;>first|exact congrArg (fun s=>some (IV s)) (beq_iff_eq.mp h)|exact dL h
noncomputable def isAt(C:Addr):Value->Bool
 | .ref a=>a==C
 |_=>false
theorem xl{C:Addr}{v:Value}(h:isAt C v=true):v= .ref C:=by
 cases v<;>first|exact congrArg pf (beq_iff_eq.mp h)|exact dL h
noncomputable def Di:Data->Option ClassData
 | .cls cd=>some cd
 |_=>none
theorem yN{d:Data}{cd:ClassData}(h:Di d=some cd):d= .cls cd:=by
 cases d<;>first|exact congrArg Data.cls (bd h)|exact bn rfl (heq_of_eq h)
noncomputable def FW(C:Addr):List Value->Bool
 |v::bm=>isAt C v&&(bm.contains (.type "Exception")&&(bm.contains (.type "BaseException")&&(!bm.contains (.type "AttributeError")&&!bm.contains (.type "NameError"))))
 | []=>false
noncomputable def D2(C:Addr)(o:Obj):Bool:=nV "type" o.cls&&((av o.slots.toList.length 6&&DO "Exception.__new__" (o.slots.toList.getD 4 none))&&(Di o.data).any fun cd=>FW C cd.mro&&!cd.hasDel)
noncomputable def cI(K:Frag)(C:Addr):Bool:=(K.lookup C).any (D2 C)
theorem ka{α:Type}{n:Nat}{l:List α}(h:l.length=n+1):∃a m,l=a::m/\m.length=n:=by
 cases l with
 |nil=>cases h
 |cons a m=>exact⟨a,m,rfl,Nat.succ.inj h⟩
theorem FF{α:Type}{l:List α}(h:l.length=6):∃a b c d e f,l= [a,b,c,d,e,f]:=by
 obtain⟨a,l,e1,h⟩:=ka h
 obtain⟨b,m,e2,h⟩:=ka h
 obtain⟨c,n,e3,h⟩:=ka h
 obtain⟨d,p,e4,h⟩:=ka h
 obtain⟨e,q,e5,h⟩:=ka h
 obtain⟨f,r,e6,h⟩:=ka h
 exact⟨a,b,c,d,e,f,by rw[e1,e2,e3,e4,e5,e6,Jh h]⟩
inductive ExcAt(h:Heap)(C:Addr):Prop
 |mk (nm q:Str) (N:Addr) (bs bm:List Value) (hdct:Bool) (sn:List Str) (sub:List Value) (ab:Bool) (col:Option Bool) (dd:Option Addr) (k0 k1 k2 k3 k5:Option Value) (o:h.get? C=some (excClassObj nm q C N bs bm hdct sn sub ab col dd k0 k1 k2 k3 k5 "Exception.__new__"))
   (h1:(pf C::bm).contains (.type "Exception")=true) (h2:(pf C::bm).contains (.type "BaseException")=true) (h3:(pf C::bm).contains (.type "AttributeError")=false) (h4:(pf C::bm).contains (.type "NameError")=false):ExcAt h C
theorem rF{α:Type}{o:Option α}{f:α->Bool}(h:o.any f=true):∃a,o=some a/\f a=true:=by
 cases o with
 |none=>exact dL h
 |some a=>exact⟨a,rfl,h⟩
theorem eI{K:Frag}{h:Heap}{C:Addr}(X:K.In h)(e:cI K C=true):ExcAt h C:=by
 obtain⟨⟨cls,dd,data,⟨sl⟩⟩,ho,e⟩:=rF e
 obtain⟨e1,f2⟩:=pi.mp e
 clear e
 obtain⟨f3,e5⟩:=pi.mp f2
 clear f2
 obtain⟨e3,e4⟩:=pi.mp f3
 clear f3
 obtain⟨cd,e6,f7⟩:=rF e5
 clear e5
 obtain⟨e7,e8⟩:=pi.mp f7
 clear f7
 obtain⟨k0,k1,k2,k3,k4,k5,rfl⟩:=FF (J9 e3)
 obtain rfl:k4=some (.builtin "Exception.__new__"):=xj e4
 obtain rfl:cls= .type "type":=gM e1
 obtain rfl:data= .cls cd:=yN e6
 obtain⟨nm,bs,mro,ns,qn,hd,sn,sub,ab,col,del⟩:=cd
 cases mro with
 |nil=>exact dL e7
 |cons v bm=>
  obtain⟨c0,c⟩:=pi.mp e7
  obtain⟨c1,c⟩:=pi.mp c
  obtain⟨c2,c⟩:=pi.mp c
  obtain⟨c3,c4⟩:=pi.mp c
  obtain rfl:=xl c0
  obtain rfl:del=false:=IH.mp e8
  refine⟨nm,qn,ns,bs,bm,hd,sn,sub,ab,col,dd,k0,k1,k2,k3,k5,X _ _ ho,?_,?_,?_,?_⟩
  ·rw[HU,c1,JX]
  ·rw[HU,c2,JX]
  ·rw[HU,IH.mp c3];rfl
  ·rw[HU,IH.mp c4];rfl
section
variable{prog:Program}{w:World}{A:Around}{E:Value->Shared->Prop}{s:Shared}{K:Frag}{C fI L:Addr}{h₀:Heap}{m:Str->Option Value}{news:List (Addr×Obj)}{Q:Value->Shared->Prop}
theorem call_exc{args:List Value}(F:Fr h₀ L s.heap m)(X₀:K.In h₀)(N:News h₀ L s.heap news)(hm:cI K C=true)(hi:findIn K (.ref C) "__init__"=some (some (.ref fI)))(hf:isFn K (.ref fI)=true)(hz:args.length<=sizeLine)
  (h:∀e t h',Fr h₀ L h' m->News h₀ L h' ((e,hS C t)::(t,iN args)::news)->(∀p∈news,p.1<t)->t<e->
   Hj (model prog w) (A.under (.builtin "type.__call__" ⟨.ref C::args,[]⟩)) (.call (.ref fI) ⟨.ref e::args,[]⟩) (Lc e fun r s'=>match r with| .ok (.ret v)=>Q v s'| .ok _=>False| .error e=>E e s') {s with heap:=h'}):
  fm (model prog w) A (call (.ref C) args) Q E s:=by
 have X:=X₀.keeps F.keep
 obtain⟨nm,q,Nn,bs,bm,hdct,sn,sub,ab,col,dd,k0,k1,k2,k3,k5,hC,c1,c2,c3,c4⟩:=eI X hm
 obtain⟨hh,g,d,t,os⟩:=s
 refine wG c1 c3 c4 hC (Ic X hi) (fun self=>bind_fn X self (beq_iff_eq.mp hf)) ?_ hz
 have N':=(N.push F (iN args)).push (F.push _) (hS C hh.objs.size)
 rw[IQ] at N'
 refine HS (codeAny_mono (h _ hh.objs.size _ ((F.push _).push _) N' (fun p hp=>r7 (N p hp).1) (Db _)) fun r s' z=>?_)
 rcases r with e|(v|_|_|_)<;>first|exact z|exact z.elim|skip
 all_goals (first|exact z|(obtain⟨rfl,z⟩:=z;exact⟨rfl,z⟩))
inductive RaiseV(A:Around)(K:Frag)(E:Value->Shared->Prop)(v:Value)(s:Shared):Prop
 |mk (h:A.handled=none) (e C:Addr) (t:Addr) (dd:Option Addr) (hv:v= .ref e) (X:K.In s.heap) (hm:cI K C=true) (he:s.heap.get? e=some {cls:= .ref C,dict:=dd,data:= .fields #[.ref t,.none,.none,.none,.bool false,.none]}) (hE:E (.ref e) s):RaiseV A K E v s
theorem rT{env:Env}{x:Expr}{pos:Pos}{Q:Flow->Shared->Prop}{g₀:Heap}(_:K.In g₀)(h:fm (model prog w) A (eval x env) (fun v s₁=>RaiseV A K E v s₁) E s):
  fm (model prog w) A (exec (.Raise (some x) none pos) env) Q E s:=by
 rw[K5]
 refine ca (Ir ?_)
 unfold raiseStmt
 simp only[show evalOpt (some x) env=some (eval x env) from rfl,show evalOpt none env=none from rfl,LG]
 refine ca (ca (I0 h (fun v s₁ h₁=>ca (Ir (oj ?_))) fun ι ι x=>x))
 obtain⟨hh,e,C,t,dd,rfl,X,hm,he,hE⟩:=h₁
 obtain⟨nm,q,Nn,bs,bm,hdct,sn,sub,ab,col,dd',k0,k1,k2,k3,k5,hC,c1,c2,c3,c4⟩:=eI X hm
 obtain⟨hp,g,d,tk,os⟩:=s₁
 repeat (first|with_reducible refine wS he ?_|with_reducible refine wS hC ?_|(with_reducible refine Hi hC ?_;rw[c2])|wp_step)
 exact wpAny_raiseNew_none hh hE
end
end Mine
end
section
open PySem PySem.W PySem.Spec PySem.Calls
open PyProof.Rows (Fr News)
open PySem.Builtin PySem.Builtin.ObjectAttr
open Sem (wp)
namespace Mine
noncomputable def FV:List Value->Bool
 | [a,b]=>nV "BaseException" a&&nV "object" b
 |_=>false
noncomputable def AP:Value->Bool
 | .ref _=>true
 |_=>false
noncomputable def gS:List Value->Bool
 | []=>false
 |v::r=>(AP v&&gS r)||(nV "Exception" v&&FV r)
theorem iI{P:List Value->Prop}(h0:P [.type "Exception",.type "BaseException",.type "object"])(h1:∀c r,P r->P (.ref c::r)){l:List Value}:gS l=true->P l:=by
 induction l with
 |nil=>exact fun e=>dL e
 |cons v r ih=>
  intro e
  rcases Ib.mp e with e|e
  ·obtain⟨e1,e2⟩:=pi.mp e
   cases v<;>first|exact h1 _ _ (ih e2)|exact dL e1
  ·obtain⟨e1,e2⟩:=pi.mp e
   rw[gM e1]
   cases r with
   |nil=>exact dL e2
   |cons a r=>cases r with
    |nil=>exact dL e2
    |cons b r=>cases r with
     |nil=>
      obtain⟨e3,e4⟩:=pi.mp e2
      rw[gM e3,gM e4]
      exact h0
     |cons _ _=>exact dL e2
theorem lm(self:Value){l:List Value}:gS l=true->refuseLoop self "__setattr__" l=pure ():=
 iI (P:=fun l=>refuseLoop self "__setattr__" l=pure ()) (PySem.F.store_Exception.passes self) fun c r h=>by rw[refuseLoop_ref];exact h
theorem nc{l:List Value}:gS l=true->l.contains (.type "object")=true:=
 iI (P:=fun l=>l.contains (.type "object")=true) (by decide) fun c r h=>by rw[HU,h,JX]
noncomputable def ik(K:Frag)(C:Addr):Bool:=(clsIn K C).any fun cd=>gS cd.mro&&cd.hasDict
section
variable{prog:Program}{w:World}{A:Around}{E:Value->Shared->Prop}{s:Shared}{K:Frag}{x C dx L:Addr}{h₀:Heap}{m:Str->Option Value}{news news':List (Addr×Obj)}{ox od:Obj}{es es':List DictEntry}{n n':Nat}{name:Str}{v:Value}
theorem kg{od:Option Obj}{tk:Tok}{R:Hp->Shared->Prop}(X:K.In s.heap)(I:InstAt s.heap x ox C od)(hp:ik K C=true)(ht:takerIn K C name=some none)
  (h:∀b,fm (model prog w) A.in1 (storeInOwnDict (.ref x) (.ref C) (.str name tk) name v b)
   (fun fin s'=>match fin with| .done f=>R (.ok f) s'| .again c'=>c'.quiet=true/\Hj (model prog w) A c' R s') (fun e s'=>R (.error e) s') s):
  Hj (model prog w) A (.call (.builtin "object.__setattr__") ⟨[.ref x,.str name tk,v],[]⟩) R s:=by
 have SF:=PySem.F.store_object
 obtain⟨cd,hc,ho⟩:=Jt hp
 obtain⟨ho,-⟩:=pi.mp ho
 have ne:cd.mro.isEmpty=false:=by cases q:cd.mro with|nil=>rw[q] at ho;cases ho|cons _ _=>rfl
 have sub:IX (model prog w) s.heap (isInstance (.ref x) (.type "object")) true:=I.type.andThen (Jg X (by unfold mroIn;rw[hc,KW,if_neg (by rw[ne];decide),nc ho]))
 refine H9 SF.slot.plain SF.entry (@Ky (model prog w) _ _ s "object.__setattr__" "object" "__setattr__" (.ref x) [.str name tk,v] [] _ SF.kind SF.split sub (SF.args (.ref x) (.str name tk) v) ?_)
 obtain⟨attr,ha,hr⟩:=Hq.mp ht
 have hm:IX (model prog w) s.heap (mroOf (.ref C)) cd.mro:=(Ke X hc).andThen .now
 have L3:IX (model prog w) s.heap (storeTaker? attr) none:=by
  cases attr with
  |none=>cases hr;exact .now
  |some a=>
   obtain⟨b,hb,e⟩:=JR.mp hr
   refine(looks_takesIn X hb).andThen ?_
   cases b<;>first|exact .now|cases e
 rw[osa_eq,refuse_eq]
 refine ca (ca (I.type.here (ca (hm.here ?_))))
 rw[lm _ ho]
 refine oj (ca (I.type.here (ca ((Ic X ha).here (ca (L3.here ?_))))))
 exact h _
set_option tactic.hygienic true in
theorem j5{tk:Tok}{Q:Fin->Shared->Prop}(F:Fr h₀ L s.heap m)(N:News h₀ L s.heap news)(hl:(getL name es).isSome=true)
  (e:(putL name (Hl w.params name) (.str name s.toks) v es,putN name es n)=(es',n')) (U:LQ dx (dictOf es n) (dictOf es' n') news news') (hz:es'.length<=1000)
  (h:∀h',Fr h₀ L h' m->News h₀ L h' news'->Q (.done (.ret .none)) {s with heap:=h',toks:=s.toks+1}):
  fm (model prog w) A (storeInDict dx (.str name tk) name v) Q E s:=by
 obtain⟨pre,post,rfl,rfl,h1,h2⟩:=U.split
 obtain⟨e1,e2⟩:=Prod.mk.inj e
 obtain⟨U1,U2⟩:=IK (f:=Obj.putName name (Hl w.params name) (.str name s.toks) v) F N h1 h2 (by rw[putName_dict,e1,e2]) rfl
 have D:=(N (dx,dictOf es n) (by simp)).1
 have D':=(U2 (dx,dictOf es' n') (by simp)).1
 refine ca (oj (ca ?_))
 unfold nsSet
 refine ca (ca (wpAny_askSetting (oj (ca (JO (ca (IJ D ?_)))))))
 dsimp only
 have c:(!es.toArray.any (·.key.isStr name)&&es.toArray.any (·.refKey))=false:=by
  rw[<-K1,<-K1]
  unfold getL at hl
  cases he:es.find? (fun x=>x.key.isStr name) with
  |some en=>rw[K0.mpr ⟨en,List.mem_of_find?_eq_some he,List.find?_some he⟩];rfl
  |none=>
   rw[he] at hl
   dsimp only at hl
   split at hl
   ·cases hl
   ·rename_i z;rw[Bool.not_eq_true] at z;rw[z,Bool.and_false]
 rw[aRefKeyMayBeTheName_at,c]
 refine wpAny_updatePart D ?_
 refine ca (wpAny_lookBehind D' (pastItsLine_dict (by rw[pr,sizeLine_eq];omega)) ?_)
 exact oj (h _ U1 U2)
theorem InstAt.of_newsF{vs:Array Value}{sl:Array (Option Value)}{h:Heap}(N:News h₀ L h news)(h1:(x,(⟨.ref C,some dx,.fields vs,sl⟩:Obj))∈news)(h2:(dx,od)∈news):
  InstAt h x ⟨.ref C,some dx,.fields vs,sl⟩ C (some od):=⟨(N _ h1).1,rfl,rfl,(N _ h2).1⟩
theorem InstAt.of_newsF0{vs:Array Value}{sl:Array (Option Value)}{h:Heap}(N:News h₀ L h news)(h1:(x,(⟨.ref C,none,.fields vs,sl⟩:Obj))∈news):
  InstAt h x ⟨.ref C,none,.fields vs,sl⟩ C none:=⟨(N _ h1).1,rfl,rfl,trivial⟩
theorem wX{vs:Array Value}{sl:Array (Option Value)}{Q:Unit->Shared->Prop}(F:Fr h₀ L s.heap m)(X₀:K.In h₀)(N:News h₀ L s.heap news)(hx:(x,(⟨.ref C,some dx,.fields vs,sl⟩:Obj))∈news)(hd:(dx,dictOf es n)∈news)
  (hs:findIn K (.ref C) "__setattr__"=some (some (.builtin "object.__setattr__"))) (hp:ik K C=true) (ht:takerIn K C name=some none) (hl:(getL name es).isSome=true)
  (e:(putL name (Hl w.params name) (.str name (s.toks+1)) v es,putN name es n)=(es',n')) (U:LQ dx (dictOf es n) (dictOf es' n') news news') (hz:es'.length<=1000)
  (h:∀h',Fr h₀ L h' m->News h₀ L h' news'->Q () {s with heap:=h',toks:=s.toks+2}):
  fm (model prog w) A (setAttr (.ref x) name v) Q E s:=by
 have X:=X₀.keeps F.keep
 have I:=InstAt.of_newsF N hx hd
 refine LP X I hs (kg (s:={s with toks:=s.toks+1}) X I hp ht fun b=>?_)
 obtain⟨cd,hc,ho⟩:=Jt hp
 obtain⟨-,hdc⟩:=pi.mp ho
 refine ca (oj (ca (ca (IJ (N _ hx).1 (ca (LH (s:={s with toks:=s.toks+1}) (Ke X hc) ?_))))))
 rw[hdc]
 refine oj (a:=some dx) ?_
 exact j5 (s:={s with toks:=s.toks+1}) F N hl e U hz fun h' F' N'=>h h' F' N'
theorem tU{nf:Addr->List (Addr×Obj)}{vs:Array Value}{sl:Array (Option Value)}{Q:Unit->Shared->Prop}(F:Fr h₀ L s.heap m)(X₀:K.In h₀)(N:News h₀ L s.heap news)
  (hs:findIn K (.ref C) "__setattr__"=some (some (.builtin "object.__setattr__"))) (hp:ik K C=true) (ht:takerIn K C name=some none)
  (U:∀d,(∀p∈news,p.1<d)->LQ x ⟨.ref C,none,.fields vs,sl⟩ ⟨.ref C,some d,.fields vs,sl⟩ news (nf d))
  (h:∀d h',Fr h₀ L h' m->News h₀ L h' ((d,dictOf [⟨Hl w.params name,.str name (s.toks+1),v⟩] 1)::nf d)->(∀p∈news,p.1<d)->Q () {s with heap:=h',toks:=s.toks+2}):
  fm (model prog w) A (setAttr (.ref x) name v) Q E s:=by
 have X:=X₀.keeps F.keep
 have l:∀p∈news,p.1<s.heap.objs.size:=fun p hp=>r7 (N p hp).1
 obtain⟨pre,post,e1,e2,h1,h2⟩:=(U _ l).split
 subst e1
 have hx:(x,(⟨.ref C,none,.fields vs,sl⟩:Obj))∈pre++(x,(⟨.ref C,none,.fields vs,sl⟩:Obj))::post:=by simp
 have I:=InstAt.of_newsF0 N hx
 refine LP X I hs (kg (s:={s with toks:=s.toks+1}) X I hp ht fun b=>?_)
 obtain⟨cd,hc,ho⟩:=Jt hp
 obtain⟨-,hdc⟩:=pi.mp ho
 have lx:=l _ hx
 have N₁:=N.push F {cls:= .type "dict",data:= .dict #[]}
 have F₁:=F.push {cls:= .type "dict",data:= .dict #[]}
 have hx₁:=(N₁ _ (Ha _ hx)).1
 refine ca (oj (ca (ca (IJ (N _ hx).1 (ca (LH (s:={s with toks:=s.toks+1}) (Ke X hc) ?_))))))
 rw[hdc]
 refine ca (wpAny_alloc (ca (wpAny_update (s:={s with heap:=s.heap.push _,toks:=_}) hx₁ (oj (a:=some s.heap.objs.size) ?_))))
 obtain⟨F₂,N₂⟩:=IK (pre:=(s.heap.objs.size,dictOf [] 0)::pre) (f:=fun o=>{o with dict:=some s.heap.objs.size}) F₁ N₁ (fun p hp=>by
  rcases eq.mp hp with rfl|hp
  ·exact Ig lx
  ·exact h1 p hp) h2 rfl rfl
 exact j5 (es:= []) (n:=0) (s:={s with heap:=_,toks:=s.toks+1}) F₂ N₂ rfl rfl (.head fun p hp=>by
  rcases nl.mp hp with hp|hp
  ·exact Hg (l p (r6 _ hp))
  ·rcases eq.mp hp with rfl|hp
   ·exact Hg lx
   ·exact Hg (l p (ev _ (Ha _ hp)))) (by simp[putL]) fun h' F' N'=>h _ h' F' (e2▸N') l
end
end Mine
end
section
open PySem PySem.W PySem.Spec PySem.Calls
open PyProof.Rows (Fr News)
open Sem (wp)
namespace Mine
section
variable{prog:Program}{w:World}{A:Around}{E:Value->Shared->Prop}{s:Shared}{K:Frag}{e C t L:Addr}{h₀:Heap}{m:Str->Option Value}{news:List (Addr×Obj)}{nf:Addr->List (Addr×Obj)}{Q:Value->Shared->Prop}
theorem j3{M:Model}{rest:List Value}{Q:Unit->Shared->Prop}{o:Obj}(X:K.In s.heap)(hm:cI K C=true)(he:s.heap.get? e=some o)(hc:o.cls= .ref C)(hq:Q () s):
  fm M A (checkBuiltinCall "Exception.__init__" ⟨.ref e::rest,[]⟩) Q E s:=by
 obtain⟨nm,q,Nn,bs,bm,hdct,sn,sub,ab,col,dd,k0,k1,k2,k3,k5,hC,c1,c2,c3,c4⟩:=eI X hm
 obtain⟨hh,g,d,tk,os⟩:=s
 have Fn:=Hm
 have hshort:=Fn.noStar
 simp only[checkBuiltinCall,Fn.initKind,Fn.initSplit,Fn.initRow]
 repeat (first|(with_reducible refine wS he ?_;rw[hc])|with_reducible refine wS hC ?_|(with_reducible refine Hi hC ?_;rw[c1])|wp_step)
 refine wpAny_onRaise ?_
 rw[show∀(a b:String) (n:Nat),Bind.check ⟨.positional,"*","Exception",.self,[⟨"args",.varPos,false⟩]⟩ a b n (List.map (fun x=>x.fst) ({pos:=pf e::rest}:Args).kw)=pure () from
  fun a b n=>check_star_args _ _ _ _ _ _]
 exact oj hq
theorem vM{rest:List Value}(F:Fr h₀ L s.heap m)(X₀:K.In h₀)(N:News h₀ L s.heap news)(hm:cI K C=true)(hz:rest.length<=sizeLine)
  (U:∀t',(∀p∈news,p.1<t')->LQ e (hS C t) (hS C t') news (nf t'))
  (h:∀t' h',Fr h₀ L h' m->News h₀ L h' ((t',iN rest)::nf t')->(∀p∈news,p.1<t')->Q .none {s with heap:=h'}):
  fm (model prog w) A (call (.builtin "Exception.__init__") (.ref e::rest)) Q E s:=by
 have X:=X₀.keeps F.keep
 have Fn:=Hm
 have l:∀p∈news,p.1<s.heap.objs.size:=fun p hp=>r7 (N p hp).1
 obtain⟨pre,post,e1,e2,h1,h2⟩:=(U _ l).split
 subst e1
 have hx:(e,hS C t)∈pre++(e,hS C t)::post:=by simp
 have lx:=l _ hx
 have he:=(N _ hx).1
 refine HS (H9 Fn.init.plain Fn.initEntry (j3 X hm he rfl ?_))
 have N₁:=N.push F (iN rest)
 have F₁:=F.push (iN rest)
 have he₁:=(N₁ _ (Ha _ hx)).1
 unfold Builtin.«BaseException.__init__»
 dsimp only
 rw[if_neg (by simp)]
 unfold newTuple Builtin.BaseException.bexcPut
 refine ca (I6 (ca (ca (HI (s:={s with heap:=s.heap.push (iN rest)}) he₁ rfl (x:= .ref t) rfl (ca (HY (s:={s with heap:=s.heap.push (iN rest)}) he₁ rfl (by simp) ?_))))) (by show rest.toArray.size<=sizeLine;rw[pr];exact hz))
 obtain⟨F₂,N₂⟩:=IK (pre:=(s.heap.objs.size,iN rest)::pre) (f:=Hy (·.setIfInBounds 0 (.ref s.heap.objs.size))) (o':=hS C s.heap.objs.size) F₁ N₁ (fun p hp=>by
  rcases eq.mp hp with rfl|hp
  ·exact Ig lx
  ·exact h1 p hp) h2 rfl rfl
 exact wpAny_letGo (oj (h _ _ F₂ (e2▸N₂) l))
end
end Mine
end
section
open PySem PySem.W PySem.Spec PySem.Calls PyProof.Rows
open Sem (wp)
namespace Mine
noncomputable abbrev eJ(C:Addr)(dd:Option Addr)(vs:Array Value)(sl:Array (Option Value)):Obj:=⟨.ref C,dd,.fields vs,sl⟩
section
variable{M:Model}{A₀:Around}{E:Value->Shared->Prop}{s:Shared}{base g:Heap}{outer:List Env}{L a e C:Addr}{m:Str->Option Value}{envv:Env}{Q:Unit->Shared->Prop}
 {news:List (Addr×Obj)} {nf:Addr->List (Addr×Obj)} {dd:Option Addr} {vs:Array Value} {sl:Array (Option Value)}
structure Noted2(A₀:Around)(base:Heap)(outer:List Env)(g:Heap)(L:Addr)(m:Str->Option Value)(news':List (Addr×Obj))(T:Addr)(oT:Obj)(g' h':Heap):Prop where
 turn:Hd (outer.filterMap (·.frame)) g g'
 below:H2 A₀ base outer g'
 fr:Fr g' L h' m
 news:News g' L h' ((T,oT)::news')
theorem rn(K:H2 A₀ base outer g){h h₄:Heap}(F:Fr g L h m)(N:News g L h news)(U:LQ e (eJ C dd vs sl) (eJ C dd (vs.setIfInBounds 1 (.ref T)) sl) news news'){oT:Obj}(hT:h₄.get? T=some oT)(hTn:h.get? T=none)
  (he:h₄.get? e=some (eJ C dd (vs.setIfInBounds 1 (.ref T)) sl))
  (k1:∀b o,b≠e->b∉L::outer.filterMap (·.frame)->h.get? b=some o->h₄.get? b=some o)
  (k2:∀b o,b≠e->h.get? b=some o->∃sl,h₄.get? b=some {o with slots:=sl}):
  ∃g',Noted2 A₀ base outer g L m news' T oT g' h₄:=by
 obtain⟨pre,post,rfl,rfl,u1,u2⟩:=U.split
 have hx:(e,eJ C dd vs sl)∈pre++(e,eJ C dd vs sl)::post:=by simp
 have neg:∀b o,g.get? b=some o->b≠e:=fun b o q z=>by have:=(N _ hx).2.2;rw[<-z,q] at this;cases this
 have nL:∀b o,g.get? b=some o->b≠L:=fun b o q z=>by rw[z,kts_self F] at q;cases q
 obtain⟨Tn,S⟩:=Lx (h:=h₄) (fs:=outer.filterMap (·.frame)) (g:=g)
  (fun b hb=>by obtain⟨_,o,ho,_⟩:=K.frames.mem hb;exact⟨o,ho⟩)
  (fun b o q nm=>k1 b o (neg b o q) (fun hm=>by rcases eq.mp hm with z|z;exact nL b o q z;exact nm z) (F.keep b o q))
  (fun b o q hm=>k2 b o (neg b o q) (F.keep b o q))
 have nfr:∀b,g.get? b=none->b≠L->b∉L::outer.filterMap (·.frame):=fun b q z hm=>by
  rcases eq.mp hm with z'|z'
  ·exact z z'
  ·obtain⟨_,o,ho,_⟩:=K.frames.mem z';rw[ho] at q;cases q
 have fresh:g.get? T=none:=by
  cases q:g.get? T with
  |none=>rfl
  |some o=>have:=F.keep _ _ q;rw[hTn] at this;cases this
 obtain⟨oL,es,ep,hL,hLd,hLk⟩:=F.ns
 have hLe:L≠e:=fun z=>(N _ hx).2.1 z.symm
 obtain⟨sL,hL'⟩:=k2 L oL hLe hL
 refine⟨_,⟨Tn,⟨K.stack,fun b o q=>Tn.other b o (K.stays b o q) (fun hm=>by rw[(K.frames.mem hm).1] at q;cases q),K.frames.of_keeps fun b o q ι=>by obtain⟨sl,hs⟩:=Tn.up q;exact⟨_,hs,rfl⟩⟩,
  ⟨⟨_,es,ep,hL',hLd,hLk⟩,S,by rw[Tn.size];exact F.above⟩,fun p hp=>?_⟩⟩
 rcases eq.mp hp with rfl|hp
 ·refine⟨hT,fun z=>?_,Tn.none_ _ fresh⟩
  have z':T=L:=z
  rw[z',hL] at hTn;cases hTn
 ·have stay:∀p,p∈pre++(e,eJ C dd vs sl)::post->p.1≠e->(h₄.get? p.1=some p.2/\p.1≠L/\(ktsHeap h₄ (outer.filterMap (·.frame)) g).get? p.1=none):=fun p hp ne=>
   ⟨k1 _ _ ne (nfr _ (N p hp).2.2 (N p hp).2.1) (N p hp).1,(N p hp).2.1,Tn.none_ _ (N p hp).2.2⟩
  rcases nl.mp hp with hp|hp
  ·exact stay p (r6 _ hp) (u1 p hp)
  ·rcases eq.mp hp with rfl|hp
   ·exact⟨he,(N _ hx).2.1,Tn.none_ _ (N _ hx).2.2⟩
   ·exact stay p (ev _ (Ha _ hp)) (u2 p hp)
theorem uD{A₁:Around}{h₀ g g' h':Heap}{env:Env}{L':Addr}{m':Str->Option Value}(B:H2 A₁ base outer h₀)(FG:Fr h₀ L g m)(hf:env.frame=some L)(T:Hd ((env::outer).filterMap (·.frame)) g g')(F':Fr g' L' h' m'):
  ∃h₀',Hd (outer.filterMap (·.frame)) h₀ h₀'/\H2 A₁ base outer h₀'/\Fr h₀' L h' m/\∀news,News g' L' h' news->News h₀' L h' news:=by
 have nL₀:h₀.get? L=none:=kts_self FG
 have fs:(env::outer).filterMap (·.frame)=L::outer.filterMap (·.frame):=by rw[IU,hf]
 obtain⟨oL,es,ep,hL,hLd,hLk⟩:=FG.ns
 obtain⟨sl,hs⟩:=T.up hL
 obtain⟨T₁,S₁⟩:=Lx (h:=h') (fs:=outer.filterMap (·.frame)) (g:=h₀)
  (fun b hb=>by obtain⟨_,o,ho',_⟩:=B.frames.mem hb;exact⟨o,ho'⟩)
  (fun b o e nmem=>F'.keep b o (T.other b o (FG.keep b o e) (fun q=>by
   rw[fs] at q
   rcases eq.mp q with z|z
   ·rw[z,nL₀] at e;cases e
   ·exact nmem z)))
  (fun b o e hm=>by obtain⟨sl',hs'⟩:=T.up (FG.keep b o e);exact⟨sl',F'.keep _ _ hs'⟩)
 refine⟨_,T₁,⟨B.stack,fun b o e=>T₁.other b o (B.stays b o e) (fun hm=>by rw[(B.frames.mem hm).1] at e;cases e),B.frames.of_keeps fun b o e ι=>by obtain⟨sl',hs'⟩:=T₁.up e;exact⟨_,hs',rfl⟩⟩,
  ⟨⟨_,es,ep,F'.keep _ _ hs,hLd,hLk⟩,S₁,by rw[T₁.size];exact FG.above⟩,fun news N p hp=>⟨(N p hp).1,fun q=>?_,?_⟩⟩
 ·have:=(N p hp).2.2;rw[q,hs] at this;cases this
 ·refine T₁.none_ _ ?_
  cases q:h₀.get? p.1 with
  |none=>rfl
  |some o=>
   obtain⟨sl',hs'⟩:=T.up (FG.keep _ _ q)
   have:=(N p hp).2.2
   rw[hs'] at this;cases this
end
noncomputable abbrev Led:=List (Addr×Obj)
inductive FnHere(h:Heap)(f:Addr)(fd:FuncData)(cdv:Value)(qual:Str):Prop
 |mk (oc:Value) (od:Option Addr) (osl:Array (Option Value)) (h1:h.get? f=some ⟨oc,od,.func fd,osl⟩) (h2:h.CodeRec cdv qual):FnHere h f fd cdv qual
noncomputable def Meets(prog:Program)(w:World)(K:Frag)(p:Program)(loose:List Str)(mean:H8->Option Value)(mg mb:Str->Option Value)(hdl:Option Value)(f:Addr)(vs:List Value)(mu:Led)(dN uN:Nat)
  (P:Value->Led->Prop) (X:Addr->Led->Prop):Prop:=
 ∀(A:Around) (env:Env) (outer:List Env) (base g:Heap) (s:Shared) (R:Hp->Shared->Prop),A.handled=hdl->A.depth+dN<recursionLimit->A.units+uN<cLine->A.frames=some (env::outer)->env.scope.kind= .function->
  H2 A base (env::outer) g->K.In base->Lh p loose mean mg mb base->(∀b o,g.get? b=some o->s.heap.get? b=some o)->g.objs.size<=s.heap.objs.size->(∀q∈mu,s.heap.get? q.1=some q.2/\g.get? q.1=none)->
  (∀r new h' tk' g' L' m',Hd ((env::outer).filterMap (·.frame)) g g'->Fr g' L' h' m'->News g' L' h' new->P r new->R (.ok (.ret r)) {s with heap:=h',toks:=tk'})->
  (∀e new h' tk' g' L' m',Hd ((env::outer).filterMap (·.frame)) g g'->Fr g' L' h' m'->News g' L' h' new->X e new->R (.error (.ref e)) {s with heap:=h',toks:=tk'})->
  Hj (model prog w) A (.call (.ref f) ⟨vs,[]⟩) R s
noncomputable abbrev Eo(hdl:Option Value)(dp un:Nat)(gd:Option (List Code))(env:Env)(outer:List Env):Around:={handled:=hdl,depth:=dp,frames:=some (env::outer),guards:=gd,units:=un}
structure Outs(env:Env)(outer:List Env)(g:Heap)(s:Shared)(P:Value->Led->Prop)(X:Addr->Led->Prop)(R:Hp->Shared->Prop):Prop where
 ok:∀r new h' tk' g' L' m',Hd ((env::outer).filterMap (·.frame)) g g'->Fr g' L' h' m'->News g' L' h' new->P r new->R (.ok (.ret r)) {s with heap:=h',toks:=tk'}
 err:∀e new h' tk' g' L' m',Hd ((env::outer).filterMap (·.frame)) g g'->Fr g' L' h' m'->News g' L' h' new->X e new->R (.error (.ref e)) {s with heap:=h',toks:=tk'}
section
variable{prog:Program}{w:World}{K:Frag}{p:Program}{loose:List Str}{mean:H8->Option Value}{mg mb:Str->Option Value}{hdl:Option Value}{f:Addr}{vs:List Value}{mu:Led}{dN uN:Nat}{P:Value->Led->Prop}{X:Addr->Led->Prop}
 {name qual:Str} {params:Arguments} {body:List Stmt} {scope:Scope} {dV kV doc pm cdv ct oc:Value} {an od:Option Addr} {osl:Array (Option Value)} {binds:List (Str×Value)}
theorem pB(hof:∀s:Shared,K.In s.heap->(∀q∈mu,s.heap.get? q.1=some q.2)->FnHere s.heap f (fnOf name qual params body scope dV kV doc pm an cdv ct) cdv qual)
  (hbind:∀s:Shared,K.In s.heap->Lv s (fnOf name qual params body scope dV kV doc pm an cdv ct) ⟨vs,[]⟩ binds) (hkind:(binds.all fun y=>scope.names.lookup y.1==some .local||scope.names.lookup y.1==some .cell)=true)
  (hnd:((cellsFrom 0 scope.names []).map (·.1)).Nodup)
  (h:∀(dp un:Nat) (gd:Option (List Code)) (env:Env) (outer:List Env) (base g:Heap) (s:Shared) (R:Hp->Shared->Prop) (L':Addr) (h₁:Heap) (tk:Nat) (cells:Led),dp+dN<recursionLimit->un+uN<cLine->
   H2 (Eo hdl dp un gd env outer) base (env::outer) g->K.In base->Lh p loose mean mg mb base->K.In g->Lh p loose mean mg mb g->Fr g L' h₁ (bindL (envOfC qual scope L' f cdv).kindOf binds fun ι=>none)->News g L' h₁ (cells++mu)->
   Jy (bindC (envOfC qual scope L' f cdv).kindOf binds fun ι=>none) (cellsFrom (L'+1) scope.names []) cells->Outs env outer g s P X R->(∀p∈mu,p.1<L')->
   fm (model prog w) ((Eo hdl dp un gd env outer).deeper (envOfC qual scope L' f cdv)) (execs body (envOfC qual scope L' f cdv))
    (fun fl s'=>R (.ok (.ret (match fl with| .ret v=>v|_=> .none))) s')
    (fun e s'=>fm (model prog w) ((Eo hdl dp un gd env outer).deeper (envOfC qual scope L' f cdv)) (leaving (envOfC qual scope L' f cdv) e) (fun ι s''=>R (.error e) s'') (fun e' s''=>R (.error e') s'') s')
    {s with heap:=h₁,toks:=tk})
  (hco:scope.isCoroutine=false) (hgen:scope.isGenerator=false) (hk:scope.kind= .function):
  Meets prog w K p loose mean mg mb hdl f vs mu dN uN P X:=by
 intro A env outer base g s R hh hd hu hA hke B XB TB k hz N hok herr
 obtain⟨hd',dp,fr',gd,un⟩:=A
 dsimp only at hh hd hu hA
 subst hh hA
 have Xg:=XB.keeps B.stays
 have Tg:=TB.keeps B.stays
 have Xs:K.In s.heap:=Xg.keeps k
 obtain⟨oc,od,osl,ho,hcd⟩:=hof s Xs fun q hq=>(N q hq).1
 refine JZ (show dp<recursionLimit by omega) ho rfl hco hgen rfl hcd (hbind s Xs _ _ _ _ ?_)
 refine Jp hk (kindsX hkind _) fun env' he s' x=>?_
 subst he
 refine⟨(Tg.nolimit.keeps k).keeps x.toInCall.keep,Ln ?_⟩
 obtain⟨h₁,tk,rfl,_⟩:=x.done
 have hk₁:=x.toInCall.keep
 obtain⟨cells,NC,Y⟩:=Cl.news (h₀:=s.heap) (wh _) fun n c hm=>⟨x.cell n c (Kp (Jj scope.names 0 (s.heap.objs.size+1) [] [] rfl▸hnd) hm),x.above n c hm⟩
 refine h dp un gd env outer base g s R s.heap.objs.size h₁ tk cells hd hu B XB TB Xg Tg ⟨x.toInCall.ns,fun b o e=>hk₁ b o (k b o e),hz⟩ (fun q hq=>?_) Y ⟨hok,herr⟩ fun q hq=>r7 (N q hq).1
 rcases nl.mp hq with hq|hq
 ·refine⟨(NC q hq).1,(NC q hq).2.1,?_⟩
  cases z:g.get? q.1 with
  |none=>rfl
  |some o=>have:=k _ _ z;rw[(NC q hq).2.2] at this;cases this
 ·exact⟨hk₁ _ _ (N q hq).1,Hg (r7 (N q hq).1),(N q hq).2⟩
inductive Apart(p:Addr×Obj):Led->Prop
 |nil:Apart p []
 |ne {q r}:p.1≠q.1->Apart p r->Apart p (q::r)
inductive Part(mu:Led):Led->Led->Prop
 |nil:Part mu [] []
 |drop {p r r'}:Part mu r r'->Part mu (p::r) r'
 |keep {p r r'}:Apart p mu->Part mu r r'->Part mu (p::r) (p::r')
theorem Apart.ne_of{p:Addr×Obj}{mu:Led}(x:Apart p mu):∀q∈mu,p.1≠q.1:=by
 induction x with
 |nil=>exact fun q h=>nomatch h
 |ne n r ih=>
  intro q hq
  rcases eq.mp hq with h|h
  ·rw[h];exact n
  ·exact ih q h
theorem Part.sub{mu news rest:Led}(x:Part mu news rest):∀p∈rest,p∈news/\Apart p mu:=by
 induction x with
 |nil=>exact fun q h=>nomatch h
 |drop r ih=>exact fun p hp=>⟨Ha _ (ih p hp).1,(ih p hp).2⟩
 |keep n r ih=>
  intro p hp
  rcases eq.mp hp with h|h
  ·rw[h];exact⟨.head _,n⟩
  ·exact⟨Ha _ (ih p h).1,(ih p h).2⟩
theorem Dk{A₀ A:Around}{env:Env}{outer:List Env}{base h₀:Heap}{s:Shared}{L:Addr}{m:Str->Option Value}{news rest:Led}{R:Hp->Shared->Prop}
  (C:Meets prog w K p loose mean mg mb hdl f vs mu dN uN P X) (B:H2 A₀ base outer h₀) (XB:K.In base) (TB:Lh p loose mean mg mb base) (F:Fr h₀ L s.heap m) (N:News h₀ L s.heap news)
  (hA:A.frames=some (env::outer)) (hf:env.frame=some L) (hke:env.scope.kind= .function) (hh:A.handled=hdl) (hd:A.depth+dN<recursionLimit) (hu:A.units+uN<cLine)
  (hmu:∀q∈mu,q∈news) (hpart:∀q∈rest,q∈news/\∀z∈mu,q.1≠z.1)
  (hok:∀r new h' tk' h₀',Hd (outer.filterMap (·.frame)) h₀ h₀'->H2 A₀ base outer h₀'->Fr h₀' L h' m->News h₀' L h' (new++rest)->(∀q∈rest,q.1∉new.map (·.1))->P r new->R (.ok (.ret r)) {s with heap:=h',toks:=tk'})
  (herr:∀e new h' tk' h₀',Hd (outer.filterMap (·.frame)) h₀ h₀'->H2 A₀ base outer h₀'->Fr h₀' L h' m->News h₀' L h' (new++rest)->(∀q∈rest,q.1∉new.map (·.1))->X e new->R (.error (.ref e)) {s with heap:=h',toks:=tk'}):
  Hj (model prog w) A (.call (.ref f) ⟨vs,[]⟩) R s:=by
 have Npre:News h₀ L s.heap mu:=fun q hq=>N q (hmu q hq)
 obtain⟨FG,BG,st,-⟩:=groundX (R:=R) B F Npre hA hf hke
 have kept:∀g' h' L' m',Hd ((env::outer).filterMap (·.frame)) (hideAll s.heap (mu.map (·.1))) g'->Fr g' L' h' m'->∀q∈rest,g'.get? q.1=some q.2:=by
  intro g' h' L' m' T F' q hq
  obtain⟨hqn,ha⟩:=hpart q hq
  have Nq:=N q hqn
  have hn:q.1∉mu.map (·.1):=fun z=>by
   obtain⟨q',hq',e⟩:=re.mp z
   exact ha q' hq' e.symm
  refine T.other _ _ (IM _ Nq.1 hn) fun z=>?_
  rw[IU,hf] at z
  rcases eq.mp z with z|z
  ·exact Nq.2.1 z
  ·obtain⟨_,o,ho,_⟩:=B.frames.mem z
   have:=Nq.2.2
   rw[ho] at this;cases this
 have back:∀h' g' L' m' (new:Led),Hd ((env::outer).filterMap (·.frame)) (hideAll s.heap (mu.map (·.1))) g'->Fr g' L' h' m'->News g' L' h' new->
   ∃h₀',Hd (outer.filterMap (·.frame)) h₀ h₀'/\H2 A₀ base outer h₀'/\Fr h₀' L h' m/\News h₀' L h' (new++rest)/\∀q∈rest,q.1∉new.map (·.1):=by
  intro h' g' L' m' new T F' Nn
  obtain⟨h₀',T₀,B₀,F₀,cv⟩:=uD B FG hf T F'
  refine⟨h₀',T₀,B₀,F₀,fun q hq=>?_,fun q hq z=>?_⟩
  ·rcases nl.mp hq with hq|hq
   ·exact cv _ Nn q hq
   ·obtain⟨hqn,ha⟩:=hpart q hq
    have Nq:=N q hqn
    exact⟨F'.keep _ _ (kept _ _ _ _ T F' q hq),Nq.2.1,T₀.none_ _ Nq.2.2⟩
  ·obtain⟨q',hq',e⟩:=re.mp z
   have h1:=(Nn q' hq').2.2
   have h2:=kept _ _ _ _ T F' q hq
   rw[e,h2] at h1
   cases h1
 refine C A env outer base _ s R hh hd hu hA hke BG XB TB (fun b o e=>I4 _ e) (HZ (Lm _ _)) (fun q hq=>⟨(Npre q hq).1,I7 _ (nw hq)⟩) ?_ ?_
 ·intro r new h' tk' g' L' m' T F' Nn hP
  obtain⟨h₀',a1,a2,a5,a6,a7⟩:=back h' g' L' m' new T F' Nn
  exact hok r new h' tk' h₀' a1 a2 a5 a6 a7 hP
 ·intro e new h' tk' g' L' m' T F' Nn hX
  obtain⟨h₀',a1,a2,a5,a6,a7⟩:=back h' g' L' m' new T F' Nn
  exact herr e new h' tk' h₀' a1 a2 a5 a6 a7 hX
end
noncomputable abbrev et(ts:Array Value):Obj:=⟨.type "traceback",none,.fields ts,#[]⟩
section
variable{M:Model}{A A₀:Around}{E:Value->Shared->Prop}{s:Shared}{base g:Heap}{outer:List Env}{L e C T:Addr}{m:Str->Option Value}{envv:Env}{Q:Unit->Shared->Prop}
 {news rest:Led} {dd:Option Addr} {a0 a1 a2 a3 a4 a5:Value} {sl:Array (Option Value)} {ts:Array Value}
theorem fC{mu:Led}{h:Heap}(N:News g L h news)(hm:∀q∈mu,q∈news)(hp:Part mu news rest):∀p∈rest,p∈news/\∀q∈mu,p.1≠q.1:=fun p hpr=>by
 obtain⟨hn,ha⟩:=hp.sub p hpr
 exact⟨hn,fun q hq=>ha.ne_of q hq⟩
theorem eb{fl:Option Addr}(F:Fr g L s.heap m)(N:News g L s.heap ((T,et ts)::(e,eJ C dd #[a0,.ref T,a2,a3,a4,a5] sl)::rest))(h3:3<ts.size)(ne:T≠e)(hr:∀p∈rest,p.1≠T)
  (h:∀h' ts',Fr g L h' m->News g L h' ((T,et ts')::(e,eJ C dd #[a0,.ref T,a2,a3,a4,a5] sl)::rest)->3<ts'.size->(fl=none->ts'[3]?=some .none)->Q () {s with heap:=h'}):
  fm M A (setFlight (.ref e) fl) Q E s:=by
 have he:=(N _ (.tail _ (.head _))).1
 have hT:=(N _ (.head _)).1
 obtain⟨F',N'⟩:=IK (pre:= []) (f:=Hy (·.setIfInBounds 3 (fl.elim zn fun f=>rawInt f))) (o':=et (ts.setIfInBounds 3 (fl.elim zn fun f=>rawInt f))) F N (by simp)
  (fun p hp=>by
   rcases eq.mp hp with rfl|hp
   ·exact Jo ne
   ·exact hr p hp) rfl rfl
 unfold setFlight
 refine ca (HI he rfl (x:= .ref T) rfl ?_)
 rw[if_pos (show(pf T !=zn)=true from by simp)]
 refine HY hT rfl h3 (h _ _ F' N' (by simpa using h3) fun q=>?_)
 subst q
 simp[h3]
theorem kS{head:Value}{hadNext:Bool}(K:H2 A₀ base outer g)(F:Fr g L s.heap m)(N:News g L s.heap ((e,eJ C dd #[a0,a1,a2,a3,a4,a5] sl)::rest))(hf:envv.frame=some L)(hk:envv.scope.kind= .function)(hr:∀p∈rest,p.1≠e)
  (h:∀h' T ts g',Hd (outer.filterMap (·.frame)) g g'->H2 A₀ base outer g'->Fr g' L h' m->News g' L h' ((T,et ts)::(e,eJ C dd #[a0,.ref T,a2,a3,a4,a5] sl)::rest)->3<ts.size->T≠e->(∀p∈rest,p.1≠T)->Q () {s with heap:=h'}):
  fm M (A₀.deeper envv) (do let a'<-frameOf envv;let pl<-entryPlaceOf L hadNext;let b<-Kr head a' .none (rawInt L) .none pl;setField (.ref e) 1 b) Q E s:=by
 have K':=pushX K F hf hk
 have hx:=List.mem_cons_self (a:=(e,eJ C dd #[a0,a1,a2,a3,a4,a5] sl)) (l:=rest)
 refine ca (wpAny_frameOf_fun (Kn K.stack) K'.frames hf fun h₁ hs₁=>?_)
 refine ca (wpAny_entryPlaceOf fun pl hpl=>?_)
 unfold Kr newFields
 refine ca (I6 ?_ (hpl.sizeOk5 _ _ _ _ _))
 have hLe:e∉L::outer.filterMap (·.frame):=fun hm=>by
  rcases eq.mp hm with z|z
  ·exact(N _ hx).2.1 z
  ·obtain⟨_,o,ho,_⟩:=K.frames.mem z
   have:=(N _ hx).2.2
   rw[ho] at this;cases this
 have fse:(envv::outer).filterMap (·.frame)=L::outer.filterMap (·.frame):=by rw[IU,hf]
 rw[fse] at hs₁
 have he₁:h₁.get? e=some (eJ C dd #[a0,a1,a2,a3,a4,a5] sl):=(hs₁.2.1 e hLe).trans (N _ hx).1
 have l₁:∀p∈(e,eJ C dd #[a0,a1,a2,a3,a4,a5] sl)::rest,p.1<h₁.objs.size:=fun p hp=>by rw[hs₁.1];exact r7 (N p hp).1
 have lT:h₁.objs.size≠e:=Ig (r7 he₁)
 have he₂:=FB (h:=h₁) {cls:= .type "traceback",dict:=none,data:= .fields ([head,.ref L,.none,rawInt L,.none]++(if pl.isEmpty then Hr 6 zn else pl)).toArray} he₁
 refine HY (s:={s with heap:=_}) he₂ rfl (show 1<6 by decide) ?_
 have he₃:=Heap.get?_update_self (Hy (·.setIfInBounds 1 (pf h₁.objs.size))) he₂ rfl
 have hT₃:=(JW (h₁.push {cls:= .type "traceback",dict:=none,data:= .fields ([head,.ref L,.none,rawInt L,.none]++(if pl.isEmpty then Hr 6 zn else pl)).toArray})
  (Hy (·.setIfInBounds 1 (pf h₁.objs.size))) (Jo lT)).trans (Ia h₁ rfl)
 have keep:∀b o,b≠e->h₁.get? b=some o->
   ((h₁.push {cls:= .type "traceback",dict:=none,data:= .fields ([head,.ref L,.none,rawInt L,.none]++(if pl.isEmpty then Hr 6 zn else pl)).toArray}).update e (Hy (·.setIfInBounds 1 (pf h₁.objs.size)))).get? b=some o:=fun b o hbe hb=>by
  rw[JW _ _ (Jo hbe)]
  exact FB _ hb
 obtain⟨g',hN⟩:=rn (T:=h₁.objs.size) (oT:={cls:= .type "traceback",dict:=none,data:= .fields ([head,.ref L,.none,rawInt L,.none]++(if pl.isEmpty then Hr 6 zn else pl)).toArray})
  (news':=(e,eJ C dd (#[a0,a1,a2,a3,a4,a5].setIfInBounds 1 (.ref h₁.objs.size)) sl)::rest) K F N (.head hr) hT₃
  (Kl (HZ hs₁.1.symm)) he₃
  (fun b o hbe hbn hb=>keep b o hbe ((hs₁.2.1 b hbn).trans hb)) (fun b o hbe hb=>by
   obtain⟨sl,hs⟩:=hs₁.2.2 b o hb
   exact⟨sl,keep b _ hbe hs⟩)
 exact h _ _ _ _ hN.turn hN.below hN.fr hN.news (by simp only[pr,Hv,Hb,Hx]<;>omega) lT fun p hp=>Hg (l₁ p (Ha _ hp))
theorem gn(K:H2 A₀ base outer g)(F:Fr g L s.heap m)(N:News g L s.heap news){tl:Led}(hx:(e,eJ C dd #[a0,a1,a2,a3,a4,a5] sl)∈news)
  (h1:(a1= .none/\tl= [])\/∃T₀ ts₀,a1= .ref T₀/\tl= [(T₀,et ts₀)]/\(T₀,et ts₀)∈news/\3<ts₀.size)
  (hp:Part ((e,eJ C dd #[a0,a1,a2,a3,a4,a5] sl)::tl) news rest)
  (h:∀h' T ts g',Hd (outer.filterMap (·.frame)) g g'->H2 A₀ base outer g'->Fr g' L h' m->News g' L h' ((T,et ts)::(e,eJ C dd #[a0,.ref T,a2,a3,a4,a5] sl)::rest)->3<ts.size->T≠e->(∀p∈rest,p.1≠T)->Q () {s with heap:=h'})
  (hf:envv.frame=some L:=by rfl) (hk:envv.scope.kind= .function:=by rfl):
  fm M (A₀.deeper envv) (noteFrame (.ref e) envv) Q E s:=by
 have he:=(N _ hx).1
 unfold noteFrame
 simp only[hf]
 rcases h1 with⟨rfl,rfl⟩|⟨T₀,ts₀,rfl,rfl,hT,h3⟩
 ·have ne:=fC N (fun q hq=>by rcases o0.mp hq with rfl;exact hx) hp
  refine ca (HI he rfl (x:= .none) rfl ?_)
  rw[if_neg (by decide)]
  refine kS (a1:= .none) K F (fun p hp'=>?_) hf hk (fun p hp'=>(ne p hp').2 _ (.head _)) h
  rcases eq.mp hp' with rfl|hp'
  ·exact N _ hx
  ·exact N _ (ne p hp').1
 ·have ne:=fC N (fun q hq=>by
   rcases eq.mp hq with rfl|hq
   ·exact hx
   ·rcases o0.mp hq with rfl;exact hT) hp
  have hT₀:=(N _ hT).1
  have ne0:T₀≠e:=fun z=>by
   have h2:=hT₀
   have h3:=he
   subst z
   rw[h3] at h2
   have h5:eJ C dd #[a0,.ref T₀,a2,a3,a4,a5] sl=et ts₀:=bd h2
   have:=congrArg Lq h5
   cases this
  have N₁:News g L s.heap ((T₀,et ts₀)::(e,eJ C dd #[a0,.ref T₀,a2,a3,a4,a5] sl)::rest):=fun p hp'=>by
   rcases eq.mp hp' with rfl|hp'
   ·exact N _ hT
   ·rcases eq.mp hp' with rfl|hp'
    ·exact N _ hx
    ·exact N _ (ne p hp').1
  refine ca (HI he rfl (x:= .ref T₀) rfl ?_)
  rw[if_pos (show(pf T₀ !=zn)=true from by simp)]
  refine ca (HI hT₀ rfl (x:=ts₀[3]) (Array.getElem?_eq_getElem h3) ?_)
  by_cases hfl:(ts₀[3]==rawInt L)=true
  ·rw[if_pos hfl]
   exact oj (h _ T₀ ts₀ g .refl K F N₁ h3 ne0 fun p hp'=>(ne p hp').2 (T₀,et ts₀) (.tail _ (.head _)))
  ·rw[if_neg hfl]
   refine ca (HY hT₀ rfl h3 ?_)
   obtain⟨F',N'⟩:=IK (pre:= []) (f:=Hy (·.setIfInBounds 3 zn)) (o':=et (ts₀.setIfInBounds 3 zn)) F N₁ (by simp)
    (fun p hp=>by
     rcases eq.mp hp with rfl|hp
     ·exact Jo ne0
     ·exact(ne p hp).2 (T₀,et ts₀) (.tail _ (.head _))) rfl rfl
   exact kS (a1:= .ref T₀) (s:={s with heap:=_}) K F' (fun p hp'=>N' p (Ha _ hp')) hf hk (fun p hp'=>(ne p hp').2 _ (.head _)) h
end
section
variable{prog:Program}{w:World}{A:Around}{E:Value->Shared->Prop}{s:Shared}{K:Frag}{e C t L:Addr}{g:Heap}{m:Str->Option Value}{news:Led}
theorem rU{dd:Option Addr}(hh:A.handled=none)(X₀:K.In g)(F:Fr g L s.heap m)(N:News g L s.heap news)(hx:(e,(⟨.ref C,dd,.fields #[.ref t,.none,.none,.none,.bool false,.none],#[]⟩:Obj))∈news)(hm:cI K C=true)(hE:E (.ref e) s):RaiseV A K E (.ref e) s:=
 ⟨hh,e,C,t,dd,rfl,X₀.keeps F.keep,hm,(N _ hx).1,hE⟩
end
section
variable{prog:Program}{w:World}{A₀ A:Around}{E:Value->Shared->Prop}{s:Shared}{base g:Heap}{outer:List Env}{L a e C C':Addr}{m:Str->Option Value}{name:Str}{scope:Scope}{cd:Value}
 {news rest:Led} {dd:Option Addr} {a0 a1 a2 a3 a4 a5:Value} {sl:Array (Option Value)} {KF:Frag} {p:Program} {loose:List Str} {mean:H8->Option Value} {mg mb:Str->Option Value} {x n:Str} {b₀:Stmt} {suite:List Stmt} {pos np:Pos} {hrest:List ExceptHandler}
theorem n9{M:Model}{oe:Obj}{b:Bool}{Q:Bool->Shared->Prop}(X:KF.In s.heap)(hm:cI KF C=true)(hm':cI KF C'=true)(he:s.heap.get? e=some oe)(hcls:oe.cls= .ref C)(hb:mroIn KF C (.ref C')=some b)(hq:Q b s):
  fm M A (excMatches (.ref e) (.ref C')) Q E s:=by
 obtain⟨nm,q,Nn,bs,bm,hdct,sn,sub,ab,col,dd,k0,k1,k2,k3,k5,hC,c1,c2,c3,c4⟩:=eI X hm'
 obtain⟨hh,g,d,tk,os⟩:=s
 have L1:IX M hh (isSubtype (.ref C) (.ref C')) b:=Jg X hb
 have f:=tc_notTuple
 unfold excMatches
 repeat (first|(with_reducible refine wS he ?_;rw[hcls])|with_reducible refine wS hC ?_|(with_reducible refine Hi hC ?_;rw[c2])|(with_reducible refine L1.here ?_)|wp_step)
 cases b<;>(wp_walk;exact hq)
end
end Mine
end
section
open PySem PySem.W PySem.Spec PySem.Calls PyProof.Rows
open PySem.Builtin PySem.Builtin.ObjectAttr
open Sem (wp)
namespace Mine
theorem nk:builtinKind "BaseException.__getattribute__"=some .slot:=by kernel_rfl
theorem kn:splitId "BaseException.__getattribute__"=some ("BaseException","__getattribute__"):=by kernel_rfl
section
variable{prog:Program}{w:World}{A:Around}{E:Value->Shared->Prop}{s:Shared}{K:Frag}{x C dx L:Addr}{h₀:Heap}{m:Str->Option Value}{news:Led}{es:List DictEntry}{n:Nat}{name:Str}{v:Value}{vs:Array Value}{sl:Array (Option Value)}
theorem yD{expr:Bool}{Q:Value->Shared->Prop}(F:Fr h₀ L s.heap m)(X₀:K.In h₀)(N:News h₀ L s.heap news)(hx:(x,(⟨.ref C,some dx,.fields vs,sl⟩:Obj))∈news)(hd:(dx,dictOf es n)∈news)
  (hga:findIn K (.ref C) "__getattribute__"=some (some (.builtin "BaseException.__getattribute__"))) (hno:findIn K (.ref C) "__getattr__"=some none) (hh:hasDictIn K C=true) (ha:findIn K (.ref C) name=some none)
  (hm:mroIn K C (.type "BaseException")=some true) (hl:getL name es=some (some v)) (hv:handedIn v=true) (h:Q v {s with toks:=s.toks+1}):
  fm (model prog w) A (getAttr (.ref x) name expr) Q E s:=by
 have X:=X₀.keeps F.keep
 have I:=InstAt.of_newsF N hx hd
 have hf:findObj K C (some (dictOf es n)) name=some (.value v):=findObj_own hh ha rfl hl
 have FX:=JP
 obtain⟨hh',g,d,t,os⟩:=s
 have L0:=I.type (M:=model prog w)
 have L1:=Ic (M:=model prog w) X hga
 have L2:=Ic (M:=model prog w) X hno
 have L3:=LD (M:=model prog w) X I hf
 have sub:IX (model prog w) hh' (isInstance (.ref x) (.type "BaseException")) true:=I.type.andThen (Jg X hm)
 unfold getAttr getAttrBy
 refine ca (JO (H6 (ca (L0.at (ca (L1.at ?_))))))
 show fm _ _ (getAttrByItsOwn _ _ _ _ _ _) _ _ _
 unfold getAttrByItsOwn
 refine ca (L2.at ?_)
 have hx0:(expr&&onTheHeap (IV "BaseException.__getattribute__"))=false:=by cases expr<;>rfl
 unfold callGetattribute boundAndCalled
 rw[hx0,FX.ga.bind (.ref x)]
 refine ca (JD (H6 (ca (oj (HS (H9 FX.ga.plain J8
  (@Ky (model prog w) _ _ _ "BaseException.__getattribute__" "BaseException" "__getattribute__" (.ref x) [.str name t] [] _ nk kn sub (Kf _ _) ?_)))))))
 show fm _ _ (Builtin.«object.__getattribute__» ⟨[.ref x,.str name t],[]⟩) _ _ _
 unfold Builtin.«object.__getattribute__»
 refine ca (oj (a:=(pf x,[HL name t])) (ca (oj (a:=name) (ca (L0.at (ca (L3.at ?_)))))))
 refine oj ?_
 show fm _ _ (handedOut v) _ _ _
 rw[handedOut_of hv]
 exact oj h
end
end Mine
end
section
open PySem PySem.W PySem.Spec PySem.Calls PyProof.Rows
open Sem (wp)
namespace Mine
section
variable{prog:Program}{w:World}{A:Around}{E:Value->Shared->Prop}{s:Shared}{K:Frag}{C L:Addr}{h₀:Heap}{m:Str->Option Value}{news rest:Led}
inductive RaiseA(A:Around)(K:Frag)(E:Value->Shared->Prop)(v:Value)(s:Shared):Prop
 |mk (e C:Addr) (dd:Option Addr) (a0:Value) (T:Addr) (a2 a3 a4 a5:Value) (sl:_) (ts:Array Value) (h₀:Heap) (L:Addr) (m:Str->Option Value) (rest:List (Addr×Obj)) (hv:v= .ref e) (hh:A.handled=some (.ref e)) (X:K.In s.heap) (hm:cI K C=true) (F:Fr h₀ L s.heap m) (N:News h₀ L s.heap ((T,et ts)::(e,eJ C dd #[a0,.ref T,a2,a3,a4,a5] sl)::rest)) (h3:3<ts.size) (ne:T≠e) (hr:∀p∈rest,p.1≠T)
  (k:∀h' ts',Fr h₀ L h' m->News h₀ L h' ((T,et ts')::(e,eJ C dd #[a0,.ref T,a2,a3,a4,a5] sl)::rest)->3<ts'.size->E (.ref e) {s with heap:=h'}):RaiseA A K E v s
theorem jo{α:Type}{M:Model}{e:Value}{Q:α->Shared->Prop}(hh:A.handled=some e)(h:E e s):fm M A (raiseNew e:Jv α) Q E s:=by
 unfold raiseNew
 refine ca (wpAny_handled ?_)
 rw[hh]
 cases e<;>first|(dsimp only;rw[if_neg (by simp)];first|exact II h|exact ca (oj (II h)))|exact II h|exact ca (oj (II h))
theorem nC{env:Env}{x:Expr}{pos:Pos}{Q:Flow->Shared->Prop}{g₀:Heap}(_:K.In g₀)(h:fm (model prog w) A (eval x env) (fun v s₁=>RaiseA A K E v s₁) E s):
  fm (model prog w) A (exec (.Raise (some x) none pos) env) Q E s:=by
 rw[K5]
 refine ca (Ir ?_)
 unfold raiseStmt
 simp only[show evalOpt (some x) env=some (eval x env) from rfl,show evalOpt none env=none from rfl,LG]
 refine ca (ca (I0 h (fun v s₁ h₁=>ca (Ir (oj ?_))) fun ι ι x=>x))
 obtain⟨e,C,dd,a0,T,a2,a3,a4,a5,sl,ts,h₀,L,m,rest,rfl,hh,X,hm,F,N,h3,ne,hr,hE⟩:=h₁
 have he:=(N _ (.tail _ (.head _))).1
 obtain⟨nm,q,Nn,bs,bm,hdct,sn,sub,ab,col,dd',k0,k1,k2,k3,k5,hC,c1,c2,c3,c4⟩:=eI X hm
 have fl:fm (model prog w) A (setFlight (.ref e) none>>=fun ι=>raiseNew (.ref e):Jv Flow) Q E s₁:=
  ca (eb F N h3 ne hr fun h' ts' F' N' l' ι=>jo hh (hE h' ts' F' N' l'))
 obtain⟨hp,g,d,tk,os⟩:=s₁
 repeat (first|exact fl|with_reducible refine wS he ?_|with_reducible refine wS hC ?_|(with_reducible refine Hi hC ?_;rw[c2])|wp_step)
theorem rV{e dd a0 T a2 a3 a4 a5 sl ts}{g:Heap}(hh:A.handled=some (.ref e))(X₀:K.In g)(F:Fr g L s.heap m)(N:News g L s.heap news)(he:(e,eJ C dd #[a0,.ref T,a2,a3,a4,a5] sl)∈news)(hT:(T,et ts)∈news)(h3:3<ts.size)
  (hp:Part [(e,eJ C dd #[a0,.ref T,a2,a3,a4,a5] sl),(T,et ts)] news rest) (hm:cI K C=true)
  (k:∀h' ts',Fr g L h' m->News g L h' ((T,et ts')::(e,eJ C dd #[a0,.ref T,a2,a3,a4,a5] sl)::rest)->3<ts'.size->E (.ref e) {s with heap:=h'}):RaiseA A K E (.ref e) s:=by
 have pp:=fC N (fun q hq=>by
  rcases eq.mp hq with rfl|hq
  ·exact he
  ·rcases o0.mp hq with rfl;exact hT) hp
 have ne:T≠e:=fun z=>by
  have h1:=(N _ he).1
  have h2:=(N _ hT).1
  subst z
  rw[h1] at h2
  have:=congrArg Lq (bd h2)
  cases this
 exact⟨e,C,dd,a0,T,a2,a3,a4,a5,sl,ts,g,L,m,rest,rfl,hh,X₀.keeps F.keep,hm,F,fun p hp'=>by
  rcases eq.mp hp' with rfl|hp'
  ·exact N _ hT
  ·rcases eq.mp hp' with rfl|hp'
   ·exact N _ he
   ·exact N _ (pp p hp').1,h3,ne,fun p hp'=>(pp p hp').2 (T,et ts) (.tail _ (.head _)),k⟩
end
end Mine
end
section
open PySem PySem.W PySem.Spec PySem.Calls PyProof.Rows
open PySem.Builtin PySem.Builtin.ObjectAttr
open Sem (wp)
namespace Mine
section
variable{prog:Program}{w:World}{A:Around}{E:Value->Shared->Prop}{s:Shared}{K:Frag}{x C D dx L:Addr}{ox od:Obj}
noncomputable def lp(K:Frag)(D C:Addr):Bool:=findIn K (.ref D) "__getattribute__"==some (some (.builtin "BaseException.__getattribute__"))&&findIn K (.ref D) "__getattr__"==some none&&hasDictIn K D&&findIn K (.ref D) "__class__"==some (some (.builtin "object.__class__"))
 &&specialIn K (.builtin "object.__class__") "__get__"==some (some (.builtin "getset_descriptor.__get__"))&&takesIn K (.builtin "object.__class__")==some true&&mroIn K D (.type "object")==some true&&mroIn K D (.type "BaseException")==some true&&kin_not K D C
theorem sH{Q:Option Value->Shared->Prop}(X:K.In s.heap)(I:InstAt s.heap x ox D (some od))(hga:findIn K (.ref D) "__getattribute__"=some (some (.builtin "BaseException.__getattribute__")))(hno:findIn K (.ref D) "__getattr__"=some none)
  (hdct:hasDictIn K D=true) (ha:findIn K (.ref D) "__class__"=some (some (.builtin "object.__class__")))
  (hn:specialIn K (.builtin "object.__class__") "__get__"=some (some (.builtin "getset_descriptor.__get__"))) (htk:takesIn K (.builtin "object.__class__")=some true) (hm:mroIn K D (.type "object")=some true) (hmB:mroIn K D (.type "BaseException")=some true)
  (h:Q (some (.ref D)) {s with toks:=s.toks+1}):fm (model prog w) A (getAttr? (.ref x) "__class__") Q E s:=by
 have hf:findObj K D (some od) "__class__"=some (.bind (.builtin "getset_descriptor.__get__") (.builtin "object.__class__")):=findObj_data (by obtain⟨cd,hc,_⟩:=Jt hdct;rw[hc];rfl) ha hn htk
 have FX:=JP
 obtain⟨hh',g,d,t,os⟩:=s
 have L0:=I.type (M:=model prog w)
 have L1:=Ic (M:=model prog w) X hga
 have L2:=Ic (M:=model prog w) X hno
 have L3:=LD (M:=model prog w) X I hf
 have sub:IX (model prog w) hh' (isInstance (.ref x) (.type "BaseException")) true:=I.type.andThen (Jg X hmB)
 unfold getAttr? getAttrBy? getAttrBy
 refine ca (JO (ca (JD (H6 (ca (L0.at (ca (L1.at ?_))))))))
 show fm _ _ (getAttrByItsOwn _ _ _ _ _ _) _ _ _
 unfold getAttrByItsOwn
 refine ca (L2.at ?_)
 unfold callGetattribute boundAndCalled
 rw[show(false&&onTheHeap (IV "BaseException.__getattribute__"))=false from rfl,FX.ga.bind (.ref x)]
 refine ca (JD (H6 (ca (oj (HS (H9 FX.ga.plain J8
  (@Ky (model prog w) _ _ _ "BaseException.__getattribute__" "BaseException" "__getattribute__" (.ref x) [.str "__class__" t] [] _ nk kn sub (Kf _ _) ?_)))))))
 show fm _ _ (Builtin.«object.__getattribute__» ⟨[.ref x,.str "__class__" t],[]⟩) _ _ _
 unfold Builtin.«object.__getattribute__»
 refine ca (oj (a:=(pf x,[HL "__class__" t])) (ca (oj (a:=("__class__":Str)) (ca (L0.at (ca (L3.at ?_)))))))
 show fm _ _ (holding [IV "object.__class__"] (call (.builtin "getset_descriptor.__get__") [.builtin "object.__class__",.ref x,.ref D])>>=ret) _ _ _
 refine ca (H6 (HS (class_get (ox:=ox) (od:=some od) X I hm ?_)))
 refine oj ?_
 exact handed_on rfl (oj h)
theorem sC{Q:Value->Shared->Prop}(X:K.In s.heap)(I:InstAt s.heap x ox D (some od))(e:lp K D C=true)(h:Q (.bool false) {s with toks:=s.toks+1}):fm (model prog w) A (call (.builtin "isinstance") [.ref x,.ref C]) Q E s:=by
 unfold lp kin_not at e
 simp only[db,beq_iff_eq,decide_eq_true_eq] at e
 obtain⟨⟨⟨⟨⟨⟨⟨⟨hga,hno⟩,hdct⟩,ha⟩,hn⟩,htk⟩,hm⟩,hmB⟩,⟨⟨e0,e1⟩,e2⟩,e3⟩:=e
 refine call_isinstance (S:=fun ι R s=>(K.In s.heap/\InstAt s.heap x ox D (some od))/\R (.ok (.ret (.bool false))) {s with toks:=s.toks+1}) (fun p w A R s hs=>isinstance_outer ?_ (by intro q;cases q)) ⟨⟨X,I⟩,h⟩
 obtain⟨⟨X,I⟩,hR⟩:=hs
 have isT:∀{B:Addr} (_:(clsIn K B).isSome=true),IX (model p w) s.heap (isType (.ref B)) true:=by
  intro B hb
  obtain⟨cd,hc⟩:=kt.mp hb
  delta clsIn at hc
  cases ho:K.lookup B with
  |none=>rw[ho] at hc;exact bn rfl (heq_of_eq hc)
  |some o=>
   rw[ho] at hc
   obtain⟨c',d',dt,sl'⟩:=o
   cases dt with
   |cls cd'=>
    intro A' Q' E' s' k q
    unfold isType loadHead
    exact ca (IJ (k _ _ (X _ _ ho)) (oj q))
   |_=>exact bn rfl (heq_of_eq hc)
 have hisD:=isT (B:=D) (by obtain⟨cd,hc,_⟩:=Jt hdct;rw[hc];rfl)
 have his:=isT (B:=C) e1
 have hty:=looks_typeIn (M:=model p w) X e2
 have hsub:=looks_subIn (M:=model p w) X e3
 have hne:(pf D==pf C)=false:=Bool.eq_false_iff.mpr fun q=>e0 (Value.ref.inj (beq_iff_eq.mp q))
 obtain⟨h0,g,d,tt,os⟩:=s
 have L0:=I.type (M:=model p w)
 have LI:IX (model p w) h0 (isInstance (.ref x) (.ref C)) false:=L0.andThen hsub
 unfold Builtin.«isinstance.nested»
 refine ca (L0.at ?_)
 rw[if_neg (fun q=>by rw[hne] at q;exact dL q)]
 refine ca (hty.at ?_)
 rw[if_pos (by decide)]
 k_delta "plainIsInstance"
 refine ca (ca (his.at ?_))
 simp only[Ll,Il,if_false]
 refine ca (LI.at ?_)
 simp only[Il,if_false]
 refine ca (sH X I hga hno hdct ha hn htk hm hmB ?_)
 refine ca (hisD.at ?_)
 simp only[Ll,Il,if_false]
 refine ca (wpAny_rule ?_)
 refine hsub.at ?_
 first
  |exact oj hR
  |exact oj (oj hR)
  |exact ca (oj (oj hR))
end
end Mine
end
section
open PySem PySem.W PySem.Spec PySem.Calls PyProof.Rows
namespace Mine
set_option genCtorIdx true in
inductive Nd where
 |a0|a1|a2|a3|c1|c2|c3
inductive It where
 |elem (n:Nd)
 |nod (n:Nd)
 |k4|k13|var
structure Deed where
 rd:Bool
 st:Bool
 its:List It
inductive Gt where
 |dr (m r:Int)
 |deed (d:Deed)
noncomputable def Gt.ctorIdx(x:Gt):Nat:=x.casesOn (fun ι ι=>0) (fun ι=>1)
end Mine
section
namespace Mine
noncomputable abbrev zO(its:List Value):Obj:={cls:= .type "tuple",data:= .seq its.toArray}
noncomputable abbrev Rho:=Nat->Option Addr
inductive VRr(r:Option Addr)(w:Value):Prop
 |mk (a:Addr) (h:r=some a) (e:w= .ref a):VRr r w
inductive VRi(i:Int)(w:Value):Prop
 |mk (t:Tok) (e:w= .int i t):VRi i w
inductive VRt(s:Str)(w:Value):Prop
 |mk (t:Tok) (e:w= .str s t):VRt s w
noncomputable def VR(J:Rho)(v w:Value):Prop:=match v with
 | .ref k=>VRr (J k) w
 | .int i _=>VRi i w
 | .str s _=>VRt s w
 |v=>w=v
inductive All2{α β:Type}(R:α->β->Prop):List α->List β->Prop
 |nil:All2 R [] []
 |cons {a b l m}:R a b->All2 R l m->All2 R (a::l) (b::m)
namespace All2
variable{α β:Type}{R S:α->β->Prop}
theorem imp(h:∀a b,R a b->S a b){l:List α}{m:List β}(x:All2 R l m):All2 S l m:=by
 induction x with
 |nil=>exact .nil
 |cons a _ ih=>exact .cons (h _ _ a) ih
theorem append{l:List α}{m:List β}{l':List α}{m':List β}(x:All2 R l m)(y:All2 R l' m'):All2 R (l++l') (m++m'):=by
 induction x with
 |nil=>exact y
 |cons a _ ih=>exact .cons a ih
theorem length{l:List α}{m:List β}(x:All2 R l m):l.length=m.length:=by
 induction x with
 |nil=>rfl
 |cons _ _ ih=>exact congrArg Nat.succ ih
theorem get{l:List α}{m:List β}(x:All2 R l m):∀{i:Nat} {a:α},l[i]?=some a->∃b,m[i]?=some b/\R a b:=by
 induction x with
 |nil=>intro i a e;exact bn rfl (heq_of_eq e)
 |cons h r ih=>
  intro i a e
  cases i with
  |zero=>exact⟨_,rfl,bd e▸h⟩
  |succ i=>exact ih e
theorem mem{l:List α}{m:List β}(x:All2 R l m){a:α}:a∈l->∃b∈m,R a b:=by
 induction x with
 |nil=>exact fun e=>absurd e HN
 |cons h r ih=>
  intro e
  rcases eq.mp e with e|e
  ·exact⟨_,.head _,e▸h⟩
  ·exact let⟨b,hb,hr⟩:=ih e;⟨b,.tail _ hb,hr⟩
theorem flip{l:List α}{m:List β}(x:All2 R l m):All2 (fun b a=>R a b) m l:=by
 induction x with
 |nil=>exact .nil
 |cons a _ ih=>exact .cons a ih
theorem memR{l:List α}{m:List β}(x:All2 R l m){b:β}:b∈m->∃a∈l,R a b:=x.flip.mem
theorem take{l:List α}{m:List β}(x:All2 R l m):∀(i:Nat),All2 R (l.take i) (m.take i):=by
 induction x with
 |nil=>intro i;rw[Lj,Lj];exact .nil
 |cons h r ih=>
  intro i
  cases i with
  |zero=>exact .nil
  |succ i=>exact .cons h (ih i)
inductive ConsL(R:α->β->Prop)(a:α)(l:List α)(m:List β):Prop
 |mk (b:β) (m':List β) (e:m=b::m') (h:R a b) (r:All2 R l m'):ConsL R a l m
theorem consL{a:α}{l:List α}{m:List β}(x:All2 R (a::l) m):ConsL R a l m:=by cases x with|cons x r=>exact⟨_,_,rfl,x,r⟩
theorem nilL{m:List β}(x:All2 R [] m):m= []:=Jh x.length.symm
theorem nil_r{m:List β}(x:All2 R [] m):m= []:=x.nilL
end All2
noncomputable def Rho.le(J J':Rho):Prop:=∀k a,J k=some a->J' k=some a
theorem Rho.le_refl(J:Rho):J.le J:=fun ι ι h=>h
theorem Rho.le_trans{a b c:Rho}(h:a.le b)(h':b.le c):a.le c:=fun k x e=>h' k x (h k x e)
theorem VR.le{J J':Rho}(h:J.le J'){v w:Value}(x:VR J v w):VR J' v w:=by
 cases v<;>try exact x
 obtain⟨a,e,rfl⟩:=x
 exact⟨a,h _ _ e,rfl⟩
theorem VRs.le{J J':Rho}(h:J.le J'){v w:List Value}(x:All2 (VR J) v w):All2 (VR J') v w:=x.imp fun ι ι=>VR.le h
noncomputable def lk{α:Type}:List (Nat×α)->Nat->Option α
 | [],_=>none
 |p::r,k=>match av p.1 k with
  |true=>some p.2
  |false=>lk r k
noncomputable def del{α:Type}:List (Nat×α)->Nat->List (Nat×α)
 | [],_=> []
 |p::r,k=>match av p.1 k with
  |true=>r
  |false=>p::del r k
noncomputable def up{α:Type}:List (Nat×α)->Nat->α->List (Nat×α)
 | [],_,_=> []
 |p::r,k,x=>match av p.1 k with
  |true=>(p.1,x)::r
  |false=>p::up r k x
structure DfI where
 name:Str
 qual:Str
 params:Arguments
 body:List Stmt
 scope:Scope
structure DfE where
 d:Nat->DfI
 gd:List Gt->List (Str×Value)->Prop
 sc:Obj->Prop
inductive AO where
 |tup (vs:List Value)
 |lst (vs:List Value)
 |inst (C d:Nat)
 |adict (es:List (Nat×Value))
 |sdict (es:List (Str×Value))
 |tdict (es:List (List Str×Nat×Value))
 |exc (C d T:Nat)
 |exn (C t:Nat)
 |exd (C d t:Nat)
 |tb
 |fn
 |pdict (es:List (Str×Value))
 |cell (v:Option Value)
 |ns (es:List (Nat×Value))
 |tabl (ps:List (Nat×Nat))
 |code (i:Nat)
 |dfn (i tc:Nat)
 |gh (gs:List Gt)
 |scr
 |plst (ns:List Int)
noncomputable def AO.ctorIdx(x:AO):Nat:=x.casesOn (fun ι=>0) (fun ι=>1) (fun ι ι=>2) (fun ι=>3) (fun ι=>4) (fun ι=>5) (fun ι ι ι=>6) (fun ι ι=>7) (fun ι ι ι=>8) 9 10 (fun ι=>11) (fun ι=>12) (fun ι=>13) (fun ι=>14) (fun ι=>15) (fun ι ι=>16) (fun ι=>17) 18 (fun ι=>19)
noncomputable def fL(ns:List Int):List Value:=ns.map fun i=> .int i 0
section
variable(prog:Program)(w:World)(nm:Nat->Str)(dfi:DfE)(FN:Nat->Obj->Prop)
noncomputable def DR(J:Rho)(p:Nat×Value)(e:DictEntry):Prop:=(∃t,e.key= .str (nm p.1) t)/\VR J p.2 e.val
noncomputable def SR(J:Rho)(p:Str×Value)(q:Str×Value):Prop:=q.1=p.1/\VR J p.2 q.2
noncomputable def TR(J:Rho)(p:List Str×Nat×Value)(q:List Str×Addr×Value):Prop:=q.1=p.1/\J p.2.1=some q.2.1/\VR J p.2.2 q.2.2
noncomputable def lC:List (Nat×Nat)->List Addr->List Value
 |p::r,a::as=>rawInt p.1::rawInt p.2:: .ref a::lC r as
 |_,_=> []
inductive ORtup(J:Rho)(vs:List Value)(o:Obj):Prop
 |mk (vs':List Value) (e:o=zO vs') (r:All2 (VR J) vs vs'):ORtup J vs o
inductive ORlst(J:Rho)(vs:List Value)(o:Obj):Prop
 |mk (vs':List Value) (n:Nat) (e:o=I8 vs'.toArray n) (r:All2 (VR J) vs vs'):ORlst J vs o
inductive ORinst(d:Option Addr)(C:Addr)(o:Obj):Prop
 |mk (dx:Addr) (h:d=some dx) (e:o=instObj C dx):ORinst d C o
inductive ORad(J:Rho)(es:List (Nat×Value))(o:Obj):Prop
 |mk (ents:List DictEntry) (n:Nat) (e:o=dictOf ents n) (r:All2 (DR nm J) es ents):ORad J es o
inductive ORsd(J:Rho)(es:List (Str×Value))(o:Obj):Prop
 |mk (kvs:List (Str×Value)) (d:o.IsDictOf (tz prog w) kvs) (r:All2 (SR J) es kvs):ORsd J es o
inductive ORtd(J:Rho)(es:List (List Str×Nat×Value))(o:Obj):Prop
 |mk (eo:Array DictEntry) (ep:Nat) (xs:List (List Str×Addr×Value)) (x:o.ExactDict) (d:o.data= .dict eo ep) (e:eo.toList=xs.map (entryOfKey (tupleKind (tz prog w)))) (nd:(xs.map (·.1)).Nodup) (r:All2 (TR J) es xs):ORtd J es o
inductive ORexc(d T:Option Addr)(C:Nat)(o:Obj):Prop
 |mk (t dx Tx:Addr) (h:d=some dx) (h2:T=some Tx) (e:o=eJ C (some dx) #[.ref t,.ref Tx,.none,.none,.bool false,.none] #[]):ORexc d T C o
inductive ORexn(t:Option Addr)(C:Nat)(o:Obj):Prop
 |mk (tx:Addr) (h:t=some tx) (e:o=eJ C none #[.ref tx,.none,.none,.none,.bool false,.none] #[]):ORexn t C o
inductive ORexd(d t:Option Addr)(C:Nat)(o:Obj):Prop
 |mk (tx dx:Addr) (h:t=some tx) (h2:d=some dx) (e:o=eJ C (some dx) #[.ref tx,.none,.none,.none,.bool false,.none] #[]):ORexd d t C o
inductive ORdfn(tc:Option Addr)(i:Nat)(o:Obj):Prop
 |mk (c':Addr) (doc:Value) (pm:Value) (ctv:Value) (h:tc=some c') (e:o=fnMade (dfi.d i).name (dfi.d i).qual (dfi.d i).params (dfi.d i).body (dfi.d i).scope [] doc pm c' ctv):ORdfn tc i o
noncomputable def OR(J:Rho):AO->Obj->Prop
 | .tup vs,o=>ORtup J vs o
 | .lst vs,o=>ORlst J vs o
 | .inst C d,o=>ORinst (J d) C o
 | .adict es,o=>ORad nm J es o
 | .sdict es,o=>ORsd prog w J es o
 | .tdict es,o=>ORtd prog w J es o
 | .exc C d T,o=>ORexc (J d) (J T) C o
 | .exn C t,o=>ORexn (J t) C o
 | .exd C d t,o=>ORexd (J d) (J t) C o
 | .tb,o=>∃ts,o=et ts/\3<ts.size
 | .fn,o=>FN 0 o
 | .pdict es,o=>FN 0 o/\ORsd prog w J es o
 | .cell v,o=>∃vo,o.data= .cell vo/\match v with|none=>vo=none|some v=>∃v',vo=some v'/\VR J v v'
 | .scr,o=>dfi.sc o
 | .plst ns,o=>FN 0 o/\∃vs' n,o.cls= .type "list"/\o.data= .seq vs'.toArray n/\All2 (VR fun ι=>none) (fL ns) vs'
 | .gh gs,o=>∃es,dfi.gd gs es/\ORsd prog w J es o
 | .tabl ps,o=>∃cs:List Addr,cs.length=ps.length/\o=tabObj (lC ps cs).toArray
 | .code i,o=>∃vs t,o.data= .fields vs/\vs[1]?=some (.str (dfi.d i).qual t)
 | .dfn i tc,o=>ORdfn dfi (J tc) i o
 | .ns es,o=>∃m,LCg.NsObj o m/\∀x v,lk es x=some v->∃v',m (nm x)=some v'/\VR J v v'
theorem OR.le{J J':Rho}(h:J.le J'){a:AO}{o:Obj}(x:OR prog w nm dfi FN J a o):OR prog w nm dfi FN J' a o:=by
 cases a with
 |tup vs=>obtain⟨v,e,r⟩:=x;exact⟨v,e,VRs.le h r⟩
 |lst vs=>obtain⟨v,n,e,r⟩:=x;exact⟨v,n,e,VRs.le h r⟩
 |inst C d=>obtain⟨v,e,r⟩:=x;exact⟨v,h _ _ e,r⟩
 |adict es=>obtain⟨v,n,e,r⟩:=x;exact⟨v,n,e,r.imp fun ι ι z=>⟨z.1,z.2.le h⟩⟩
 |sdict es=>obtain⟨v,e,r⟩:=x;exact⟨v,e,r.imp fun ι ι z=>⟨z.1,z.2.le h⟩⟩
 |tdict es=>obtain⟨a,b,c,d,e,f,k,r⟩:=x;exact⟨a,b,c,d,e,f,k,r.imp fun ι ι z=>⟨z.1,h _ _ z.2.1,z.2.2.le h⟩⟩
 |exc C d T=>obtain⟨t,dx,Tx,a,b,c⟩:=x;exact⟨t,dx,Tx,h _ _ a,h _ _ b,c⟩
 |exn C t=>obtain⟨tx,a,b⟩:=x;exact⟨tx,h _ _ a,b⟩
 |exd C d t=>obtain⟨tx,dx,a,b,c⟩:=x;exact⟨tx,dx,h _ _ a,h _ _ b,c⟩
 |tb=>exact x
 |fn=>exact x
 |pdict es=>obtain⟨y,v,e,r⟩:=x;exact⟨y,v,e,r.imp fun ι ι z=>⟨z.1,z.2.le h⟩⟩
 |cell v=>
  obtain⟨vo,e,r⟩:=x
  refine⟨vo,e,?_⟩
  cases v with
  |none=>exact r
  |some v=>obtain⟨v',e',r⟩:=r;exact⟨v',e',r.le h⟩
 |scr=>exact x
 |plst ns=>exact x
 |gh gs=>obtain⟨es,q,v,e,r⟩:=x;exact⟨es,q,v,e,r.imp fun ι ι z=>⟨z.1,z.2.le h⟩⟩
 |tabl ps=>exact x
 |code i=>exact x
 |dfn i tc=>obtain⟨a,b,c,d,e,f⟩:=x;exact⟨a,b,c,d,h _ _ e,f⟩
 |ns es=>obtain⟨m,e,r⟩:=x;exact⟨m,e,fun x v q=>let⟨v',a,b⟩:=r x v q;⟨v',a,b.le h⟩⟩
noncomputable def ER(J:Rho)(p:Nat×AO)(q:Addr×Obj):Prop:=J p.1=some q.1/\OR prog w nm dfi (fun ι=>FN p.1) J p.2 q.2/\(q.1==sysModules)=false
structure Rel(HB:Nat)(J:Rho)(nx:Nat)(led:List (Nat×AO))(news:Led):Prop where
 hd:∀k,k<HB->J k=some k
 hb:HB<=nx
 hi:∀k,nx<=k->J k=none
 nd:(news.map (·.1)).Nodup
 er:All2 (ER prog w nm dfi FN J) led news
theorem ERs.le{J J':Rho}(h:J.le J'){led:List (Nat×AO)}{news:Led}(x:All2 (ER prog w nm dfi FN J) led news):All2 (ER prog w nm dfi FN J') led news:=x.imp fun ι ι z=>⟨h _ _ z.1,z.2.1.le _ _ _ _ _ h,z.2.2⟩
end
noncomputable def Rho.ext(J:Rho)(k:Nat)(a:Addr):Rho:=fun i=>if i=k then some a else J i
theorem Rho.ext_at(J:Rho)(k:Nat)(a:Addr):J.ext k a k=some a:=if_pos rfl
theorem Rho.ext_le{J:Rho}{k:Nat}(a:Addr)(h:J k=none):J.le (J.ext k a):=fun i x e=>by
 unfold Rho.ext
 by_cases q:i=k
 ·rw[q,h] at e;cases e
 ·rw[if_neg q];exact e
theorem aH{a b:Nat}(h:av a b=true):a=b:=J9 h
theorem aY{a b:Nat}(h:av a b=false):a≠b:=Nat.ne_of_beq_eq_false h
section
variable{prog:Program}{w:World}{nm:Nat->Str}{dfi:DfE}{FN:Nat->Obj->Prop}{HB:Nat}
theorem aR{α:Type}(p:Nat×α)(r:List (Nat×α))(k:Nat):lk (p::r) k=match av p.1 k with
  |true=>some p.2
  |false=>lk r k:=rfl
theorem fq{α:Type}(p:Nat×α)(r:List (Nat×α))(k:Nat)(x:α):up (p::r) k x=match av p.1 k with
  |true=>(p.1,x)::r
  |false=>p::up r k x:=rfl
theorem dG{α:Type}(p:Nat×α)(r:List (Nat×α))(k:Nat):del (p::r) k=match av p.1 k with
  |true=>r
  |false=>p::del r k:=rfl
theorem az{α:Type}{l:List (Nat×α)}{k:Nat}{x:α}:lk l k=some x->(k,x)∈l:=by
 induction l with
 |nil=>exact fun e=>bn rfl (heq_of_eq e)
 |cons p r ih=>
  intro e
  rw[aR] at e
  cases e':av p.1 k with
  |true=>
   rw[e'] at e
   rw[show p=(k,x) from HJ (aH e') (bd e)]
   exact .head _
  |false=>rw[e'] at e;exact .tail _ (ih e)
inductive Found(prog:Program)(w:World)(nm:Nat->Str)(dfi:DfE)(FN:Nat->Obj->Prop)(J:Rho)(news:Led)(k:Nat)(x:AO):Prop
 |mk (a:Addr) (o:Obj) (h:J k=some a) (m:(a,o)∈news) (r:OR prog w nm dfi (fun ι=>FN k) J x o) (s:(a==sysModules)=false):Found prog w nm dfi FN J news k x
theorem ER.find{J:Rho}{led:List (Nat×AO)}{news:Led}{k:Nat}{x:AO}(h:All2 (ER prog w nm dfi FN J) led news)(e:lk led k=some x):
  Found prog w nm dfi FN J news k x:=by
 obtain⟨q,hq,r⟩:=h.mem (az e)
 exact⟨q.1,q.2,r.1,hq,r.2.1,r.2.2⟩
inductive FoundA(prog:Program)(w:World)(nm:Nat->Str)(dfi:DfE)(FN:Nat->Obj->Prop)(J:Rho)(news:Led)(k:Nat)(x:AO)(a:Addr):Prop
 |mk (o:Obj) (m:(a,o)∈news) (r:OR prog w nm dfi (fun ι=>FN k) J x o) (s:(a==sysModules)=false):FoundA prog w nm dfi FN J news k x a
theorem ER.findA{J:Rho}{led:List (Nat×AO)}{news:Led}{k:Nat}{x:AO}{a:Addr}(h:All2 (ER prog w nm dfi FN J) led news)(e:lk led k=some x)(hk:J k=some a):FoundA prog w nm dfi FN J news k x a:=by
 obtain⟨b,o,h1,m,r,s⟩:=ER.find h e
 cases bd (h1.symm.trans hk)
 exact⟨o,m,r,s⟩
inductive Cut0{α β:Type}(R:Nat×α->β->Prop)(led:List (Nat×α))(news:List β)(k:Nat)(x:α):Prop
 |mk (l1 l2:List (Nat×α)) (n1 n2:List β) (q:β) (e:led=l1++(k,x)::l2) (en:news=n1++q::n2) (u:∀x',up led k x'=l1++(k,x')::l2) (d:del led k=l1++l2) (h1:All2 R l1 n1) (h2:All2 R l2 n2) (r:R (k,x) q):Cut0 R led news k x
theorem All2.cut{α β:Type}{R:Nat×α->β->Prop}{led:List (Nat×α)}{news:List β}{k:Nat}{x:α}(h:All2 R led news):lk led k=some x->Cut0 R led news k x:=by
 induction h with
 |nil=>exact fun e=>bn rfl (heq_of_eq e)
 | @cons p q l m h r ih=>
  intro e
  rw[aR] at e
  cases e':av p.1 k with
  |true=>
   rw[e'] at e
   have hp:p=(k,x):=HJ (aH e') (bd e)
   refine⟨[],l,[],m,q,by rw[hp];rfl,rfl,fun x'=>?_,?_,.nil,r,hp▸h⟩
   ·rw[fq,e',aH e'];rfl
   ·rw[dG,e'];rfl
  |false=>
   rw[e'] at e
   obtain⟨l1,l2,n1,n2,z,h1,h2,h3,h4,h5,h6,h7⟩:=ih e
   refine⟨p::l1,l2,q::n1,n2,z,congrArg _ h1,congrArg _ h2,fun x'=>?_,?_,.cons h h5,h6,h7⟩
   ·rw[fq,e'];exact congrArg _ (h3 x')
   ·rw[dG,e'];exact congrArg _ h4
inductive Cut(prog:Program)(w:World)(nm:Nat->Str)(dfi:DfE)(FN:Nat->Obj->Prop)(J:Rho)(led:List (Nat×AO))(news:Led)(k:Nat)(x:AO)(a:Addr)(o:Obj):Prop
 |mk (l1 l2:List (Nat×AO)) (n1 n2:Led) (e:led=l1++(k,x)::l2) (en:news=n1++(a,o)::n2) (u:∀x',up led k x'=l1++(k,x')::l2) (d:del led k=l1++l2) (h1:All2 (ER prog w nm dfi FN J) l1 n1) (h2:All2 (ER prog w nm dfi FN J) l2 n2)
   (r:ER prog w nm dfi FN J (k,x) (a,o)) (m1:∀z∈n1,z.1≠a) (m2:∀z∈n2,z.1≠a):Cut prog w nm dfi FN J led news k x a o
theorem gr{n1 n2:Led}{q:Addr×Obj}(nd:((n1++q::n2).map (·.1)).Nodup):(∀z∈n1,z.1≠q.1)/\(∀z∈n2,z.1≠q.1):=by
 rw[wE,mo,zs,sB] at nd
 exact⟨fun z hz=>nd.2.2 _ (nw hz) _ (.head _),fun z hz e=>nd.2.1.1 (e▸nw hz)⟩
theorem ER.cut{J:Rho}{led:List (Nat×AO)}{news:Led}{k:Nat}{x:AO}{a:Addr}{o:Obj}(h:All2 (ER prog w nm dfi FN J) led news)(nd:(news.map (·.1)).Nodup)(e:lk led k=some x)(hk:J k=some a)(hm:(a,o)∈news):Cut prog w nm dfi FN J led news k x a o:=by
 obtain⟨l1,l2,n1,n2,q,h1,h2,h3,h4,h5,h6,h7⟩:=h.cut e
 subst h2
 obtain⟨m1,m2⟩:=gr nd
 have hq:q.1=a:=bd (h7.1.symm.trans hk)
 rw[hq] at m1 m2
 have hq:q=(a,o):=by
  rcases nl.mp hm with hm|hm
  ·exact absurd rfl (m1 _ hm)
  ·rcases eq.mp hm with hm|hm
   ·exact hm.symm
   ·exact absurd rfl (m2 _ hm)
 subst hq
 exact⟨l1,l2,n1,n2,h1,rfl,h3,h4,h5,h6,h7,m1,m2⟩
theorem mZ{a:Addr}{o:Obj}{n1 n2:Led}(m1:∀z∈n1,z.1≠a)(m2:∀z∈n2,z.1≠a):UpdF a o (n1++(a,o)::n2) fun o'=>n1++(a,o')::n2:=by
 induction n1 with
 |nil=>exact .head m2
 |cons z n1 ih=>exact .tail (m1 z (.head _)) (ih fun y hy=>m1 y (.tail _ hy))
theorem wK{a:Addr}{o o':Obj}{n1 n2:Led}(m1:∀z∈n1,z.1≠a)(m2:∀z∈n2,z.1≠a):LQ a o o' (n1++(a,o)::n2) (n1++(a,o')::n2):=by
 induction n1 with
 |nil=>exact .head m2
 |cons z n1 ih=>exact .tail (m1 z (.head _)) (ih fun y hy=>m1 y (.tail _ hy))
theorem lQ{a:Addr}{o o':Obj}{n1 n2:Led}:(n1++(a,o')::n2).map (·.1)=(n1++(a,o)::n2).map (·.1):=by rw[wE,wE];rfl
theorem ER.upd{J:Rho}{led:List (Nat×AO)}{news:Led}{k:Nat}{x x':AO}{a:Addr}{o o':Obj}(h:All2 (ER prog w nm dfi FN J) led news)(nd:(news.map (·.1)).Nodup)(e:lk led k=some x)(hk:J k=some a)(hm:(a,o)∈news)(hx:OR prog w nm dfi (fun ι=>FN k) J x' o'):
  ∃news',LQ a o o' news news'/\All2 (ER prog w nm dfi FN J) (up led k x') news'/\news'.map (·.1)=news.map (·.1):=by
 obtain⟨l1,l2,n1,n2,_,rfl,u,_,h1,h2,r,m1,m2⟩:=ER.cut h nd e hk hm
 exact⟨_,wK m1 m2,u x'▸h1.append (.cons ⟨hk,hx,r.2.2⟩ h2),lQ⟩
theorem ER.updF{J:Rho}{led:List (Nat×AO)}{news:Led}{k:Nat}{x:AO}{a:Addr}{o:Obj}(h:All2 (ER prog w nm dfi FN J) led news)(nd:(news.map (·.1)).Nodup)(e:lk led k=some x)(hk:J k=some a)(hm:(a,o)∈news):
  ∃nf,UpdF a o news nf/\(∀o',(nf o').map (·.1)=news.map (·.1))/\∀x' o',OR prog w nm dfi (fun ι=>FN k) J x' o'->All2 (ER prog w nm dfi FN J) (up led k x') (nf o'):=by
 obtain⟨l1,l2,n1,n2,_,rfl,u,_,h1,h2,r,m1,m2⟩:=ER.cut h nd e hk hm
 exact⟨_,mZ m1 m2,fun ι=>lQ,fun x' o' hx=>u x'▸h1.append (.cons ⟨hk,hx,r.2.2⟩ h2)⟩
theorem ER.del{J:Rho}{led:List (Nat×AO)}{news:Led}{k:Nat}{x:AO}{a:Addr}(h:All2 (ER prog w nm dfi FN J) led news)(nd:(news.map (·.1)).Nodup)(e:lk led k=some x)(hk:J k=some a):
  ∃rest,Ih rest news/\All2 (ER prog w nm dfi FN J) (Mine.del led k) rest/\(∀p∈rest,p.1≠a):=by
 obtain⟨l1,l2,n1,n2,q,_,rfl,_,d,h1,h2,r⟩:=h.cut e
 obtain⟨m1,m2⟩:=gr nd
 rw[bd (r.1.symm.trans hk)] at m1 m2
 exact⟨_,(IA _ _).append_left n1,d▸h1.append h2,fun z hz=>(nl.mp hz).elim (m1 z) (m2 z)⟩
theorem Rel.grow{J:Rho}{nx:Nat}{led:List (Nat×AO)}{news:Led}(h:Rel prog w nm dfi FN HB J nx led news){x:AO}{a:Addr}{o:Obj}(ha:∀q∈news,q.1<a)(hs:(a==sysModules)=false)(ho:OR prog w nm dfi (fun ι=>FN nx) (J.ext nx a) x o):
  Rel prog w nm dfi FN HB (J.ext nx a) (nx+1) ((nx,x)::led) ((a,o)::news):=by
 have hle:=Rho.ext_le a (h.hi nx (wh _))
 refine⟨fun k hk=>hle _ _ (h.hd k hk),Ip h.hb,fun k hk=>?_,?_,.cons ⟨Rho.ext_at _ _ _,ho,hs⟩ (ERs.le _ _ _ _ _ hle h.er)⟩
 ·unfold Rho.ext
  rw[if_neg (fun e=>by subst e;exact absurd hk (HM (Db _)))]
  exact h.hi k (Hh hk)
 ·rw[mo,sB]
  refine⟨fun hm=>?_,h.nd⟩
  obtain⟨q,hq,e⟩:=re.mp hm
  have:=ha q hq
  rw[e] at this
  exact JG _ this
theorem Rel.grow_le{J:Rho}{nx:Nat}{led:List (Nat×AO)}{news:Led}(h:Rel prog w nm dfi FN HB J nx led news)(a:Addr):J.le (J.ext nx a):=Rho.ext_le a (h.hi nx (wh _))
end
end Mine
end
namespace Mine
structure St where
 nx:Nat
 hd:Option Nat
 dp:Nat
 led:List (Nat×AO)
 lo:List (Nat×Value)
inductive Res(α:Type) where
 |ok (v:α)
 |err (k:Nat)
noncomputable def Res.ctorIdx{α:Type}(x:Res α):Nat:=x.casesOn (fun ι=>0) (fun ι=>1)
noncomputable abbrev Out(α:Type):=Option (Res α×St)
structure Core where
 prog:Program
 w:World
 K:Frag
 p:Program
 loose:List Str
 mean:H8->Option Value
 mg:Str->Option Value
 mb:Str->Option Value
 nm:Nat->Str
 HB:Nat
 hobj:Nat->Option AO
 ce:Scope->Nat->Expr->Prop
 dfi:DfE
 nest:Scope->Option (Addr×Addr×Str)
structure Sta extends Core where
 FN:Nat->Obj->Prop
structure Cx where
 A:Around
 A₀:Around
 base:Heap
 env:Env
 outer:List Env
 L:Addr
 fe:Env
 res:Str->Option Addr
noncomputable def nX(sc:Scope):Bool:=(sc.names.lookup (ag ".0")).isSome
noncomputable def ae(sc:Scope)(y:Str):Prop:=sc.names.lookup y=some .local/\nX sc=false
noncomputable def seen(res:Str->Option Addr)(m:Str->Option Value):Str->Option Value:=fun x=>match res x with
 |some a=>some (.ref a)
 |none=>m x
structure StaOk(S:Core):Prop where
 dot:∀i,S.nm i≠ag ".0"
 inj:∀i j,S.nm i=S.nm j->i=j
 sm:∃o,S.K.lookup sysModules=some o
 ho:∀k x,S.hobj k=some x->k<S.HB/\(k==sysModules)=false/\∃o,S.K.lookup k=some o/\∀FN (J:Rho),(∀k,k<S.HB->J k=some k)->OR S.prog S.w S.nm S.dfi FN J x o
structure CxOk(S:Sta)(cx:Cx)(sc:Scope):Prop where
 hA:cx.A.frames=some (cx.fe::cx.outer)
 hAA:cx.A=cx.A₀.deeper cx.fe
 ff:cx.fe.frame=some cx.L
 fk:cx.fe.scope.kind= .function
 ef:cx.env.frame=some cx.L
 nf:∀e,noteFrame e cx.env=noteFrame e cx.fe
 hsc:cx.env.scope=sc
 gl:cx.env.globals=mainGlobals
 bi:cx.env.builtins=builtinsNs
 nest:∀c P q,S.nest sc=some (c,P,q)->cx.env.code= .ref c/\cx.env.qual=q
 hk:sc.kind= .function
 lo:nX sc=false->cx.env.locals=cx.L/\∀x,sc.names.lookup x=some .local->cx.res x=none
 en:nX sc=false->cx.fe=cx.env
 cv:nX sc=true->∀x,sc.names.lookup x=some .local->cx.res x=some cx.env.locals
 ce:∀x,sc.names.lookup x=some .cell->∃a,cx.res x=some a/\cx.env.cells.lookup x=some a
 XB:S.K.In cx.base
 TB:Lh S.p S.loose S.mean S.mg S.mb cx.base
 S:StaOk S.toCore
noncomputable abbrev Sta.Rel(S:Sta)(J:Rho)(st:St)(news:Led):Prop:=Mine.Rel S.prog S.w S.nm S.dfi S.FN S.HB J st.nx st.led news
noncomputable def Locs(S:Sta)(J:Rho)(lo:List (Nat×Value))(m:Str->Option Value):Prop:=∀x v,lk lo x=some v->∃v',m (S.nm x)=some v'/\VR J v v'
inductive OkFr(S:Sta)(cx:Cx)(g h:Heap)(J:Rho)(st:St):Prop
 |mk (m:Str->Option Value) (news:Led) (F:Fr g cx.L h m) (N:News g cx.L h news) (R:S.Rel J st news) (l:Locs S J st.lo (seen cx.res m)):OkFr S cx g h J st
structure Ok(S:Sta)(cx:Cx)(g:Heap)(s:Shared)(J:Rho)(st:St):Prop where
 B:H2 cx.A₀ cx.base cx.outer g
 fr:OkFr S cx g s.heap J st
 hd:match st.hd with|none=>cx.A.handled=none|some k=>∃e,J k=some e/\cx.A.handled=some (.ref e)
 dp:cx.A.depth+4*st.dp<recursionLimit
 un:cx.A.units+20*st.dp<cLine
structure Same(s s':Shared):Prop where
 gens:s'.gens=s.gens
 drawn:s'.drawn=s.drawn
 os:s'.os=s.os
theorem Same.rfl'(s:Shared):Same s s:=⟨rfl,rfl,rfl⟩
theorem Same.trans{a b c:Shared}(h:Same a b)(h':Same b c):Same a c:=⟨h'.gens.trans h.gens,h'.drawn.trans h.drawn,h'.os.trans h.os⟩
structure Ext(S:Sta)(cx:Cx)(J:Rho)(g:Heap)(s:Shared)(J':Rho)(g':Heap)(s':Shared)(st':St):Prop where
 le:J.le J'
 turn:Hd (cx.outer.filterMap (·.frame)) g g'
 same:Same s s'
 ok:Ok S cx g' s' J' st'
theorem Ext.trans{S:Sta}{cx:Cx}{J J' J'':Rho}{g g' g'':Heap}{s s' s'':Shared}{st' st'':St}(h:Ext S cx J g s J' g' s' st')(h':Ext S cx J' g' s' J'' g'' s'' st''):Ext S cx J g s J'' g'' s'' st'':=
 ⟨Rho.le_trans h.le h'.le,Go h.turn h'.turn,h.same.trans h'.same,h'.ok⟩
noncomputable def Post{α β:Type}(S:Sta)(cx:Cx)(VV:Rho->α->β->Prop)(Q:β->Shared->Prop)(E:Value->Shared->Prop)(J:Rho)(g:Heap)(s:Shared):Out α->Prop
 |none=>False
 |some (.ok v,st')=>∀J' g' s' v',Ext S cx J g s J' g' s' st'->VV J' v v'->Q v' s'
 |some (.err k,st')=>∀J' g' s' a,Ext S cx J g s J' g' s' st'->J' k=some a->E (.ref a) s'
section
variable{S:Sta}{cx:Cx}{α β γ δ:Type}{J:Rho}{g:Heap}{s:Shared}{st:St}
theorem Post.later{VV:Rho->α->β->Prop}{Q:β->Shared->Prop}{E:Value->Shared->Prop}{J':Rho}{g':Heap}{s':Shared}{st':St}{o:Out α}(h:Post S cx VV Q E J g s o)(x:Ext S cx J g s J' g' s' st'):Post S cx VV Q E J' g' s' o:=by
 match o,h with
 |some (.ok v,st2),h=>exact fun J2 g2 s2 v' y hv=>h J2 g2 s2 v' (x.trans y) hv
 |some (.err k,st2),h=>exact fun J2 g2 s2 a y hv=>h J2 g2 s2 a (x.trans y) hv
noncomputable def Sat(S:Sta)(cx:Cx)(VV:Rho->α->β->Prop)(t:Jv β)(st:St)(o:Out α):Prop:=
 ∀J g s Q E,Ok S cx g s J st->Post S cx VV Q E J g s o->fm (model S.prog S.w) cx.A t Q E s
noncomputable def Ob(o:Out α)(f:α->St->Out γ):Out γ:=match o with
 |none=>none
 |some (.ok v,st)=>f v st
 |some (.err k,st)=>some (.err k,st)
theorem Sat.bind{VV:Rho->α->β->Prop}{VV':Rho->γ->δ->Prop}{t:Jv β}{o:Out α}{f:α->St->Out γ}{Q:δ->Shared->Prop}{E:Value->Shared->Prop}{Q1:β->Shared->Prop}
  (h:Sat S cx VV t st o) (hok:Ok S cx g s J st) (hP:Post S cx VV' Q E J g s (Ob o f))
  (hk:∀v st',o=some (.ok v,st')->∀J' g' s' v',Ext S cx J g s J' g' s' st'->VV J' v v'->Post S cx VV' Q E J' g' s' (f v st')->Q1 v' s'):
  fm (model S.prog S.w) cx.A t Q1 E s:=by
 refine h J g s Q1 E hok ?_
 cases o with
 |none=>exact hP.elim
 |some o=>
  obtain⟨o,st2⟩:=o
  cases o with
  |ok v=>exact fun J2 g2 s2 v' y hv=>hk v st2 rfl J2 g2 s2 v' y hv (Post.later (o:=f v st2) hP y)
  |err k=>exact fun J2 g2 s2 a y hv=>hP J2 g2 s2 a y hv
theorem Ext.rfl'(h:Ok S cx g s J st):Ext S cx J g s J g s st:=⟨Rho.le_refl _,Cn,Same.rfl' _,h⟩
theorem Ok.toks(h:Ok S cx g s J st)(tk:Nat):Ok S cx g {s with toks:=tk} J st:=⟨h.B,h.fr,h.hd,h.dp,h.un⟩
theorem Ext.toks(h:Ok S cx g s J st)(tk:Nat):Ext S cx J g s J g {s with toks:=tk} st:=⟨Rho.le_refl _,Cn,⟨rfl,rfl,rfl⟩,h.toks tk⟩
theorem Post.ret{VV:Rho->α->β->Prop}{Q:β->Shared->Prop}{E:Value->Shared->Prop}{v:α}{v':β}(hP:Post S cx VV Q E J g s (some (.ok v,st)))(h:Ok S cx g s J st)(hv:VV J v v')(tk:Nat):Q v' {s with toks:=tk}:=
 hP J g _ v' (Ext.toks h tk) hv
theorem Post.ret0{VV:Rho->α->β->Prop}{Q:β->Shared->Prop}{E:Value->Shared->Prop}{v:α}{v':β}(hP:Post S cx VV Q E J g s (some (.ok v,st)))(h:Ok S cx g s J st)(hv:VV J v v'):Q v' s:=
 hP J g _ v' (Ext.rfl' h) hv
theorem Ok.inG{sc:Scope}(C:CxOk S cx sc)(h:Ok S cx g s J st):S.K.In g:=C.XB.keeps h.B.stays
theorem Ok.topG{sc:Scope}(C:CxOk S cx sc)(h:Ok S cx g s J st):Lh S.p S.loose S.mean S.mg S.mb g:=C.TB.keeps h.B.stays
theorem Ok.heap(h:Ok S cx g s J st){st':St}{J':Rho}{h':Heap}{tk:Nat}{m:Str->Option Value}{news:Led}(F:Fr g cx.L h' m)(N:News g cx.L h' news)(R:S.Rel J' st' news)(hl:Locs S J' st'.lo (seen cx.res m))(e1:st'.hd=st.hd)(e2:st'.dp=st.dp)(hle:J.le J'):
  Ok S cx g {s with heap:=h',toks:=tk} J' st':=by
 refine⟨h.B,⟨m,news,F,N,R,hl⟩,?_,by rw[e2];exact h.dp,by rw[e2];exact h.un⟩
 have:=h.hd
 rw[e1]
 revert this
 cases st.hd with
 |none=>exact id
 |some k=>exact fun⟨e,a,b⟩=>⟨e,hle _ _ a,b⟩
theorem Locs.le{J J':Rho}(h:J.le J'){lo:List (Nat×Value)}{m:Str->Option Value}(x:Locs S J lo m):Locs S J' lo m:=fun y v e=>let⟨v',a,b⟩:=x y v e;⟨v',a,b.le h⟩
end
section
variable{S:Sta}{cx:Cx}{sc:Scope}{st:St}
theorem CxOk.K(C:CxOk S cx sc):cx.env.scope.kind= .function:=by rw[C.hsc];exact C.hk
theorem CxOk.kd(C:CxOk S cx sc){x:Str}{k:NameKind}(h:sc.names.lookup x=some k):cx.env.kindOf x=some k:=by
 show cx.env.scope.names.lookup x=some k
 rw[C.hsc]
 exact h
theorem y8(C:CxOk S cx sc){J:Rho}{g:Heap}{s:Shared}{Q:Value->Shared->Prop}{E:Value->Shared->Prop}(hk:Ok S cx g s J st){x:Nat}{v:Value}(h1:ae sc (S.nm x))(h3:lk st.lo x=some v)(h:∀v',VR J v v'->Q v' s):
  fm (model S.prog S.w) cx.A (loadName cx.env (S.nm x)) Q E s:=by
 obtain⟨m,news,F,N,R,hl⟩:=hk.fr
 obtain⟨v',hm,hv⟩:=hl x v h3
 obtain⟨hloc,hres⟩:=C.lo h1.2
 have hm':m (S.nm x)=some v':=by unfold seen at hm;rw[hres _ h1.1] at hm;exact hm
 exact Kb C.K (C.kd h1.1) (hloc▸F.ns) hm' (h v' hv)
theorem y7(C:CxOk S cx sc){x:Nat}{v:Value}{pos:Pos}(h1:ae sc (S.nm x))(h2:(S.nm x==("__debug__":Str))=false)(h3:lk st.lo x=some v):
  Sat S cx VR (eval (.Name (S.nm x) pos) cx.env) st (some (.ok v,st)):=by
 intro J g s Q E hk hP
 exact Ku (y8 C hk h1 h3 fun v' hv=>hP.ret0 hk hv) h2
theorem Bv(C:CxOk S cx sc){x k:Nat}{v:Value}{pos:Pos}(h1:sc.names.lookup (S.nm x)=some .cell)(h2:(S.nm x==("__debug__":Str))=false)(h3:lk st.lo x=some (.ref k))(h4:lk st.led k=some (.cell (some v))):
  Sat S cx VR (eval (.Name (S.nm x) pos) cx.env) st (some (.ok v,st)):=by
 intro J g s Q E hk hP
 obtain⟨m,news,F,N,R,hl⟩:=hk.fr
 obtain⟨w,hm,a,hka,rfl⟩:=hl x _ h3
 obtain⟨b,hb,hc⟩:=C.ce _ h1
 unfold seen at hm
 rw[hb] at hm
 cases hm
 obtain⟨o,e2,⟨vo,e3,v',rfl,hv⟩,e5⟩:=ER.findA R.er h4 hka
 exact Ku (wpAny_loadName_cell C.K (C.kd h1) hc ⟨o,(N _ e2).1,e3⟩ (hP.ret0 hk hv)) h2
theorem EZ(C:CxOk S cx sc){x k:Nat}{v:Value}{es:List (Nat×Value)}{pos:Pos}(h0:nX sc=true)(h1:sc.names.lookup (S.nm x)=some .local)(h2:(S.nm x==("__debug__":Str))=false)(h3:lk st.lo x=some (.ref k))(h4:lk st.led k=some (.ns es))(h5:lk es x=some v):
  Sat S cx VR (eval (.Name (S.nm x) pos) cx.env) st (some (.ok v,st)):=by
 intro J g s Q E hk hP
 obtain⟨m,news,F,N,R,hl⟩:=hk.fr
 obtain⟨w,hm,a,hka,rfl⟩:=hl x _ h3
 have hb:=C.cv h0 _ h1
 unfold seen at hm
 rw[hb] at hm
 cases hm
 obtain⟨o,e2,⟨m2,e3,e4⟩,e5⟩:=ER.findA R.er h4 hka
 obtain⟨v',hm2,hv⟩:=e4 _ _ h5
 exact Ku (Kb C.K (C.kd h1) (e3.ns (N _ e2).1) hm2 (hP.ret0 hk hv)) h2
theorem t7(C:CxOk S cx sc){id:Str}{v:Value}{pos:Pos}(h1:sc.names.lookup id=some .globalImplicit)(h2:(id==("__debug__":Str))=false)(h3:nsIn S.K mainGlobals id=some (some v))(h4:∀J:Rho,(∀k,k<S.HB->J k=some k)->VR J v v):
  Sat S cx VR (eval (.Name id pos) cx.env) st (some (.ok v,st)):=by
 intro J g s Q E hk hP
 obtain⟨m,news,F,N,R,hl⟩:=hk.fr
 have G:=(I1 (hk.topG C)).g
 refine IP C.K (C.kd h1) (KM (mg:=S.mg) ?_ (mg_of (hk.inG C) G h3) ?_) h2
 ·rw[C.gl]
  exact G.keeps F.keep
 ·exact hP.ret0 hk (h4 J R.hd)
theorem z0{k:Nat}{pos:Pos}:Sat S cx VR (eval (.Constant .none k pos) cx.env) st (some (.ok .none,st)):=by
 intro J g s Q E hk hP
 exact Constant_none (hP.ret0 hk rfl)
theorem s_bool{b:Bool}{k:Nat}{pos:Pos}:Sat S cx VR (eval (.Constant (.bool b) k pos) cx.env) st (some (.ok (.bool b),st)):=by
 intro J g s Q E hk hP
 exact Constant_bool (hP.ret0 hk rfl)
theorem Br{z:Int}{k:Nat}{pos:Pos}:Sat S cx VR (eval (.Constant (.int z) k pos) cx.env) st (some (.ok (.int z 0),st)):=by
 intro J g s Q E hk hP
 exact Kv (hP.ret (v':= .int z s.toks) hk ⟨_,rfl⟩ _)
theorem y6{z:Str}{k:Nat}{pos:Pos}:Sat S cx VR (eval (.Constant (.str z) k pos) cx.env) st (some (.ok (.str z 0),st)):=by
 intro J g s Q E hk hP
 exact Calls.Constant_str (hP.ret (v':= .str z s.toks) hk ⟨_,rfl⟩ _)
noncomputable def St.grow(st:St)(o:AO):St:={st with nx:=st.nx+1,led:=(st.nx,o)::st.led}
theorem Ok.new{J:Rho}{g:Heap}{s:Shared}(C:CxOk S cx sc)(h:Ok S cx g s J st){m:Str->Option Value}{news:Led}(F:Fr g cx.L s.heap m)(R:S.Rel J st news)(hl:Locs S J st.lo (seen cx.res m)){a:Addr}{o:Obj}{x:AO}{h':Heap}{tk:Nat}
  (F':Fr g cx.L h' m) (N':News g cx.L h' ((a,o)::news)) (l:∀q∈news,q.1<a) (ho:OR S.prog S.w S.nm S.dfi (fun ι=>S.FN st.nx) (J.ext st.nx a) x o) (hs:(a==sysModules)=false):
  Ext S cx J g s (J.ext st.nx a) g {s with heap:=h',toks:=tk} (st.grow x):=by
 have R':=R.grow (x:=x) (o:=o) l hs ho
 have hle:=R.grow_le a
 exact⟨hle,Cn,⟨rfl,rfl,rfl⟩,h.heap F' N' R' (hl.le hle) rfl rfl hle⟩
theorem VR.new{J:Rho}{k:Nat}{a:Addr}:VR (J.ext k a) (.ref k) (.ref a):=⟨a,Rho.ext_at _ _ _,rfl⟩
theorem fD(C:CxOk S cx sc){J:Rho}{g:Heap}{s:Shared}(h:Ok S cx g s J st){h':Heap}{a:Addr}{o:Obj}{news:Led}(N:News g cx.L h' ((a,o)::news)):(a==sysModules)=false:=by
 refine beq_eq_false_iff_ne.mpr fun e=>?_
 have h1:=(N _ (.head _)).2.2
 obtain⟨o',ho⟩:=C.S.sm
 have h2:=h.inG C _ _ ho
 rw[<-e] at h2
 rw[h1] at h2
 cases h2
section
variable{J:Rho}{g:Heap}{s:Shared}{Q:Value->Shared->Prop}{E:Value->Shared->Prop}{QU:Unit->Shared->Prop}{QB:Bool->Shared->Prop}
noncomputable def VU:Rho->Unit->Unit->Prop:=fun ι ι ι=>True
noncomputable def VB:Rho->Bool->Bool->Prop:=fun ι a b=>b=a
theorem oi(C:CxOk S cx sc)(hk:Ok S cx g s J st){vs vs':List Value}(hv:All2 (VR J) vs vs')(hz:vs.length<=1000)(hP:Post S cx VR Q E J g s (some (.ok (.ref st.nx),st.grow (.tup vs)))):
  fm (model S.prog S.w) cx.A (newTuple vs') Q E s:=by
 obtain⟨m,news,F,N,R,hl⟩:=hk.fr
 refine kup_newTuple F N (fun D h' F' N' l=>?_) (by rw[<-hv.length];exact na hz (by decide))
 exact hP _ _ _ _ (hk.new C F R hl F' N' l (x:= .tup vs) ⟨vs',rfl,VRs.le (R.grow_le D) hv⟩ (fD C hk N')) VR.new
theorem rf(C:CxOk S cx sc)(hk:Ok S cx g s J st){vs vs':List Value}(hv:All2 (VR J) vs vs')(hz:vs.length<=1000)(hP:Post S cx VR Q E J g s (some (.ok (.ref st.nx),st.grow (.lst vs)))):
  fm (model S.prog S.w) cx.A (newList vs') Q E s:=by
 obtain⟨m,news,F,N,R,hl⟩:=hk.fr
 refine newList_K F N (fun D h' F' N' l=>?_) (by rw[<-hv.length];exact na hz (by decide))
 exact hP _ _ _ _ (hk.new C F R hl F' N' l (x:= .lst vs) ⟨vs',0,rfl,VRs.le (R.grow_le D) hv⟩ (fD C hk N')) VR.new
theorem rh(C:CxOk S cx sc)(hk:Ok S cx g s J st){pos:Pos}(hP:Post S cx VR Q E J g s (some (.ok (.ref st.nx),st.grow (.sdict [])))):
  fm (model S.prog S.w) cx.A (eval (.Dict [] [] pos) cx.env) Q E s:=by
 obtain⟨m,news,F,N,R,hl⟩:=hk.fr
 refine newDict_K F N (hk.topG C).nolimit (fun D h' o F' N' l lo hs ι ι ι=>?_)
 exact hP _ _ _ _ (hk.new C F R hl F' N' l (x:= .sdict []) ⟨[],hs,.nil⟩ lo) VR.new
theorem Ok.chg{h':Heap}(hk:Ok S cx g s J st){m:Str->Option Value}{news news':Led}(F':Fr g cx.L h' m)(N':News g cx.L h' news')(R:S.Rel J st news)(hl:Locs S J st.lo (seen cx.res m)){k:Nat}{x':AO}(e:All2 (ER S.prog S.w S.nm S.dfi S.FN J) (up st.led k x') news')(e2:news'.map (·.1)=news.map (·.1)){tk:Nat}:
  Ext S cx J g s J g {s with heap:=h',toks:=tk} {st with led:=up st.led k x'}:=
 ⟨Rho.le_refl _,Cn,⟨rfl,rfl,rfl⟩,hk.heap F' N' ⟨R.hd,R.hb,R.hi,by rw[e2];exact R.nd,e⟩ hl rfl rfl (Rho.le_refl _)⟩
noncomputable def gk:Value->Bool
 | .none| .bool _| .int _ _| .str _ _| .ref _=>true
 |_=>false
theorem ke{v v':Value}(h:VR J v v')(e:gk v=true):handedIn v'=true:=by
 cases v<;>first|cases e|skip
 ·cases h;rfl
 ·cases h;rfl
 ·obtain⟨t,rfl⟩:=h;rfl
 ·obtain⟨t,rfl⟩:=h;rfl
 ·obtain⟨t,_,rfl⟩:=h;rfl
theorem dE(C:CxOk S cx sc){es:List (Nat×Value)}{ents:List DictEntry}{i:Nat}{v:Value}(x:All2 (DR S.nm J) es ents):lk es i=some v->∃v',getL (S.nm i) ents=some (some v')/\VR J v v':=by
 induction x with
 |nil=>exact fun e=>bn rfl (heq_of_eq e)
 | @cons p q l m h r ih=>
  intro e
  rw[aR] at e
  obtain⟨⟨t,hkey⟩,hv⟩:=h
  unfold getL
  rw[ID]
  by_cases e':av p.1 i=true
  ·rw[e'] at e
   cases e
   have:q.key.isStr (S.nm i)=true:=by rw[hkey,aH e'];show(S.nm i==S.nm i)=true;exact beq_self_eq_true _
   rw[this]
   exact⟨_,rfl,hv⟩
  ·have e2:av p.1 i=false:=by cases z:av p.1 i with|true=>exact absurd z e'|false=>rfl
   rw[e2] at e
   have:q.key.isStr (S.nm i)=false:=by
    rw[hkey]
    show(S.nm p.1==S.nm i)=false
    exact beq_eq_false_iff_ne.mpr fun x=>aY e2 (C.S.inj _ _ x)
   rw[this]
   obtain⟨v',h1,h2⟩:=ih e
   refine⟨v',?_,h2⟩
   unfold getL at h1
   cases z:m.find? (fun x=>x.key.isStr (S.nm i)) with
   |some y=>rw[z] at h1;exact h1
   |none=>rw[z] at h1;dsimp only at h1;split at h1<;>cases h1
set_option tactic.hygienic true in
theorem hM(C:CxOk S cx sc){es:List (Nat×Value)}{ents:List DictEntry}{i:Nat}(h:All2 (DR S.nm J) es ents)(e:lk es i=none):getL (S.nm i) ents=some none:=by
 have h1:ents.find? (fun x=>x.key.isStr (S.nm i))=none/\ents.any (·.refKey)=false:=by
  induction h with
  |nil=>exact⟨rfl,rfl⟩
  |cons h r ih=>
   rename_i p q l m
   rw[aR] at e
   obtain⟨⟨t,hkey⟩,hv⟩:=h
   by_cases e':av p.1 i=true
   ·rw[e'] at e;cases e
   ·have e2:av p.1 i=false:=by cases z:av p.1 i with|true=>exact absurd z e'|false=>rfl
    rw[e2] at e
    obtain⟨h1,h2⟩:=ih e
    have:q.key.isStr (S.nm i)=false:=by
     rw[hkey]
     show(S.nm p.1==S.nm i)=false
     exact beq_eq_false_iff_ne.mpr fun x=>aY e2 (C.S.inj _ _ x)
    refine⟨by rw[ID,this];exact h1,?_⟩
    rw[JJ,h2]
    unfold DictEntry.refKey
    rw[hkey]
    rfl
 unfold getL
 rw[h1.1,h1.2]
 rfl
noncomputable def put:List (Nat×Value)->Nat->Value->List (Nat×Value)
 | [],i,v=> [(i,v)]
 |p::r,i,v=>match av p.1 i with
  |true=>(p.1,v)::r
  |false=>p::put r i v
theorem nD{p:Nat×Value}{r:List (Nat×Value)}{i:Nat}{v:Value}:put (p::r) i v=match av p.1 i with
  |true=>(p.1,v)::r
  |false=>p::put r i v:=rfl
theorem lM:∀(l:List (Nat×Value)) (i:Nat) (v:Value),(put l i v).length<=l.length+1
 | [],_,_=>wh _
 |p::r,i,v=>by
  have:=lM r i v
  rw[nD]
  cases av p.1 i with
  |true=>exact Kh _
  |false=>exact KY this
theorem qV(C:CxOk S cx sc){i:Nat}{v v':Value}{hs:Int}{t:Tok}(hv:VR J v v'){es:List (Nat×Value)}{ents:List DictEntry}(x:All2 (DR S.nm J) es ents):All2 (DR S.nm J) (put es i v) (putL (S.nm i) hs (.str (S.nm i) t) v' ents):=by
 induction x with
 |nil=>exact .cons ⟨⟨t,rfl⟩,hv⟩ .nil
 | @cons p q l m h r ih=>
  rw[nD]
  unfold putL
  obtain⟨⟨t',hkey⟩,hw⟩:=h
  by_cases e':av p.1 i=true
  ·rw[e']
   have:q.key.isStr (S.nm i)=true:=by rw[hkey,aH e'];show(S.nm i==S.nm i)=true;exact beq_self_eq_true _
   rw[if_pos this]
   exact .cons ⟨⟨t',hkey⟩,hv⟩ r
  ·have e2:av p.1 i=false:=by cases z:av p.1 i with|true=>exact absurd z e'|false=>rfl
   rw[e2]
   have:q.key.isStr (S.nm i)=false:=by
    rw[hkey]
    show(S.nm p.1==S.nm i)=false
    exact beq_eq_false_iff_ne.mpr fun x=>aY e2 (C.S.inj _ _ x)
   rw[this]
   exact .cons ⟨⟨t',hkey⟩,hw⟩ ih
end
end
section
variable{S:Sta}{cx:Cx}{sc:Scope}{st:St}
variable{J:Rho}{g:Heap}{s:Shared}{Q:Value->Shared->Prop}{E:Value->Shared->Prop}{QU:Unit->Shared->Prop}{QB:Bool->Shared->Prop}
noncomputable def rd(S:Core)(st:St)(k:Nat):Option AO:=match S.hobj k with
 |some x=>some x
 |none=>lk st.led k
inductive At(S:Sta)(J:Rho)(s:Shared)(k:Nat)(x:AO):Prop
 |mk (a:Addr) (o:Obj) (h:J k=some a) (e:s.heap.get? a=some o) (r:OR S.prog S.w S.nm S.dfi (fun ι=>S.FN k) J x o) (n:(a==sysModules)=false):At S J s k x
theorem tn(C:CxOk S cx sc)(hk:Ok S cx g s J st){k:Nat}{x:AO}(e:rd S.toCore st k=some x):At S J s k x:=by
 obtain⟨m,news,F,N,R,hl⟩:=hk.fr
 unfold rd at e
 cases z:S.hobj k with
 |none=>
  rw[z] at e
  obtain⟨a,o,h1,h2,h3,h4⟩:=ER.find R.er e
  exact⟨a,o,h1,(N _ h2).1,h3,h4⟩
 |some y=>
  rw[z] at e
  cases (e)
  obtain⟨h1,h2,o,h3,h4⟩:=C.S.ho k x z
  exact⟨k,o,R.hd k h1,F.keep _ _ (hk.inG C _ _ h3),h4 (fun ι=>S.FN k) J R.hd,h2⟩
theorem dU(hk:Ok S cx g s J st){k:Nat}{x:AO}(e:lk st.led k=some x):At S J s k x:=by
 obtain⟨m,news,F,N,R,hl⟩:=hk.fr
 obtain⟨a,o,h1,h2,h3,h4⟩:=ER.find R.er e
 exact⟨a,o,h1,(N _ h2).1,h3,h4⟩
inductive AtA(S:Sta)(J:Rho)(s:Shared)(k:Nat)(x:AO)(a:Addr):Prop
 |mk (o:Obj) (e:s.heap.get? a=some o) (r:OR S.prog S.w S.nm S.dfi (fun ι=>S.FN k) J x o) (n:(a==sysModules)=false):AtA S J s k x a
theorem At.on{k:Nat}{x:AO}{a:Addr}(h:At S J s k x)(hk:J k=some a):AtA S J s k x a:=by
 obtain⟨b,o,h1,h2,h3,h4⟩:=h
 cases bd (h1.symm.trans hk)
 exact⟨o,h2,h3,h4⟩
theorem bN(C:CxOk S cx sc)(hk:Ok S cx g s J st){k:Nat}{x:AO}{a:Addr}(e:rd S.toCore st k=some x)(h:J k=some a):AtA S J s k x a:=(tn C hk e).on h
theorem qi(hk:Ok S cx g s J st){k:Nat}{x:AO}{a:Addr}(e:lk st.led k=some x)(h:J k=some a):AtA S J s k x a:=(dU hk e).on h
theorem lh(hk:Ok S cx g s J st){k C d:Nat}{es:List (Nat×Value)}(e1:lk st.led k=some (.inst C d))(e2:lk st.led d=some (.adict es)):
  ∃a dx ents n,J k=some a/\J d=some dx/\W.InstAt s.heap a (instObj C dx) C (some (dictOf ents n))/\All2 (DR S.nm J) es ents:=by
 obtain⟨a,o,h1,h2,h3,h4⟩:=dU hk e1
 obtain⟨b,o',h1',h2',h3',h4'⟩:=dU hk e2
 obtain⟨dx,hd,rfl⟩:=h3
 obtain⟨ents,n,rfl,hes⟩:=h3'
 rw[h1'] at hd
 cases hd
 exact⟨a,b,ents,n,h1,h1',⟨h2,rfl,rfl,h2'⟩,hes⟩
noncomputable def mO(K:Frag)(C:Nat)(x:Str):Bool:=plainGet K C x&&hasDictIn K C&&(match findIn K (.ref C) x with|some a=>noGet K a|none=>false)
noncomputable def i9(K:Frag)(C:Nat)(x:Str):Bool:=(findIn K (.ref C) "__setattr__"==some (some (.builtin "object.__setattr__")))&&plainOver K C&&(takerIn K C x==some none)&&hasDictIn K C
noncomputable def oz(K:Frag)(C:Nat)(x:Str)(f:Nat):Bool:=plainGet K C x&&(findIn K (.ref C) x==some (some (.ref f)))&&isFn K (.ref f)&&keepIn K (.ref f)
theorem rk(C:CxOk S cx sc)(hk:Ok S cx g s J st){k c d i:Nat}{es:List (Nat×Value)}{v x:Value}{b:Bool}(hx:VR J (.ref k) x)(e1:lk st.led k=some (.inst c d))(e2:lk st.led d=some (.adict es))(e3:lk es i=some v)(e4:gk v=true)
  (hc:mO S.K c (S.nm i)=true) (hP:Post S cx VR Q E J g s (some (.ok v,st))):fm (model S.prog S.w) cx.A (getAttr x (S.nm i) b) Q E s:=by
 obtain⟨a,rfl⟩:∃a,x= .ref a:=let⟨a,_,e⟩:=hx;⟨a,e⟩
 obtain⟨a',hka,hxa⟩:=hx
 cases hxa
 obtain⟨m,news,F,N,R,hl⟩:=hk.fr
 obtain⟨a2,dx,ents,n,h1,h2,I,hes⟩:=lh hk e1 e2
 rw[hka] at h1
 cases h1
 obtain⟨v',hg,hv⟩:=dE C hes e3
 unfold mO at hc
 rw[db,db] at hc
 cases hf:findIn S.K (.ref c) (S.nm i) with
 |none=>rw[hf] at hc;exact absurd hc.2 HV
 |some at_=>
  rw[hf] at hc
  exact get_own F (hk.inG C) I hc.1.1 hc.1.2 hf hc.2 hg (ke hv e4) (hP.ret hk hv _)
theorem rc(C:CxOk S cx sc)(hk:Ok S cx g s J st){k c d i:Nat}{es:List (Nat×Value)}{v v' x:Value}(hx:VR J (.ref k) x)(hv:VR J v v')(e1:lk st.led k=some (.inst c d))(e2:lk st.led d=some (.adict es))(e3:gy es.length 900=true)
  (hc:i9 S.K c (S.nm i)=true) (hP:Post S cx VU QU E J g s (some (.ok (),{st with led:=up st.led d (.adict (put es i v))}))):fm (model S.prog S.w) cx.A (setAttr x (S.nm i) v') QU E s:=by
 obtain⟨a',hka,rfl⟩:=hx
 obtain⟨m,news,F,N,R,hl⟩:=hk.fr
 obtain⟨a2,dx,ents,n,h1,h2,I,hes⟩:=lh hk e1 e2
 rw[hka] at h1
 cases h1
 have hg:(getL (S.nm i) ents).isSome=true:=by
  cases z:lk es i with
  |some v=>obtain⟨v',h,_⟩:=dE C hes z;rw[h];rfl
  |none=>rw[hM C hes z];rfl
 unfold i9 at hc
 rw[db,db,db,beq_iff_eq,beq_iff_eq] at hc
 obtain⟨o3,g2,g3,g4⟩:=ER.findA R.er e2 h2
 have g2':=(N _ g2).1
 have:o3=dictOf ents n:=by
  have:=I.dict
  rw[show(instObj c dx).dict=some dx from rfl] at this
  have t:s.heap.get? dx=some (dictOf ents n):=this
  rw[g2'] at t
  exact bd t
 subst this
 have hnew:=qV C (J:=J) (i:=i) (hs:=Hl S.w.params (S.nm i)) (t:=s.toks+1) hv hes
 obtain⟨news',U,hr,hm⟩:=ER.upd R.er R.nd e2 h2 g2 (x':= .adict (put es i v)) (o':=dictOf (putL (S.nm i) (Hl S.w.params (S.nm i)) (.str (S.nm i) (s.toks+1)) v' ents) (putN (S.nm i) ents n)) ⟨_,_,rfl,hnew⟩
 refine set_dict F (hk.inG C) N I rfl hc.1.1.1 hc.1.1.2 hc.1.2 hc.2 hg rfl U ?_ fun h' F' N'=>?_
 ·rw[<-hnew.length]
  have:=lM es i v
  have:=al e3
  omega
 ·exact hP _ _ _ _ (hk.chg F' N' R hl hr hm) trivial
noncomputable def D4:Expr->Nat
 | .Slice .. =>1
 | .Starred .. =>2
 | .Call .. =>3
 | .Attribute .. =>4
 | .ListComp .. =>5
 | .SetComp .. =>5
 | .DictComp .. =>5
 |_=>0
noncomputable def cJ(x:Expr):Bool:=!Nat.beq (D4 x) 1
theorem jB{slice:Expr}(h:cJ slice=true)(o i:Value):subscripted slice false o i=operate [o,i] (getItem o i):=by
 cases slice<;>first|rfl|exact dL h|cases h
noncomputable def yz(vs:List Value)(k:Int):Option Value:=(seqIndex? k vs.length).bind fun j=>vs[j]?
theorem cW{h:Heap}{a:Addr}{vs:List Value}(e:h.get? a=some (zO vs)):IsTup h a vs.toArray:=News.isTup (h₀:=⟨#[],{}⟩) (L:=a+1) (news:= [(a,zO vs)]) (fun q hq=>by rcases o0.mp hq with rfl;exact⟨e,Hg (Db _),rfl⟩) (.head _)
theorem uO(C:CxOk S cx sc)(hk:Ok S cx g s J st){k:Nat}{i:Int}{t:Tok}{vs:List Value}{v x y:Value}(hx:VR J (.ref k) x)(hy:VR J (.int i t) y)(e1:rd S.toCore st k=some (.tup vs))(e2:yz vs i=some v)(hlo: -(2^63)<=i)(hhi:i<2^63)
  (hP:Post S cx VR Q E J g s (some (.ok v,st))):fm (model S.prog S.w) cx.A (getItem x y) Q E s/\s.TypeIs x "tuple":=by
 obtain⟨a',hka,rfl⟩:=hx
 obtain⟨u,rfl⟩:=hy
 obtain⟨o,h2,⟨vs',rfl,hvs⟩,h4⟩:=bN C hk e1 hka
 unfold yz at e2
 obtain⟨j,hj,hv⟩:=Hq.mp e2
 obtain⟨v',hv',hr⟩:=hvs.get hv
 have T:=cW h2
 exact⟨getItem_tuple T hlo hhi (by rw[pr,<-hvs.length];exact hj) (by simpa using hv') (hP.ret0 hk hr),T.typeIs⟩
theorem ri(C:CxOk S cx sc)(hk:Ok S cx g s J st){k:Nat}{i:Int}{t:Tok}{vs:List Value}{v x y:Value}(hx:VR J (.ref k) x)(hy:VR J (.int i t) y)(e1:rd S.toCore st k=some (.lst vs))(e2:yz vs i=some v)(hlo: -(2^63)<=i)(hhi:i<2^63)
  (hP:Post S cx VR Q E J g s (some (.ok v,st))):fm (model S.prog S.w) cx.A (getItem x y) Q E s/\s.TypeIs x "list":=by
 obtain⟨a',hka,rfl⟩:=hx
 obtain⟨u,rfl⟩:=hy
 obtain⟨o,h2,⟨vs',n,rfl,hvs⟩,h4⟩:=bN C hk e1 hka
 unfold yz at e2
 obtain⟨j,hj,hv⟩:=Hq.mp e2
 obtain⟨v',hv',hr⟩:=hvs.get hv
 have T:s.heap.IsList a' vs'.toArray:=⟨_,h2,rfl,n,rfl⟩
 refine⟨?_,T.typeIs⟩
 rw[hvs.length] at hj
 by_cases h0:i<0
 ·exact kde_getNeg T h0 hlo hj hv' (hP.ret0 hk hr)
 ·refine wpAny_getItem_list T (by omega) hhi ?_ (hP.ret0 hk hr)
  unfold seqIndex? at hj
  rw[if_neg h0] at hj
  dsimp only at hj
  split at hj
  ·cases hj;simpa using hv'
  ·cases hj
noncomputable def oW(vs:List Value)(k:Int)(v:Value):Option (List Value):=(seqIndex? k vs.length).bind fun j=>Jn vs j v
theorem pI{vs vs':List Value}{j:Nat}{v v':Value}{q:List Value}(x:All2 (VR J) vs vs')(hv:VR J v v'):Jn vs j v=some q->∃q',Jn vs' j v'=some q'/\All2 (VR J) q q':=by
 induction x generalizing j q with
 |nil=>cases j<;>exact fun e=>bn rfl (heq_of_eq e)
 | @cons p b l m h r ih=>
  cases j with
  |zero=>intro e;cases e;exact⟨_,rfl,.cons hv r⟩
  |succ j=>
   intro e
   unfold Jn at e
   cases z:Jn l j v with
   |none=>rw[z] at e;cases e
   |some y=>
    rw[z] at e
    cases e
    obtain⟨q',h1,h2⟩:=ih z
    refine⟨_::q',?_,.cons h h2⟩
    unfold Jn
    rw[h1]
theorem rY(C:CxOk S cx sc)(hk:Ok S cx g s J st){k:Nat}{i:Int}{t:Tok}{vs q:List Value}{v v' x y:Value}(hx:VR J (.ref k) x)(hy:VR J (.int i t) y)(hv:VR J v v')(e1:lk st.led k=some (.lst vs))(e2:oW vs i v=some q)(hlo: -(2^63)<=i)(hhi:i<2^63)
  (hP:Post S cx VU QU E J g s (some (.ok (),{st with led:=up st.led k (.lst q)}))):fm (model S.prog S.w) cx.A (setItem x y v') QU E s:=by
 obtain⟨a',hka,rfl⟩:=hx
 obtain⟨u,rfl⟩:=hy
 obtain⟨m,news,F,N,R,hl⟩:=hk.fr
 obtain⟨o,h2,⟨vs',n,rfl,hvs⟩,h4⟩:=ER.findA R.er e1 hka
 unfold oW at e2
 obtain⟨j,hj,hq⟩:=Hq.mp e2
 obtain⟨q',hq',hqs⟩:=pI hvs hv hq
 obtain⟨news',U,hr,hm⟩:=ER.upd R.er R.nd e1 hka h2 (x':= .lst q) (o':=I8 q'.toArray n) ⟨_,_,rfl,hqs⟩
 rw[hvs.length] at hj
 by_cases h0:i<0
 ·exact ki_setNeg F N h0 hlo (by simpa using hj) (by simpa using hq') U fun h' F' N'=>hP _ _ _ _ (hk.chg (tk:=s.toks) F' N' R hl hr hm) trivial
 ·refine ki_set F N (by omega) hhi ?_ U fun h' F' N'=>hP _ _ _ _ (hk.chg (tk:=s.toks) F' N' R hl hr hm) trivial
  unfold seqIndex? at hj
  rw[if_neg h0] at hj
  dsimp only at hj
  split at hj
  ·cases hj;simpa using hq'
  ·cases hj
theorem nJ(C:CxOk S cx sc)(hk:Ok S cx g s J st){k:Nat}{vs:List Value}{v v' x:Value}(hx:VR J (.ref k) x)(hv:VR J v v')(e1:lk st.led k=some (.lst vs))(e2:gy vs.length 900=true)
  (hP:Post S cx VR Q E J g s (some (.ok .none,{st with led:=up st.led k (.lst (vs++ [v]))}))):fm (model S.prog S.w) cx.A (call (.builtin "list.append") [x,v']) Q E s:=by
 obtain⟨a',hka,rfl⟩:=hx
 obtain⟨m,news,F,N,R,hl⟩:=hk.fr
 obtain⟨o,h2,⟨vs',n,rfl,hvs⟩,h4⟩:=ER.findA R.er e1 hka
 obtain⟨news',U,hr,hm⟩:=ER.upd R.er R.nd e1 hka h2 (x':= .lst (vs++ [v])) (o':=I8 (vs'.toArray.push v') (n+1)) ⟨vs'++ [v'],n+1,by simp,hvs.append (.cons hv .nil)⟩
 exact append_K F N U (fun h' F' N'=>hP _ _ _ _ (hk.chg (tk:=s.toks) F' N' R hl hr hm) rfl) (by rw[pr,<-hvs.length];exact na (al e2) (by decide))
theorem cn(C:CxOk S cx sc)(hk:Ok S cx g s J st){k:Nat}{vs:List Value}{x:Value}{name:Str}{id:String}{pl:Jv Bool}{QM:Value×List Value->Shared->Prop}(hx:VR J (.ref k) x)(e1:lk st.led k=some (.lst vs))(sl:Slot "list" name id)(ty:typeOf (.builtin id)=pure (.type "method_descriptor"))
  (h:QM (.builtin id,[x]) s):fm (model S.prog S.w) cx.A (getMethod x name pl) QM E s:=by
 obtain⟨a',hka,rfl⟩:=hx
 obtain⟨m,news,F,N,R,hl⟩:=hk.fr
 obtain⟨o,h2,⟨vs',n,rfl,hvs⟩,h4⟩:=ER.findA R.er e1 hka
 exact kl_method N h2 sl ty h
noncomputable def dq:List Value->Option (List Value×Value)
 | []=>none
 |x::r=>match dq r with
  |some (p,y)=>some (x::p,y)
  |none=>some ([],x)
theorem iD{x:Value}{r:List Value}:dq (x::r)=match dq r with
  |some (p,y)=>some (x::p,y)
  |none=>some ([],x):=rfl
theorem rK{vs vs':List Value}{p:List Value}{y:Value}(x:All2 (VR J) vs vs'):dq vs=some (p,y)->∃p' y',kl_last vs'=some (p',y')/\All2 (VR J) p p'/\VR J y y':=by
 induction x generalizing p y with
 |nil=>exact fun e=>bn rfl (heq_of_eq e)
 | @cons v v' l m h r ih=>
  intro e
  rw[iD] at e
  unfold kl_last
  cases z:dq l with
  |some w=>
   obtain⟨p1,y1⟩:=w
   rw[z] at e
   cases e
   obtain⟨p',y',h1,h2,h3⟩:=ih z
   rw[h1]
   exact⟨_,_,rfl,.cons h h2,h3⟩
  |none=>
   rw[z] at e
   cases e
   have:l= []:=by
    cases l with
    |nil=>rfl
    |cons a b=>
     rw[iD] at z
     cases q:dq b with
     |none=>rw[q] at z;cases z
     |some w=>rw[q] at z;cases z
   subst this
   have:=r.nil_r
   subst this
   exact⟨[],v',rfl,.nil,h⟩
theorem CU(C:CxOk S cx sc)(hk:Ok S cx g s J st){k:Nat}{vs p:List Value}{y x:Value}(hx:VR J (.ref k) x)(e1:lk st.led k=some (.lst vs))(e2:dq vs=some (p,y))(e3:gy vs.length 900=true)
  (hP:Post S cx VR Q E J g s (some (.ok y,{st with led:=up st.led k (.lst p)}))):fm (model S.prog S.w) cx.A (call (.builtin "list.pop") [x]) Q E s:=by
 obtain⟨a',hka,rfl⟩:=hx
 obtain⟨m,news,F,N,R,hl⟩:=hk.fr
 obtain⟨o,h2,⟨vs',n,rfl,hvs⟩,h4⟩:=ER.findA R.er e1 hka
 obtain⟨p',y',h5,h6,h7⟩:=rK hvs e2
 obtain⟨news',U,hr,hm⟩:=ER.upd R.er R.nd e1 hka h2 (x':= .lst p) (o':=I8 p'.toArray (n+1)) ⟨_,_,rfl,h6⟩
 exact kl_pop F N (by simpa using h5) U (by rw[show vs'.toArray.toList=vs' from rfl,<-hvs.length];exact na (al e3) (by decide)) (fun h' F' N'=>hP _ _ _ _ (hk.chg (tk:=s.toks) F' N' R hl hr hm) h7)
end
noncomputable def uq:List Nat->List Nat->Bool
 | [],[]=>true
 |a::l,b::m=>match av a b with
  |true=>uq l m
  |false=>false
 |_,_=>false
theorem ry(a b:Nat)(l m:List Nat):uq (a::l) (b::m)=match av a b with
 |true=>uq l m
 |false=>false:=rfl
theorem um{l m:List Nat}:uq l m=true↔l=m:=by
 induction l generalizing m with
 |nil=>cases m with
  |nil=>exact⟨fun ι=>rfl,fun ι=>rfl⟩
  |cons b m=>exact⟨fun h=>dL h,fun h=>nomatch h⟩
 |cons a l ih=>cases m with
  |nil=>exact⟨fun h=>dL h,fun h=>nomatch h⟩
  |cons b m=>
   rw[ry]
   cases h:av a b with
   |true=>rw[aH h];exact⟨fun e=>congrArg _ (ih.mp e),fun e=>ih.mpr (IY e).2⟩
   |false=>exact⟨fun e=>dL e,fun e=>absurd (IY e).1 (aY h)⟩
noncomputable def seq(a b:Str):Bool:=uq a.cps.toList b.cps.toList
theorem seq_iff{a b:Str}:seq a b=true↔a=b:=by
 unfold seq
 rw[um]
 constructor
 ·intro h
  cases a;cases b
  exact congrArg Str.mk (Array.toList_inj.mp h)
 ·intro h;rw[h]
theorem dO(a b:Str):seq a b=decide (a=b):=by
 cases h:seq a b with
 |true=>exact(decide_eq_true (seq_iff.mp h)).symm
 |false=>exact(decide_eq_false fun e=>by rw[seq_iff.mpr e] at h;cases h).symm
theorem VR.bool_{J:Rho}(b:Bool):VR J (.bool b) (.bool b):=rfl
theorem VR.int_{J:Rho}(i:Int)(t u:Tok):VR J (.int i t) (.int i u):=⟨u,rfl⟩
theorem VR.str_{J:Rho}(i:Str)(t u:Tok):VR J (.str i t) (.str i u):=⟨u,rfl⟩
noncomputable def iF{α:Type}:List (Str×α)->Str->Option α
 | [],_=>none
 |p::r,k=>match seq p.1 k with
  |true=>some p.2
  |false=>iF r k
noncomputable def lG{α:Type}:List (Str×α)->Str->α->List (Str×α)
 | [],k,v=> [(k,v)]
 |p::r,k,v=>match seq p.1 k with
  |true=>(p.1,v)::r
  |false=>p::lG r k v
theorem kL{α:Type}(p:Str×α)(r:List (Str×α))(k:Str)(v:α):lG (p::r) k v=match seq p.1 k with
 |true=>(p.1,v)::r
 |false=>p::lG r k v:=rfl
theorem du{α:Type}(p:Str×α)(r:List (Str×α))(k:Str):iF (p::r) k=match seq p.1 k with
 |true=>some p.2
 |false=>iF r k:=rfl
theorem fp{α:Type} [DecidableEq α](p:α×Value)(r:List (α×Value))(k:α):valueAt (p::r) k=if p.1=k then some p.2 else valueAt r k:=by
 unfold valueAt
 rw[ID]
 by_cases h:p.1=k
 ·rw[if_pos h,decide_eq_true h];rfl
 ·rw[if_neg h,decide_eq_false h]
section
variable{J:Rho}
theorem fy{es:List (Str×Value)}{kvs:List (Str×Value)}{k:Str}{v:Value}(x:All2 (SR J) es kvs):iF es k=some v->∃v',valueAt kvs k=some v'/\VR J v v':=by
 induction x with
 |nil=>exact fun e=>bn rfl (heq_of_eq e)
 | @cons p q l m h r ih=>
  intro e
  rw[du] at e
  rw[fp,h.1]
  by_cases e':p.1=k
  ·rw[seq_iff.mpr e'] at e
   cases e
   rw[if_pos e']
   exact⟨_,rfl,h.2⟩
  ·have:seq p.1 k=false:=by rw[dO];exact decide_eq_false e'
   rw[this] at e
   rw[if_neg e']
   exact ih e
theorem mq{es:List (Str×Value)}{kvs:List (Str×Value)}{k:Str}(x:All2 (SR J) es kvs):iF es k=none->valueAt kvs k=none:=by
 induction x with
 |nil=>exact fun ι=>rfl
 | @cons p q l m h r ih=>
  intro e
  rw[du] at e
  rw[fp,h.1]
  by_cases e':p.1=k
  ·rw[seq_iff.mpr e'] at e;cases e
  ·have:seq p.1 k=false:=by rw[dO];exact decide_eq_false e'
   rw[this] at e
   rw[if_neg e']
   exact ih e
theorem jE{es:List (Str×Value)}{kvs:List (Str×Value)}{k:Str}(h:All2 (SR J) es kvs):(valueAt kvs k).isSome=(iF es k).isSome:=by
 cases e:iF es k with
 |none=>rw[mq h e]
 |some v=>obtain⟨v',h',_⟩:=fy h e;rw[h'];rfl
theorem tT{es:List (Str×Value)}{kvs:List (Str×Value)}{k:Str}{v v':Value}(x:All2 (SR J) es kvs)(hv:VR J v v'):iF es k=none->All2 (SR J) (lG es k v) (kvs++ [(k,v')]):=by
 induction x with
 |nil=>exact fun ι=> .cons ⟨rfl,hv⟩ .nil
 | @cons p q l m h r ih=>
  intro e
  rw[du] at e
  rw[kL]
  cases e':seq p.1 k with
  |true=>rw[e'] at e;cases e
  |false=>rw[e'] at e;exact .cons h (ih e)
theorem tS{es:List (Str×Value)}{kvs:List (Str×Value)}{k:Str}{v v' w:Value}(x:All2 (SR J) es kvs)(nd:(es.map (·.1)).Nodup)(hv:VR J v v'):iF es k=some w->All2 (SR J) (lG es k v) (kvs.map fun kv=>if kv.1=k then(kv.1,v') else kv):=by
 induction x with
 |nil=>exact fun e=>bn rfl (heq_of_eq e)
 | @cons p q l m h r ih=>
  intro e
  rw[du] at e
  rw[kL]
  rw[mo,sB] at nd
  rw[mo,h.1]
  cases e':seq p.1 k with
  |true=>
   have hk:=seq_iff.mp e'
   rw[if_pos hk]
   refine .cons ⟨rfl,hv⟩ ?_
   have hid:∀z∈m,z.1≠k:=fun z hz ez=>nd.1 (by
    obtain⟨y,hy,hr⟩:=r.memR hz
    rw[hk,<-ez,hr.1]
    exact nw hy)
   have:m.map (fun kv=>if kv.1=k then(kv.1,v') else kv)=m:=by
    clear ih r nd h e
    induction m with
    |nil=>rfl
    |cons z m ih=>rw[mo,if_neg (hid z (.head _)),ih fun y hy=>hid y (.tail _ hy)]
   rw[this]
   exact r
  |false=>
   rw[e'] at e
   rw[if_neg (fun e3=>by rw[seq_iff.mpr e3] at e';cases e')]
   exact .cons ⟨h.1,h.2⟩ (ih nd.2 e)
theorem pk{es:List (Str×Value)}{kvs:List (Str×Value)}{k:Str}(x:All2 (SR J) es kvs):kvs.any (fun kv=>decide (kv.1=k))=(iF es k).isSome:=by
 induction x with
 |nil=>rfl
 | @cons p q l m h r ih=>
  rw[JJ,ih,h.1,du,<-dO]
  cases seq p.1 k<;>simp
end
noncomputable def eu:List (Str×Value)->Bool
 | []=>true
 |p::r=>(iF r p.1).isNone&&eu r
theorem fz:∀{l:List (Str×Value)} {k:Str},iF l k=none->k∉l.map (·.1)
 | [],_,_,h=>nomatch h
 |p::r,k,e,h=>by
  have e:(match seq p.1 k with|true=>some p.2|false=>iF r k)=none:=e
  cases e':seq p.1 k with
  |true=>rw[e'] at e;cases e
  |false=>
   rw[e'] at e
   rcases eq.mp h with rfl|h
   ·rw[seq_iff.mpr rfl] at e';cases e'
   ·exact fz e h
theorem gf:∀{l:List (Str×Value)},eu l=true->(l.map (·.1)).Nodup
 | [],_=> .nil
 |p::r,h=>by
  have h:((iF r p.1).isNone&&eu r)=true:=h
  rw[db,pt] at h
  rw[mo,sB]
  exact⟨fz h.1,gf h.2⟩
section
variable{S:Sta}{cx:Cx}{sc:Scope}{st:St}
variable{J:Rho}{g:Heap}{s:Shared}{Q:Value->Shared->Prop}{E:Value->Shared->Prop}{QU:Unit->Shared->Prop}{QB:Bool->Shared->Prop}
theorem rL{es:List (Str×Value)}{kvs:List (Str×Value)}{k:Str}{v v':Value}(h:All2 (SR J) es kvs)(nd:eu es=true)(hv:VR J v v'):All2 (SR J) (lG es k v) (stored kvs k v'):=by
 unfold stored
 rw[pk h]
 cases e:iF es k with
 |none=>exact tT h hv e
 |some w=>exact tS h (gf nd) hv e
theorem gU(hk:Ok S cx g s J st){k:Nat}{es:List (Str×Value)}(e1:lk st.led k=some (.sdict es)):
  ∃a o kvs m news,J k=some a/\Fr g cx.L s.heap m/\News g cx.L s.heap news/\(a,o)∈news/\o.IsDictOf (tz S.prog S.w) kvs/\All2 (SR J) es kvs/\(a==sysModules)=false:=by
 obtain⟨m,news,F,N,R,hl⟩:=hk.fr
 obtain⟨a,o,h1,h2,⟨kvs,hd,hr⟩,h4⟩:=ER.find R.er e1
 exact⟨a,o,kvs,m,news,h1,F,N,h2,hd,hr,h4⟩
theorem rj(hk:Ok S cx g s J st){k:Nat}{i:Str}{t:Tok}{es:List (Str×Value)}{v x y:Value}(hx:VR J (.ref k) x)(hy:VR J (.str i t) y)(e1:lk st.led k=some (.sdict es))(e2:iF es i=some v)
  (hP:Post S cx VR Q E J g s (some (.ok v,st))):fm (model S.prog S.w) cx.A (getItem x y) Q E s/\s.TypeIs x "dict":=by
 obtain⟨a',hka,rfl⟩:=hx
 obtain⟨u,rfl⟩:=hy
 obtain⟨a,o,kvs,m,news,h1,F,N,h2,hd,hr,h4⟩:=gU hk e1
 rw[hka] at h1
 cases h1
 obtain⟨v',h5,h6⟩:=fy hr e2
 exact⟨Ly N h2 hd (Ix _ _ _ _) h5 (hP.ret hk h6 _),(K3 N h2 hd).typeIs⟩
theorem om(hk:Ok S cx g s J st){k:Nat}{i:Str}{t:Tok}{es:List (Str×Value)}{v x y:Value}(hx:VR J (.ref k) x)(hy:VR J (.str i t) y)(e1:lk st.led k=some (.pdict es))(e2:iF es i=some v)
  (hP:Post S cx VR Q E J g s (some (.ok v,st))):fm (model S.prog S.w) cx.A (getItem x y) Q E s/\s.TypeIs x "dict":=by
 obtain⟨a',hka,rfl⟩:=hx
 obtain⟨u,rfl⟩:=hy
 obtain⟨m,news,F,N,R,hl⟩:=hk.fr
 obtain⟨o,h2,⟨_,kvs,hd,hr⟩,h4⟩:=ER.findA R.er e1 hka
 obtain⟨v',h5,h6⟩:=fy hr e2
 exact⟨Ly N h2 hd (Ix _ _ _ _) h5 (hP.ret hk h6 _),(K3 N h2 hd).typeIs⟩
theorem uM(hk:Ok S cx g s J st){k:Nat}{i:Str}{t:Tok}{es:List (Str×Value)}{x y:Value}(hx:VR J (.ref k) x)(hy:VR J (.str i t) y)(e1:lk st.led k=some (.sdict es))
  (hP:Post S cx VR Q E J g s (some (.ok (.bool (iF es i).isSome),st))):fm (model S.prog S.w) cx.A (compareOp .In y x) Q E s:=by
 obtain⟨a',hka,rfl⟩:=hx
 obtain⟨u,rfl⟩:=hy
 obtain⟨a,o,kvs,m,news,h1,F,N,h2,hd,hr,h4⟩:=gU hk e1
 rw[hka] at h1
 cases h1
 exact kda_in N h2 hd h4 (Ix _ _ _ _) _ (jE hr) (hP.ret hk (VR.bool_ _) _)
theorem nG(hk:Ok S cx g s J st){k:Nat}{i:Str}{t:Tok}{es:List (Str×Value)}{x y:Value}(hx:VR J (.ref k) x)(hy:VR J (.str i t) y)(e1:lk st.led k=some (.sdict es))
  (hP:Post S cx VR Q E J g s (some (.ok (.bool (!(iF es i).isSome)),st))):fm (model S.prog S.w) cx.A (compareOp .NotIn y x) Q E s:=by
 obtain⟨a',hka,rfl⟩:=hx
 obtain⟨u,rfl⟩:=hy
 obtain⟨a,o,kvs,m,news,h1,F,N,h2,hd,hr,h4⟩:=gU hk e1
 rw[hka] at h1
 cases h1
 exact kdg_notin N h2 hd h4 (Ix _ _ _ _) _ (jE hr) (hP.ret hk (VR.bool_ _) _)
theorem rb(hk:Ok S cx g s J st){k:Nat}{i:Str}{t:Tok}{es:List (Str×Value)}{v v' x y:Value}(hx:VR J (.ref k) x)(hy:VR J (.str i t) y)(hv:VR J v v')(e1:lk st.led k=some (.sdict es))(e2:eu es=true)(e3:gy es.length 900=true)
  (hP:Post S cx VU QU E J g s (some (.ok (),{st with led:=up st.led k (.sdict (lG es i v))}))):fm (model S.prog S.w) cx.A (setItem x y v') QU E s:=by
 obtain⟨a',hka,rfl⟩:=hx
 obtain⟨u,rfl⟩:=hy
 obtain⟨m,news,F,N,R,hl⟩:=hk.fr
 obtain⟨o,h2,⟨kvs,hd,hr⟩,h4⟩:=ER.findA R.er e1 hka
 obtain⟨nf,U,M,G⟩:=ER.updF R.er R.nd e1 hka h2
 refine kda_set (knd:=tz S.prog S.w) F N U hd (Ix _ _ _ _) (by rw[<-hr.length];exact na (al e3) (by decide)) fun h' o' F' N' hd'=>?_
 exact hP _ _ _ _ (hk.chg F' N' R hl (G (.sdict (lG es i v)) o' ⟨_,hd',rL hr e2 hv⟩) (M o')) trivial
theorem rm(hk:Ok S cx g s J st){k:Nat}{i:Str}{t:Tok}{es:List (Str×Value)}{x y:Value}(hx:VR J (.ref k) x)(hy:VR J (.str i t) y)(e1:lk st.led k=some (.sdict es))
  (hP:Post S cx VR Q E J g s (some (.ok ((iF es i).getD .none),st))):fm (model S.prog S.w) cx.A (call (.builtin "dict.get") [x,y]) Q E s:=by
 obtain⟨a',hka,rfl⟩:=hx
 obtain⟨u,rfl⟩:=hy
 obtain⟨a,o,kvs,m,news,h1,F,N,h2,hd,hr,h4⟩:=gU hk e1
 rw[hka] at h1
 cases h1
 refine kdg_get1 N h2 hd h4 (Ix _ _ _ _) _ rfl ?_
 cases e:iF es i with
 |none=>rw[e] at hP;rw[mq hr e];exact hP.ret hk rfl _
 |some v=>rw[e] at hP;obtain⟨v',h5,h6⟩:=fy hr e;rw[h5];exact hP.ret hk h6 _
theorem lN(hk:Ok S cx g s J st){k:Nat}{es:List (Str×Value)}{x:Value}{pl:Jv Bool}{QM:Value×List Value->Shared->Prop}(hx:VR J (.ref k) x)(e1:lk st.led k=some (.sdict es))(h:QM (.builtin "dict.get",[x]) s):
  fm (model S.prog S.w) cx.A (getMethod x "get" pl) QM E s:=by
 obtain⟨a',hka,rfl⟩:=hx
 obtain⟨a,o,kvs,m,news,h1,F,N,h2,hd,hr,h4⟩:=gU hk e1
 rw[hka] at h1
 cases h1
 exact kdg_method N h2 hd h
theorem og{value slice:Expr}{x y:Value}{T id:String}(h:fm (model S.prog S.w) cx.A (getItem x y) Q E s/\s.TypeIs x T)(hl:typeLookup (.type T) "__getitem__"=pure (some (.builtin id)))(hs:cJ slice=true):
  fm (model S.prog S.w) cx.A (subscriptTail value slice x y) Q E s:=tail_any h.2 hl h.1 (jB hs _ _)
end
noncomputable def ay(n:Int):Bool:=match n with
 | .ofNat m=>gy m 1000
 | .negSucc m=>gy m 1000
theorem bb{n:Int}(h:ay n=true): -1001<=n/\n<=1000:=by
 cases n with
 |ofNat m=>have:=al h;rw[Int.ofNat_eq_natCast];constructor<;>omega
 |negSucc m=>have:=al h;constructor<;>omega
noncomputable def oget{α β:Type}(o:Option α)(f:α->Option β):Option β:=match o with
 |some a=>f a
 |none=>none
noncomputable def grd{β:Type}(b:Bool)(o:Option β):Option β:=match b with
 |true=>o
 |false=>none
inductive Og{α β:Type}(o:Option α)(f:α->Option β)(b:β):Prop
 |mk (a:α) (e:o=some a) (h:f a=some b):Og o f b
theorem aC{α β:Type}{o:Option α}{f:α->Option β}{b:β}(h:oget o f=some b):Og o f b:=by
 cases o with
 |none=>cases h
 |some a=>exact⟨a,rfl,h⟩
theorem aM{β:Type}{c:Bool}{o:Option β}{b:β}(h:grd c o=some b):c=true/\o=some b:=by
 cases c with
 |false=>cases h
 |true=>exact⟨rfl,h⟩
noncomputable def fv:Value->Option Str
 | .str x _=>some x
 |_=>none
noncomputable def de:Value->Option Int
 | .int x _=>some x
 |_=>none
theorem dK{v:Value}{k:Str}(h:fv v=some k):∃t,v= .str k t:=by cases v<;>first|exact bn rfl (heq_of_eq h)|(cases h;exact⟨_,rfl⟩)
theorem cB{v:Value}{k:Int}(h:de v=some k):∃t,v= .int k t:=by cases v<;>first|exact bn rfl (heq_of_eq h)|(cases h;exact⟨_,rfl⟩)
noncomputable def oX:AO->Option (Bool×List Value)
 | .lst vs=>some (true,vs)
 | .tup vs=>some (false,vs)
 |_=>none
inductive SeqD:AO->Bool×List Value->Prop
 |lst (vs:List Value):SeqD (.lst vs) (true,vs)
 |tup (vs:List Value):SeqD (.tup vs) (false,vs)
theorem dP{x:AO}{p:Bool×List Value}(e:oX x=some p):SeqD x p:=by
 cases x with
 |lst vs=>cases e;exact .lst vs
 |tup vs=>cases e;exact .tup vs
 |_=>exact bn rfl (heq_of_eq e)
noncomputable def vz{α β:Type}(o:Option α)(f:α->Option β)(d:Option β):Option β:=match o with
 |some a=>f a
 |none=>d
theorem dR{α β:Type}{o:Option α}{f:α->Option β}{d:Option β}{b:β}(h:vz o f d=some b):Og o f b\/(o=none/\d=some b):=by
 cases o with
 |none=>exact .inr ⟨rfl,h⟩
 |some a=>exact .inl ⟨a,rfl,h⟩
noncomputable def lg(a b:Value):Option (Int×Int):=oget (de a) fun x=>oget (de b) fun y=>some (x,y)
noncomputable def zT(a b:Value):Option (Str×Str):=oget (fv a) fun x=>oget (fv b) fun y=>some (x,y)
noncomputable def Be(a b:Value):Option (Str×Int):=oget (fv a) fun x=>oget (de b) fun y=>some (x,y)
inductive Int2(x y:Value)(p:Int×Int):Prop
 |mk (t u:Tok) (h1:x= .int p.1 t) (h2:y= .int p.2 u):Int2 x y p
inductive Str2(x y:Value)(p:Str×Str):Prop
 |mk (t u:Tok) (h1:x= .str p.1 t) (h2:y= .str p.2 u):Str2 x y p
inductive Sti2(x y:Value)(p:Str×Int):Prop
 |mk (t u:Tok) (h1:x= .str p.1 t) (h2:y= .int p.2 u):Sti2 x y p
theorem gN{J:Rho}{a x:Value}{n:Int}(h:de a=some n)(hx:VR J a x):∃t,x= .int n t:=by
 obtain⟨t,rfl⟩:=cB h
 obtain⟨u,rfl⟩:=hx
 exact⟨u,rfl⟩
theorem dJ{J:Rho}{a x:Value}{n:Str}(h:fv a=some n)(hx:VR J a x):∃t,x= .str n t:=by
 obtain⟨t,rfl⟩:=dK h
 obtain⟨u,rfl⟩:=hx
 exact⟨u,rfl⟩
theorem bW{J:Rho}{a b x y:Value}{p:Int×Int}(h:lg a b=some p)(hx:VR J a x)(hy:VR J b y):Int2 x y p:=by
 obtain⟨i,h1,h⟩:h:=aC h
 obtain⟨j,h2,h⟩:h:=aC h
 cases h
 obtain⟨t,e1⟩:=gN h1 hx
 obtain⟨u,e2⟩:=gN h2 hy
 exact⟨t,u,e1,e2⟩
theorem qJ{J:Rho}{a b x y:Value}{p:Str×Str}(h:zT a b=some p)(hx:VR J a x)(hy:VR J b y):Str2 x y p:=by
 obtain⟨i,h1,h⟩:h:=aC h
 obtain⟨j,h2,h⟩:h:=aC h
 cases h
 obtain⟨t,e1⟩:=dJ h1 hx
 obtain⟨u,e2⟩:=dJ h2 hy
 exact⟨t,u,e1,e2⟩
theorem wO{J:Rho}{a b x y:Value}{p:Str×Int}(h:Be a b=some p)(hx:VR J a x)(hy:VR J b y):Sti2 x y p:=by
 obtain⟨i,h1,h⟩:h:=aC h
 obtain⟨j,h2,h⟩:h:=aC h
 cases h
 obtain⟨t,e1⟩:=dJ h1 hx
 obtain⟨u,e2⟩:=gN h2 hy
 exact⟨t,u,e1,e2⟩
noncomputable def Fc(a b:Value):Option Value:=vz (lg a b) (fun p=>some (.int (p.1+p.2) 0)) (oget (zT a b) fun p=>grd (gy (p.1.length+p.2.length) 4000) (some (.str (p.1++p.2) 0)))
noncomputable def Bd(a b:Value):Option Value:=oget (lg a b) fun p=>some (.int (p.1-p.2) 0)
noncomputable def Ci(a b:Value):Option Value:=oget (lg a b) fun p=>grd (ay p.1) (some (.int (p.1*p.2) 0))
noncomputable def En(a b:Value):Option Value:=vz (Ci a b) some (oget (Be a b) fun p=>grd (gy p.1.length 1000&&ay p.2) (some (.str (Txt.mul p.1 p.2) 0)))
noncomputable def Es(a b:Value):Option Value:=oget (lg a b) fun p=>grd (!Z.eqB p.2 0) (some (.int (p.1.fmod p.2) 0))
noncomputable def DY(a b:Value):Option Value:=oget (lg a b) fun p=>grd (!Z.eqB p.2 0) (grd (ay p.2) (some (.int (p.1.fdiv p.2) 0)))
noncomputable def yQ(op:Operator)(a b:Value):Option Value:=match op with
 | .Add=>Fc a b
 | .Sub=>Bd a b
 | .Mult=>En a b
 | .Mod=>Es a b
 | .FloorDiv=>DY a b
 |_=>none
noncomputable def xo(op:Operator)(a b:Value):Option Value:=match op with
 | .Add=>oget (lg a b) fun p=>some (.int (p.1+p.2) 0)
 | .Sub=>Bd a b
 | .Mult=>Ci a b
 |_=>none
noncomputable def isNone:Value->Option Bool
 | .none=>some true
 | .bool _| .int _ _| .str _ _| .ref _=>some false
 |_=>none
noncomputable def FY(a b:Value):Option Bool:=vz (lg a b) (fun p=>some (Io p.1 p.2)) (oget (zT a b) fun p=>some (seq p.1 p.2))
noncomputable def ltV(f:Int->Int->Bool)(a b:Value):Option Bool:=oget (lg a b) fun p=>some (f p.1 p.2)
noncomputable def FI(a b:Value):Option Bool:=match b with
 | .none=>isNone a
 |_=>none
noncomputable def Ai(op:CmpOp)(a b:Value):Option Bool:=match op with
 | .Eq=>FY a b
 | .NotEq=>(FY a b).map not
 | .Lt=>ltV KO a b
 | .LtE=>ltV Ij a b
 | .Gt=>ltV (fun x y=>KO y x) a b
 | .GtE=>ltV (fun x y=>Ij y x) a b
 | .Is=>FI a b
 | .IsNot=>(FI a b).map not
 |_=>none
inductive EqV(x y:Value)(c:Bool):Prop
 |int (p:Int×Int) (h:Int2 x y p) (e:c=Io p.1 p.2):EqV x y c
 |str (p:Str×Str) (h:Str2 x y p) (e:c=seq p.1 p.2):EqV x y c
theorem vQ{J:Rho}{a b x y:Value}{c:Bool}(h:FY a b=some c)(hx:VR J a x)(hy:VR J b y):EqV x y c:=by
 rcases dR h with⟨p,h,e⟩|⟨-,e⟩
 ·exact .int p (bW h hx hy) (bd e).symm
 ·obtain⟨p,h,e⟩:e:=aC e
  exact .str p (qJ h hx hy) (bd e).symm
theorem uy{a b:Value}{c:Bool}(h:FI a b=some c):b= .none/\isNone a=some c:=by
 cases b with
 |none=>exact⟨rfl,h⟩
 |_=>exact bn rfl (heq_of_eq h)
theorem fG{o:Option Bool}{c:Bool}(h:o.map not=some c):o=some (!c):=by
 cases o with
 |none=>cases h
 |some b=>cases h;cases b<;>rfl
theorem str_beq(x y:Str):(x==y)=seq x y:=by rw[dO];rfl
theorem io(x y:Int):(x==y)=Io x y:=by
 cases h:Io x y with
 |true=>exact beq_iff_eq.mpr ((Ii x y).mp h)
 |false=>exact beq_eq_false_iff_ne.mpr fun e=>by rw[(Ii x y).mpr e] at h;cases h
theorem qb(x y:Int):decide (x<y)=KO x y:=by
 cases h:KO x y with
 |true=>exact decide_eq_true ((KV x y).mp h)
 |false=>exact decide_eq_false fun e=>by rw[(KV x y).mpr e] at h;cases h
theorem qj(x y:Int):decide (x<=y)=Ij x y:=by
 cases h:Ij x y with
 |true=>exact decide_eq_true ((H4 x y).mp h)
 |false=>exact decide_eq_false fun e=>by rw[(H4 x y).mpr e] at h;cases h
theorem eG{x y:Int}(h:ay x=true):IntMulOk x y:=by
 have hx:=bb h
 unfold IntMulOk
 have h64:Ks x<=64:=intBits_le_64 (by omega) (by omega)
 have:decide (Ks x>shortFactorBits)=false:=decide_eq_false fun q=>by
  have:(64:Nat)<=shortFactorBits:=by decide
  omega
 rw[this]
 simp
section
variable{S:Sta}{cx:Cx}{sc:Scope}{st:St}
variable{J:Rho}{g:Heap}{s:Shared}{Q:Value->Shared->Prop}{E:Value->Shared->Prop}{QU:Unit->Shared->Prop}{QB:Bool->Shared->Prop}
theorem CY(hk:Ok S cx g s J st){op:Operator}{a b v x y:Value}(hx:VR J a x)(hy:VR J b y)(e:yQ op a b=some v)(hP:Post S cx VR Q E J g s (some (.ok v,st))):fm (model S.prog S.w) cx.A (binaryOp op x y) Q E s:=by
 cases op with
 |Add=>
  rcases dR e with⟨p,h,e⟩|⟨-,e⟩
  ·obtain⟨t,u,rfl,rfl⟩:=bW h hx hy;cases e;exact add_int (hP.ret hk (VR.int_ _ _ _) _)
  ·obtain⟨p,h,e⟩:e:=aC e
   obtain⟨h1,e⟩:e:=aM e
   obtain⟨t,u,rfl,rfl⟩:=qJ h hx hy;cases e
   exact PyProof.Rows.add_str (fun t' tk=>hP.ret hk (VR.str_ _ _ _) _) (na (al h1) (by decide))
 |Sub=>
  obtain⟨p,h,e⟩:e:=aC e
  obtain⟨t,u,rfl,rfl⟩:=bW h hx hy;cases e;exact sub_int (hP.ret hk (VR.int_ _ _ _) _)
 |Mult=>
  rcases dR e with⟨w,h,e⟩|⟨-,e⟩
  ·cases e
   obtain⟨p,h,e⟩:h:=aC h
   obtain⟨h1,e⟩:e:=aM e
   obtain⟨t,u,rfl,rfl⟩:=bW h hx hy;cases e;exact mul_int (hP.ret hk (VR.int_ _ _ _) _) (eG h1)
  ·obtain⟨p,h,e⟩:e:=aC e
   obtain⟨h1,e⟩:e:=aM e
   rw[db] at h1
   obtain⟨t,u,rfl,rfl⟩:=wO h hx hy;cases e
   have q:=bb h1.2
   exact SB.mul (mulOk_of 1000 1000 (al h1.1) (by omega) (by omega) (by decide) (by decide)) (fun t' k=>hP.ret hk (VR.str_ _ _ _) _)
 |Mod=>
  obtain⟨p,h,e⟩:e:=aC e
  obtain⟨h1,e⟩:e:=aM e
  obtain⟨t,u,rfl,rfl⟩:=bW h hx hy;cases e;exact mod_int' (fun q=>by rw[(Ii _ _).mpr q] at h1;cases h1) (hP.ret hk (VR.int_ _ _ _) _)
 |FloorDiv=>
  obtain⟨p,h,e⟩:e:=aC e
  obtain⟨h1,e⟩:e:=aM e
  obtain⟨h2,e⟩:e:=aM e
  obtain⟨t,u,rfl,rfl⟩:=bW h hx hy;cases e
  have q:=bb h2
  exact floordiv_int (fun q=>by rw[(Ii _ _).mpr q] at h1;cases h1) (hP.ret hk (VR.int_ _ _ _) _) (.inl (PyProof.noPylong_small (by omega)))
 |_=>exact bn rfl (heq_of_eq e)
theorem uL(hk:Ok S cx g s J st){op:Operator}{a b v x y:Value}(hx:VR J a x)(hy:VR J b y)(e:xo op a b=some v)(hP:Post S cx VR Q E J g s (some (.ok v,st))):fm (model S.prog S.w) cx.A (inplaceOp op x y) Q E s:=by
 cases op with
 |Add=>
  obtain⟨p,h,e⟩:e:=aC e
  obtain⟨t,u,rfl,rfl⟩:=bW h hx hy;cases e;exact iadd_int (hP.ret hk (VR.int_ _ _ _) _)
 |Sub=>
  obtain⟨p,h,e⟩:e:=aC e
  obtain⟨t,u,rfl,rfl⟩:=bW h hx hy;cases e;exact isub_int (hP.ret hk (VR.int_ _ _ _) _)
 |Mult=>
  obtain⟨p,h,e⟩:e:=aC e
  obtain⟨h1,e⟩:e:=aM e
  obtain⟨t,u,rfl,rfl⟩:=bW h hx hy;cases e;exact imul_int (hP.ret hk (VR.int_ _ _ _) _) (eG h1)
 |_=>exact bn rfl (heq_of_eq e)
theorem nH{x y:Value}{b:Bool}(h:VR J x y)(e:isNone x=some b):(b=true/\y= .none)\/(b=false/\y≠.none/\gk x=true):=by
 cases x<;>first|cases e|skip
 ·exact .inl ⟨rfl,h⟩
 ·exact .inr ⟨rfl,by rw[show y=_ from h];exact fun e=>(by cases e),rfl⟩
 ·obtain⟨t,rfl⟩:=h;exact .inr ⟨rfl,fun e=>(by cases e),rfl⟩
 ·obtain⟨t,rfl⟩:=h;exact .inr ⟨rfl,fun e=>(by cases e),rfl⟩
 ·obtain⟨t,_,rfl⟩:=h;exact .inr ⟨rfl,fun e=>(by cases e),rfl⟩
theorem yd(hk:Ok S cx g s J st){op:CmpOp}{a b x y:Value}{c:Bool}(hx:VR J a x)(hy:VR J b y)(e:Ai op a b=some c)(hP:Post S cx VR Q E J g s (some (.ok (.bool c),st))):fm (model S.prog S.w) cx.A (compareOp op x y) Q E s:=by
 cases op with
 |Eq=>
  cases vQ e hx hy with
  |int p h e=>obtain⟨t,u,rfl,rfl⟩:=h;exact eq_int (by rw[io,<-e];exact hP.ret0 hk (VR.bool_ _))
  |str p h e=>obtain⟨t,u,rfl,rfl⟩:=h;exact eq_str (by rw[str_beq,<-e];exact hP.ret0 hk (VR.bool_ _))
 |NotEq=>
  cases vQ (fG e) hx hy with
  |int p h e=>obtain⟨t,u,rfl,rfl⟩:=h;exact ne_int (by rw[bne,io,<-e,Jd];exact hP.ret0 hk (VR.bool_ _))
  |str p h e=>obtain⟨t,u,rfl,rfl⟩:=h;exact ne_str (by rw[bne,str_beq,<-e,Jd];exact hP.ret0 hk (VR.bool_ _))
 |Lt=>obtain⟨p,h,e⟩:e:=aC e;obtain⟨t,u,rfl,rfl⟩:=bW h hx hy;cases e;exact lt_int (by rw[qb];exact hP.ret0 hk (VR.bool_ _))
 |LtE=>obtain⟨p,h,e⟩:e:=aC e;obtain⟨t,u,rfl,rfl⟩:=bW h hx hy;cases e;exact le_int (by rw[qj];exact hP.ret0 hk (VR.bool_ _))
 |Gt=>obtain⟨p,h,e⟩:e:=aC e;obtain⟨t,u,rfl,rfl⟩:=bW h hx hy;cases e;exact gt_int (by rw[qb];exact hP.ret0 hk (VR.bool_ _))
 |GtE=>obtain⟨p,h,e⟩:e:=aC e;obtain⟨t,u,rfl,rfl⟩:=bW h hx hy;cases e;exact ge_int (by rw[show(decide (_≥_):Bool)=decide (_<=_) from rfl,qj];exact hP.ret0 hk (VR.bool_ _))
 |Is=>
  obtain⟨rfl,h⟩:=uy e
  cases hy
  rcases nH hx h with⟨rfl,rfl⟩|⟨rfl,hn,_⟩
  ·exact is_none_none (hP.ret0 hk (VR.bool_ _))
  ·exact is_none_ne hn (hP.ret0 hk (VR.bool_ _))
 |IsNot=>
  obtain⟨rfl,h⟩:=uy (fG e)
  cases hy
  rcases nH hx h with⟨hc,rfl⟩|⟨hc,hn,_⟩
  ·cases c<;>cases hc;exact isnot_none_none (hP.ret0 hk (VR.bool_ _))
  ·cases c<;>cases hc;exact isnot_none_ne hn (hP.ret0 hk (VR.bool_ _))
 |_=>exact bn rfl (heq_of_eq e)
noncomputable def oS(S:Core)(st:St)(v:Value):Option Bool:=match v with
 | .none=>some false
 | .bool b=>some b
 | .int i _=>some (!Z.eqB i 0)
 | .str x _=>grd (gy x.length 4000) (some (!Nat.beq x.length 0))
 | .ref k=>oget (rd S st k) fun x=>oget (oX x) fun p=>grd (gy p.2.length 4000) (some (!p.2.isEmpty))
 |_=>none
theorem All2.isEmpty{α β:Type}{R:α->β->Prop}{l:List α}{m:List β}(h:All2 R l m):m.isEmpty=l.isEmpty:=by cases h<;>rfl
theorem gE(C:CxOk S cx sc)(hk:Ok S cx g s J st){v x:Value}{b:Bool}(hx:VR J v x)(e:oS S.toCore st v=some b)(hP:Post S cx VB QB E J g s (some (.ok b,st))):fm (model S.prog S.w) cx.A (truthy x) QB E s:=by
 cases v with
 |none=>cases e;cases hx;exact truthy_none (hP.ret0 hk rfl)
 |bool=>cases e;cases hx;exact I5 (hP.ret0 hk rfl)
 |int=>cases e;obtain⟨t,rfl⟩:=hx;exact truthy_int (by rw[bne,io];exact hP.ret0 hk rfl)
 |str y=>
  obtain⟨h1,e⟩:e:=aM e
  cases e;obtain⟨t,rfl⟩:=hx
  have h2:=al h1
  refine SBL.truthy (by omega) ?_
  have:((y.length:Int) !=0)=!Nat.beq y.length 0:=by
   cases z:av y.length 0 with
   |true=>rw[aH z];rfl
   |false=>have:=aY z;show((y.length:Int) !=0)=true;rw[bne_iff_ne];omega
  rw[this]
  exact hP.ret hk rfl _
 |ref k=>
  obtain⟨q,h1,e⟩:e:=aC e
  obtain⟨p,h7,e⟩:e:=aC e
  obtain⟨h2,e⟩:e:=aM e
  cases e
  obtain⟨a,hka,rfl⟩:=hx
  obtain⟨o,h4,h8,h5⟩:=bN C hk h1 hka
  induction dP h7 using SeqD.casesOn with
  |lst vs=>
   have h6:vs.length<=4000:=al h2
   obtain⟨vs',n,rfl,hvs⟩:=h8
   have T:s.heap.IsList a vs'.toArray:=⟨_,h4,rfl,n,rfl⟩
   refine wpAny_truthy_list T (by rw[pr,<-hvs.length];omega) ?_
   rw[show vs'.toArray.isEmpty=vs'.isEmpty from by simp,hvs.isEmpty]
   exact hP.ret hk rfl _
  |tup vs=>
   have h6:vs.length<=4000:=al h2
   obtain⟨vs',rfl,hvs⟩:=h8
   refine truthy_tuple (cW h4) (by rw[pr,<-hvs.length];omega) ?_
   rw[show vs'.toArray.isEmpty=vs'.isEmpty from by simp,hvs.isEmpty]
   exact hP.ret hk rfl _
 |_=>exact bn rfl (heq_of_eq e)
noncomputable def x9(S:Core)(st:St)(v:Value):Option Nat:=match v with
 | .str x _=>grd (gy x.length 4000) (some x.length)
 | .ref k=>oget (rd S st k) fun x=>oget (oX x) fun p=>grd (gy p.2.length 4000) (some p.2.length)
 |_=>none
theorem CW(C:CxOk S cx sc)(hk:Ok S cx g s J st){v x:Value}{n:Nat}(hx:VR J v x)(e:x9 S.toCore st v=some n)(hP:Post S cx VR Q E J g s (some (.ok (.int n 0),st))):fm (model S.prog S.w) cx.A (call (.builtin "len") [x]) Q E s:=by
 cases v with
 |str y=>
  obtain⟨h1,e⟩:e:=aM e
  cases e;obtain⟨t,rfl⟩:=hx
  exact SBL.len (by have:=al h1;omega) (hP.ret hk (VR.int_ _ _ _) _)
 |ref k=>
  obtain⟨q,h1,e⟩:e:=aC e
  obtain⟨p,h7,e⟩:e:=aC e
  obtain⟨h2,e⟩:e:=aM e
  cases e
  obtain⟨a,hka,rfl⟩:=hx
  obtain⟨o,h4,h8,h5⟩:=bN C hk h1 hka
  induction dP h7 using SeqD.casesOn with
  |lst vs=>
   have h6:vs.length<=4000:=al h2
   obtain⟨vs',n,rfl,hvs⟩:=h8
   have T:s.heap.IsList a vs'.toArray:=⟨_,h4,rfl,n,rfl⟩
   refine Calls.call_len_list T (by rw[pr,<-hvs.length];omega) ?_
   rw[pr,<-hvs.length]
   exact hP.ret hk (VR.int_ _ _ _) _
  |tup vs=>
   have h6:vs.length<=4000:=al h2
   obtain⟨vs',rfl,hvs⟩:=h8
   refine PyProof.Rows.len_tuple (cW h4) (by rw[pr,<-hvs.length];omega) ?_
   rw[pr,<-hvs.length]
   exact hP.ret hk (VR.int_ _ _ _) _
 |_=>exact bn rfl (heq_of_eq e)
end
noncomputable def strsOf:List Value->Option (List Str)
 | []=>some []
 |v::r=>oget (fv v) fun x=>oget (strsOf r) fun l=>some (x::l)
section
variable{S:Sta}{cx:Cx}{sc:Scope}{st:St}
variable{J:Rho}{g:Heap}{s:Shared}{Q:Value->Shared->Prop}{E:Value->Shared->Prop}{QU:Unit->Shared->Prop}{QB:Bool->Shared->Prop}
set_option tactic.hygienic true in
theorem gc{vs vs':List Value}{ys:List Str}(x:All2 (VR J) vs vs'):strsOf vs=some ys->StrsAre vs' ys:=by
 induction x generalizing ys with
 |nil=>intro e;rw[<-bd e];exact .nil
 | @cons v w l m h r ih=>
  intro e
  obtain⟨x,e1,f1⟩:e:=aC e
  obtain⟨q,z,f2⟩:f1:=aC f1
  rw[<-bd f2]
  obtain⟨t,rfl⟩:=dJ e1 h
  exact .cons _ _ (ih z)
noncomputable def dX(x:Str):List Str->Bool
 | []=>false
 |y::r=>match seq y x with
  |true=>true
  |false=>dX x r
theorem n4(x y:Str)(r:List Str):dX x (y::r)=match seq y x with
 |true=>true
 |false=>dX x r:=rfl
theorem fM(x:Str):∀ys:List Str,(ys.any fun y=>y==x)=dX x ys
 | []=>rfl
 |y::r=>by
  rw[JJ,fM x r,str_beq,n4]
  cases seq y x<;>rfl
theorem xC(C:CxOk S cx sc)(hk:Ok S cx g s J st){k:Nat}{i:Str}{t:Tok}{vs:List Value}{ys:List Str}{x y:Value}(hx:VR J (.ref k) x)(hy:VR J (.str i t) y)(e1:rd S.toCore st k=some (.tup vs))(e2:strsOf vs=some ys)
  (hP:Post S cx VR Q E J g s (some (.ok (.bool (dX i ys)),st))):fm (model S.prog S.w) cx.A (compareOp .In y x) Q E s:=by
 obtain⟨a,hka,rfl⟩:=hx
 obtain⟨u,rfl⟩:=hy
 obtain⟨o,h4,⟨vs',rfl,hvs⟩,h5⟩:=bN C hk e1 hka
 refine in_tuple_strs (cW h4) (by simpa using gc hvs e2) ?_
 rw[fM]
 exact hP.ret0 hk (VR.bool_ _)
theorem oh(C:CxOk S cx sc)(hk:Ok S cx g s J st){k:Nat}{i:Str}{t:Tok}{vs:List Value}{ys:List Str}{x y:Value}(hx:VR J (.ref k) x)(hy:VR J (.str i t) y)(e1:rd S.toCore st k=some (.tup vs))(e2:strsOf vs=some ys)
  (hP:Post S cx VR Q E J g s (some (.ok (.bool (!dX i ys)),st))):fm (model S.prog S.w) cx.A (compareOp .NotIn y x) Q E s:=by
 obtain⟨a,hka,rfl⟩:=hx
 obtain⟨u,rfl⟩:=hy
 obtain⟨o,h4,⟨vs',rfl,hvs⟩,h5⟩:=bN C hk e1 hka
 refine notin_tuple_strs (cW h4) (by simpa using gc hvs e2) ?_
 rw[fM]
 exact hP.ret0 hk (VR.bool_ _)
theorem CQ(hk:Ok S cx g s J st){i:Int}{t:Tok}{x:Value}(hx:VR J (.int i t) x)(e:ay i=true)(hP:Post S cx VR Q E J g s (some (.ok (.str (ag (toString i)) 0),st))):
  fm (model S.prog S.w) cx.A (call (.type "str") [x]) Q E s:=by
 obtain⟨u,rfl⟩:=hx
 refine P.str_of_int ?_ (hP.ret hk (VR.str_ _ _ _) _)
 have h:=bb e
 have h1:i.natAbs<2^11:=by omega
 by_cases h0:i.natAbs=0
 ·rw[h0];decide
 ·have:=(Nat.log2_lt h0).mpr h1
  omega
theorem CX(hk:Ok S cx g s J st){x:Str}{t:Tok}{v:Value}{n:Int}(hx:VR J (.str x t) v)(e:K7 x=some n)(hl:gy x.length 600=true)(hP:Post S cx VR Q E J g s (some (.ok (.int n 0),st))):
  fm (model S.prog S.w) cx.A (call (.type "int") [v]) Q E s:=by
 obtain⟨u,rfl⟩:=hx
 have:=al hl
 exact KIN.call_text e (by omega) (hP.ret hk (VR.int_ _ _ _) _)
noncomputable def lD:List Str->Nat
 | []=>0
 |x::r=>x.length+lD r
theorem kK:∀ys:List Str,(ys.map (·.length)).sum=lD ys
 | []=>rfl
 |x::r=>by rw[mo,List.sum_cons,kK r];rfl
theorem zl(C:CxOk S cx sc)(hk:Ok S cx g s J st){k:Nat}{i:Str}{t:Tok}{vs:List Value}{ys:List Str}{x y:Value}(hx:VR J (.ref k) x)(hy:VR J (.str i t) y)(e1:rd S.toCore st k=some (.lst vs))(e2:strsOf vs=some ys)
  (e3:gy (lD ys+ys.length*i.length) 4000=true) (hP:Post S cx VR Q E J g s (some (.ok (.str (Txt.join i ys) 0),st))):fm (model S.prog S.w) cx.A (call (.builtin "str.join") [y,x]) Q E s:=by
 obtain⟨a,hka,rfl⟩:=hx
 obtain⟨u,rfl⟩:=hy
 obtain⟨o,h4,⟨vs',n,rfl,hvs⟩,h5⟩:=bN C hk e1 hka
 have T:s.heap.IsList a vs'.toArray:=⟨_,h4,rfl,n,rfl⟩
 refine join_list T (by simpa using gc hvs e2) ?_ fun t' k'=>hP.ret hk (VR.str_ _ _ _) _
 rw[kK]
 exact na (al e3) (by decide)
theorem uQ(C:CxOk S cx sc)(hk:Ok S cx g s J st){k k2:Nat}{vs ws:List Value}{x y:Value}(hx:VR J (.ref k) x)(hy:VR J (.ref k2) y)(e1:lk st.led k=some (.lst vs))(e2:lk st.led k2=some (.lst ws))(e3:gy (vs.length+ws.length) 900=true)(e4:ws.isEmpty=false)
  (hP:Post S cx VR Q E J g s (some (.ok .none,{st with led:=up st.led k (.lst (vs++ws))}))):fm (model S.prog S.w) cx.A (call (.builtin "list.extend") [x,y]) Q E s:=by
 obtain⟨a',hka,rfl⟩:=hx
 obtain⟨b',hkb,rfl⟩:=hy
 obtain⟨m,news,F,N,R,hl⟩:=hk.fr
 obtain⟨a,o,h1,h2,⟨vs',n,rfl,hvs⟩,h4⟩:=ER.find R.er e1
 obtain⟨b,o2,g1,g2,⟨ws',n2,rfl,hws⟩,g4⟩:=ER.find R.er e2
 rw[hka] at h1
 cases h1
 rw[hkb] at g1
 cases g1
 obtain⟨news',U,hr,hm⟩:=ER.upd R.er R.nd e1 hka h2 (x':= .lst (vs++ws)) (o':=I8 (vs'++ws').toArray (n+1)) ⟨vs'++ws',n+1,rfl,hvs.append hws⟩
 have hz:=al e3
 have l1:=hvs.length
 have l2:=hws.length
 refine kl_extend F N g2 rfl ?_ U ?_ ?_ ?_ (fun h' F' N'=>hP _ _ _ _ (hk.chg (tk:=s.toks) F' N' R hl hr hm) rfl)
 ·intro e
  rw[show ws'.toArray.toList=ws' from rfl] at e
  rw[<-l2] at e
  rw[JN.mp e] at e4
  cases e4
 ·refine extend_door ?_
  rw[pr,pr,<-l1,<-l2]
  exact na hz (by decide)
 ·rw[show vs'.toArray.toList=vs' from rfl,<-l1];exact na (na (Jf _ _) hz) (by decide)
 ·rw[pr,pr,<-l1,<-l2]
  exact na hz (by decide)
theorem xB(C:CxOk S cx sc)(hk:Ok S cx g s J st){k:Nat}{vs:List Value}{x:Value}(hx:VR J (.ref k) x)(e1:rd S.toCore st k=some (.tup vs))(hP:Post S cx VR Q E J g s (some (.ok (.bool true),st))):
  fm (model S.prog S.w) cx.A (call (.builtin "isinstance") [x,.type "tuple"]) Q E s:=by
 obtain⟨a,hka,rfl⟩:=hx
 obtain⟨o,h4,⟨vs',rfl,hvs⟩,h5⟩:=bN C hk e1 hka
 exact call_isinstance_yes (cW h4).typeIs PySem.F.isi_meta_tuple PySem.F.sub_tuple_tuple (hP.ret0 hk (VR.bool_ _))
theorem ol(hk:Ok S cx g s J st){i:Str}{t:Tok}{x:Value}(hx:VR J (.str i t) x)(hP:Post S cx VR Q E J g s (some (.ok (.bool false),st))):
  fm (model S.prog S.w) cx.A (call (.builtin "isinstance") [x,.type "tuple"]) Q E s:=by
 obtain⟨u,rfl⟩:=hx
 exact IsiPair.str_tuple (hP.ret hk (VR.bool_ _) _)
end
theorem oG{p:Addr×Obj}:∀{mu:Led},(∀q∈mu,p.1≠q.1)->Apart p mu
 | [],_=> .nil
 |q::r,h=> .ne (h q (.head _)) (oG fun z hz=>h z (.tail _ hz))
theorem part_of{mu news rest:Led}(s:Ih rest news):(∀p∈rest,∀q∈mu,p.1≠q.1)->Part mu news rest:=by
 induction s with
 |slnil=>exact fun ι=> .nil
 |cons a s ih=>exact fun h=> .drop (ih h)
 |cons_cons a s ih=>exact fun h=> .keep (oG (h a (.head _))) (ih fun p hp=>h p (.tail _ hp))
theorem cR{rest news:Led}(s:Ih rest news)(h:(news.map (·.1)).Nodup):(rest.map (·.1)).Nodup:=h.sublist (s.map _)
section
variable{S:Sta}{cx:Cx}{sc:Scope}{st:St}
variable{J:Rho}{g:Heap}{s:Shared}{Q:Value->Shared->Prop}{E:Value->Shared->Prop}{QU:Unit->Shared->Prop}{QB:Bool->Shared->Prop}
noncomputable def lu:AO->Option (Bool×Nat×Nat×Nat)
 | .exd C d t=>some (true,C,d,t)
 | .exc C d t=>some (false,C,d,t)
 |_=>none
inductive ExcA:AO->Bool×Nat×Nat×Nat->Prop
 |exd (C d t:Nat):ExcA (.exd C d t) (true,C,d,t)
 |exc (C d t:Nat):ExcA (.exc C d t) (false,C,d,t)
theorem dZ{x:AO}{p:Bool×Nat×Nat×Nat}(e:lu x=some p):ExcA x p:=by
 cases x with
 |exd C d t=>cases e;exact .exd C d t
 |exc C d t=>cases e;exact .exc C d t
 |_=>exact bn rfl (heq_of_eq e)
noncomputable def DL:AO->Bool
 | .tb=>true
 |_=>false
theorem xi{x:AO}(e:DL x=true):x= .tb:=by cases x<;>first|rfl|exact dL e
noncomputable def oU(st:St)(T:Nat):Bool:=match lk st.led T with
 |some x=>DL x
 |none=>false
theorem lB{st:St}{T:Nat}(e:oU st T=true):lk st.led T=some .tb:=by
 unfold oU at e
 cases h:lk st.led T with
 |none=>rw[h] at e;cases e
 |some x=>rw[h] at e;rw[xi e]
theorem Ca{b:Bool}(h:(!b)=true):b=false:=by
 cases b with
 |true=>cases h
 |false=>rfl
noncomputable def am(st:St)(k:Nat):Option St:=oget (lk st.led k) fun x=>oget (lu x) fun p=>match p.1 with
 |true=>some {st with nx:=st.nx+1,led:=(st.nx,.tb)::(k,.exc p.2.1 p.2.2.1 st.nx)::del st.led k}
 |false=>grd (oU st p.2.2.2&&!Nat.beq p.2.2.2 k) (some {st with nx:=st.nx+1,led:=(st.nx,.tb)::(k,.exc p.2.1 p.2.2.1 st.nx)::del (del st.led k) p.2.2.2})
inductive NoteS(st:St)(k:Nat):St->Prop
 |exd (C d t:Nat) (e1:lk st.led k=some (.exd C d t)):NoteS st k {st with nx:=st.nx+1,led:=(st.nx,.tb)::(k,.exc C d st.nx)::del st.led k}
 |exc (C d T:Nat) (e1:lk st.led k=some (.exc C d T)) (e2:lk st.led T=some .tb) (e3:av T k=false):NoteS st k {st with nx:=st.nx+1,led:=(st.nx,.tb)::(k,.exc C d st.nx)::del (del st.led k) T}
theorem gp{st st':St}{k:Nat}(e:am st k=some st'):NoteS st k st':=by
 obtain⟨x,e1,e⟩:e:=aC e
 obtain⟨p,e2,e⟩:e:=aC e
 induction dZ e2 using ExcA.casesOn with
 |exd C d t=>cases e;exact .exd C d t e1
 |exc C d t=>
  obtain⟨e3,e⟩:e:=aM e
  cases e
  rw[db] at e3
  exact .exc C d t e1 (lB e3.1) (Ca e3.2)
theorem l8{α:Type}{l:List (Nat×α)}:∀{k j:Nat},av j k=false->lk (del l k) j=lk l j:=by
 induction l with
 |nil=>exact fun ι=>rfl
 |cons p r ih=>
  intro k j h
  rw[dG]
  cases e:av p.1 k with
  |true=>
   have:av p.1 j=false:=by
    rw[aH e]
    cases z:av k j with
    |true=>exact absurd (aH z).symm (aY h)
    |false=>rfl
   show lk r j=lk (p::r) j
   rw[aR,this]
  |false=>
   show lk (p::del r k) j=lk (p::r) j
   rw[aR,aR,ih h]
theorem gq{st st':St}{k:Nat}(e:am st k=some st'):st'.lo=st.lo/\st'.hd=st.hd/\st'.dp=st.dp/\st'.nx=st.nx+1:=by
 cases gp e<;>exact⟨rfl,rfl,rfl,rfl⟩
theorem cM{g:Heap}{h':Heap}{L:Addr}{a:Addr}{o:Obj}{news:Led}(hs:∃o,S.K.lookup sysModules=some o)(X:S.K.In g)(N:News g L h' news)(hm:(a,o)∈news):(a==sysModules)=false:=by
 refine beq_eq_false_iff_ne.mpr fun e=>?_
 have h1:=(N _ hm).2.2
 obtain⟨o',ho⟩:=hs
 have h2:=X _ _ ho
 rw[<-e] at h2
 rw[h1] at h2
 cases h2
inductive NoteX(S:Sta)(cx:Cx)(J:Rho)(g:Heap)(s:Shared)(st:St)(k:Nat)(a:Addr)(st':St):Prop
 |mk (m:Str->Option Value) (news:Led) (Cc dd:Addr) (a0 a1:Value) (tl rest:Led) (F:Fr g cx.L s.heap m) (N:News g cx.L s.heap news) (hl:Locs S J st.lo (seen cx.res m)) (he:(a,eJ Cc (some dd) #[a0,a1,.none,.none,.bool false,.none] #[])∈news)
   (h1:(a1= .none/\tl= [])\/∃T₀ ts₀,a1= .ref T₀/\tl= [(T₀,et ts₀)]/\(T₀,et ts₀)∈news/\3<ts₀.size)
   (hp:Part ((a,eJ Cc (some dd) #[a0,a1,.none,.none,.bool false,.none] #[])::tl) news rest) (hc:∃C' d t,lk st.led k=some (.exd C' d t)/\C'=Cc\/lk st.led k=some (.exc C' d t)/\C'=Cc)
   (fin:∀(h':Heap) (T:Addr) (ts:Array Value) (g':Heap) (tk:Nat) (m':Str->Option Value) (lo':List (Nat×Value)),Hd (cx.outer.filterMap (·.frame)) g g'->H2 cx.A₀ cx.base cx.outer g'->Fr g' cx.L h' m'->
    News g' cx.L h' ((T,et ts)::(a,eJ Cc (some dd) #[a0,.ref T,.none,.none,.bool false,.none] #[])::rest)->3<ts.size->T≠a->(∀p∈rest,p.1≠T)->Locs S (J.ext st.nx T) lo' (seen cx.res m')->
    Ext S cx J g s (J.ext st.nx T) g' {s with heap:=h',toks:=tk} {st' with lo:=lo'}):NoteX S cx J g s st k a st'
theorem jI(C:CxOk S cx sc)(hk:Ok S cx g s J st){k:Nat}{a:Addr}{st':St}(hka:J k=some a)(e:am st k=some st'):
  NoteX S cx J g s st k a st':=by
 obtain⟨m,news,F,N,R,hl⟩:=hk.fr
 have fin:∀(st':St) (led':List (Nat×AO)) (rest:Led) (Cc d:Nat) (dd:Addr) (a0:Value),(∃t,a0= .ref t)->st'={st with nx:=st.nx+1,led:=(st.nx,.tb)::(k,.exc Cc d st.nx)::led'}->Ih rest news->All2 (ER S.prog S.w S.nm S.dfi S.FN J) led' rest->(∀p∈rest,p.1≠a)->J d=some dd->
   ∀(h':Heap) (T:Addr) (ts:Array Value) (g':Heap) (tk:Nat) (m':Str->Option Value) (lo':List (Nat×Value)),Hd (cx.outer.filterMap (·.frame)) g g'->H2 cx.A₀ cx.base cx.outer g'->Fr g' cx.L h' m'->
    News g' cx.L h' ((T,et ts)::(a,eJ Cc (some dd) #[a0,.ref T,.none,.none,.bool false,.none] #[])::rest)->3<ts.size->T≠a->(∀p∈rest,p.1≠T)->Locs S (J.ext st.nx T) lo' (seen cx.res m')->
    Ext S cx J g s (J.ext st.nx T) g' {s with heap:=h',toks:=tk} {st' with lo:=lo'}:=by
  intro st' led' rest Cc d dd a0 ha0 est hsub hall hne hd h' T ts g' tk m' lo' ht hB F' N' l3 hTa hr hlo
  obtain⟨t,rfl⟩:=ha0
  subst est
  have hle:=R.grow_le T
  have X':S.K.In g':=C.XB.keeps hB.stays
  refine⟨hle,ht,⟨rfl,rfl,rfl⟩,⟨hB,⟨m',_,F',N',⟨fun j hj=>hle _ _ (R.hd j hj),Ip R.hb,fun j hj=>?_,?_,?_⟩,hlo⟩,?_,hk.dp,hk.un⟩⟩
  ·unfold Rho.ext
   rw[if_neg (fun e=>by subst e;exact absurd hj (HM (Db _)))]
   exact R.hi j (Hh hj)
  ·rw[mo,mo,sB,sB]
   refine⟨fun z=>?_,fun z=>?_,cR hsub R.nd⟩
   ·rcases eq.mp z with z|z
    ·exact hTa z
    ·obtain⟨q,hq,e⟩:=re.mp z;exact hr q hq e
   ·obtain⟨q,hq,e⟩:=re.mp z;exact hne q hq e
  ·exact .cons ⟨Rho.ext_at _ _ _,⟨ts,rfl,l3⟩,cM C.S.sm X' N' (.head _)⟩ (.cons ⟨hle _ _ hka,⟨t,dd,T,hle _ _ hd,Rho.ext_at _ _ _,rfl⟩,cM C.S.sm X' N' (.tail _ (.head _))⟩ (ERs.le _ _ _ _ _ hle hall))
  ·have:=hk.hd
   revert this
   cases st.hd with
   |none=>exact id
   |some k=>exact fun⟨e,a,b⟩=>⟨e,hle _ _ a,b⟩
 induction gp e using NoteS.casesOn with
 |exd Cc d t e1=>
  obtain⟨o,h2,⟨tx,dx,h5,h6,rfl⟩,h4⟩:=ER.findA R.er e1 hka
  obtain⟨rest,s1,s2,s3⟩:=ER.del R.er R.nd e1 hka
  refine⟨m,news,Cc,dx,.ref tx,.none,[],rest,F,N,hl,h2,.inl ⟨rfl,rfl⟩,part_of s1 fun p hp q hq=>by rcases o0.mp hq with rfl;exact s3 p hp,⟨Cc,d,t,.inl ⟨e1,rfl⟩⟩,?_⟩
  exact fin _ _ rest Cc d dx (.ref tx) ⟨_,rfl⟩ rfl s1 s2 s3 h6
 |exc Cc d T e1 e2 e3=>
  obtain⟨o,h2,⟨tx,dx,Tx,h5,h6,rfl⟩,h4⟩:=ER.findA R.er e1 hka
  obtain⟨o2,g2,⟨ts,rfl,g3⟩,g4⟩:=ER.findA R.er e2 h6
  obtain⟨rest,s1,s2,s3⟩:=ER.del R.er R.nd e1 hka
  obtain⟨rest2,r1,r2,r3⟩:=ER.del s2 (cR s1 R.nd) (by rw[l8 e3];exact e2) h6
  refine⟨m,news,Cc,dx,.ref tx,.ref Tx,[(Tx,et ts)],rest2,F,N,hl,h2,.inr ⟨Tx,ts,rfl,rfl,g2,g3⟩,part_of (r1.trans s1) fun p hp q hq=>?_,⟨Cc,d,T,.inr ⟨e1,rfl⟩⟩,?_⟩
  ·rcases eq.mp hq with rfl|hq
   ·exact s3 p (r1.subset hp)
   ·rcases o0.mp hq with rfl;exact r3 p hp
  ·exact fin _ _ rest2 Cc d dx (.ref tx) ⟨_,rfl⟩ rfl (r1.trans s1) r2 (fun p hp=>s3 p (r1.subset hp)) h5
end
section
variable{S:Sta}{cx:Cx}{sc:Scope}{st:St}
variable{J:Rho}{g:Heap}{s:Shared}{Q:Value->Shared->Prop}{E:Value->Shared->Prop}{QU:Unit->Shared->Prop}{QB:Bool->Shared->Prop}
theorem lA{α:Type}:∀{l:List (Nat×α)} {k:Nat} {x:α},lk l k=some x->up l k x=l
 |p::r,k,x,h=>by
  rw[aR] at h
  rw[fq]
  cases e:av p.1 k with
  |true=>rw[e] at h;cases h;rfl
  |false=>rw[e] at h;show p::up r k x=p::r;rw[lA h]
theorem j7(C:CxOk S cx sc):cx.fe.frame=some cx.L/\cx.fe.scope.kind= .function:=⟨C.ff,C.fk⟩
theorem gi(C:CxOk S cx sc)(hk:Ok S cx g s J st){k:Nat}{a:Addr}{st':St}(hka:J k=some a)(e:am st k=some st')
  (hE:∀J' g' s',Ext S cx J g s J' g' s' st'->J' k=some a->QU () s'):fm (model S.prog S.w) cx.A (noteFrame (.ref a) cx.env) QU E s:=by
 obtain⟨m,news,Cc,dd,a0,a1,tl,rest,F,N,hl,hx,h1,hp,hC,fin⟩:=jI C hk hka e
 obtain⟨hf,hkd⟩:=j7 C
 rw[C.nf,C.hAA]
 refine gn hk.B F N hx h1 hp (fun h' T ts g' t B' F' N' l3 ne hr=>?_) hf hkd
 obtain⟨_,_,_,_,R,_⟩:=hk.fr
 have hle:J.le (J.ext st.nx T):=R.grow_le T
 have:=fin h' T ts g' s.toks m st.lo t B' F' N' l3 ne hr (hl.le hle)
 rw[<-(gq e).1] at this
 exact hE _ _ _ this (hle _ _ hka)
theorem wb(C:CxOk S cx sc)(hk:Ok S cx g s J st){k:Nat}{a:Addr}{st':St}(hka:J k=some a)(e:am st k=some st')
  (hE:∀J' g' s',Ext S cx J g s J' g' s' st'->J' k=some a->QU () s'):fm (model S.prog S.w) cx.A (leaving cx.env (.ref a)) QU E s:=by
 obtain⟨m,news,Cc,dd,a0,a1,tl,rest,F,N,hl,hx,h1,hp,hC,fin⟩:=jI C hk hka e
 obtain⟨hf,hkd⟩:=j7 C
 unfold leaving
 rw[C.nf,C.hAA]
 refine ca (gn hk.B F N hx h1 hp (fun h' T ts g' t B' F' N' l3 ne hr=>?_) hf hkd)
 refine eb (s:={s with heap:=h'}) F' N' l3 ne hr fun h'' ts' F'' N'' l'' ι=>?_
 obtain⟨_,_,_,_,R,_⟩:=hk.fr
 have hle:J.le (J.ext st.nx T):=R.grow_le T
 have:=fin h'' T ts' g' s.toks m st.lo t B' F'' N'' l'' ne hr (hl.le hle)
 rw[<-(gq e).1] at this
 exact hE _ _ _ this (hle _ _ hka)
theorem z6(C:CxOk S cx sc)(hk:Ok S cx g s J st){k T d c:Nat}{a:Addr}(hka:J k=some a)(e1:lk st.led k=some (.exc c d T))(e2:lk st.led T=some .tb)
  (hE:∀s',Ext S cx J g s J g s' st->E (.ref a) s'):cameBackBy (model S.prog S.w) cx.A cx.env E (.ref a) s:=by
 obtain⟨m,news,F,N,R,hl⟩:=hk.fr
 obtain⟨o,h2,⟨tx,dx,Tx,h5,h6,rfl⟩,h4⟩:=ER.findA R.er e1 hka
 obtain⟨o2,g2,⟨ts,rfl,g3⟩,g4⟩:=ER.findA R.er e2 h6
 have he:=(N _ h2).1
 have hT:=(N _ g2).1
 obtain⟨news',U,hr,hm⟩:=ER.upd R.er R.nd e2 h6 g2 (x':= .tb) (o':=et (ts.setIfInBounds 3 ((cx.env.frame).elim zn fun f=>rawInt f))) ⟨_,rfl,by simpa using g3⟩
 obtain⟨pre,post,q1,q2,n1,n2⟩:=U.split
 subst q1
 obtain⟨F',N'⟩:=IK (f:=Hy (·.setIfInBounds 3 ((cx.env.frame).elim zn fun f=>rawInt f))) (o':=et (ts.setIfInBounds 3 ((cx.env.frame).elim zn fun f=>rawInt f))) F N n1 n2 rfl rfl
 rw[<-q2] at N'
 show fm _ cx.A (do
  if(<-field (.ref a) 1)== .none then unsupported "frame.own-activation:exception-without-traceback"
  setFlight (.ref a) cx.env.frame) (fun ι s''=>E (.ref a) s'') E s
 refine ca (HI he rfl (x:= .ref Tx) rfl ?_)
 rw[if_neg (show¬(pf Tx==zn)=true from by simp)]
 first|unfold setFlight|skip
 refine ca (HI he rfl (x:= .ref Tx) rfl ?_)
 rw[if_pos (show(pf Tx !=zn)=true from by simp)]
 refine HY hT rfl g3 ?_
 refine hE _ ?_
 have X:=hk.chg (tk:=s.toks) F' N' R hl hr hm
 rw[lA e2] at X
 exact X
theorem mY{d:Addr}{o:Obj}{l:Led}{g:Obj->Led}(h:UpdF d o l g)(o':Obj):LQ d o o' l (g o'):=by
 induction h with
 |head h=>exact .head h
 |tail h r ih=>exact .tail h ih
theorem ER.updG{J:Rho}{led:List (Nat×AO)}{news:Led}{k:Nat}{x:AO}{a:Addr}{o:Obj}(h:All2 (ER S.prog S.w S.nm S.dfi S.FN J) led news)(nd:(news.map (·.1)).Nodup)(e:lk led k=some x)(hk:J k=some a)(hm:(a,o)∈news):
  ∃nf,UpdF a o news nf/\(∀o',(nf o').map (·.1)=news.map (·.1))/\∀J' x' o',J.le J'->OR S.prog S.w S.nm S.dfi (fun ι=>S.FN k) J' x' o'->All2 (ER S.prog S.w S.nm S.dfi S.FN J') (up led k x') (nf o'):=by
 obtain⟨l1,l2,n1,n2,_,rfl,u,_,h1,h2,r,m1,m2⟩:=ER.cut h nd e hk hm
 exact⟨_,mZ m1 m2,fun ι=>lQ,fun J' x' o' hle hx=>u x'▸(ERs.le _ _ _ _ _ hle h1).append (.cons ⟨hle _ _ hk,hx,r.2.2⟩ (ERs.le _ _ _ _ _ hle h2))⟩
theorem Ok.chgNew(C:CxOk S cx sc)(hk:Ok S cx g s J st){m:Str->Option Value}{news news':Led}{h':Heap}{a:Addr}{o:Obj}{x:AO}(F':Fr g cx.L h' m)(N':News g cx.L h' ((a,o)::news'))(R:S.Rel J st news)(hl:Locs S J st.lo (seen cx.res m))(l:∀q∈news,q.1<a){k:Nat}{x':AO}
  (ho:OR S.prog S.w S.nm S.dfi (fun ι=>S.FN st.nx) (J.ext st.nx a) x o) (e:All2 (ER S.prog S.w S.nm S.dfi S.FN (J.ext st.nx a)) (up st.led k x') news') (e2:news'.map (·.1)=news.map (·.1)) {tk:Nat}:
  Ext S cx J g s (J.ext st.nx a) g {s with heap:=h',toks:=tk} {st with nx:=st.nx+1,led:=(st.nx,x)::up st.led k x'}:=by
 have hle:J.le (J.ext st.nx a):=R.grow_le a
 refine⟨hle,Cn,⟨rfl,rfl,rfl⟩,hk.heap F' N' ⟨fun j hj=>hle _ _ (R.hd j hj),Ip R.hb,fun j hj=>?_,?_,?_⟩ (hl.le hle) rfl rfl hle⟩
 ·unfold Rho.ext
  rw[if_neg (fun e=>by subst e;exact absurd hj (HM (Db _)))]
  exact R.hi j (Hh hj)
 ·rw[mo,sB]
  refine⟨fun z=>?_,by rw[e2];exact R.nd⟩
  rw[e2] at z
  obtain⟨q,hq,e⟩:=re.mp z
  have:=l q hq
  rw[e] at this
  exact JG _ this
 ·exact .cons ⟨Rho.ext_at _ _ _,ho,cM C.S.sm (hk.inG C) N' (.head _)⟩ e
noncomputable def dF(K:Frag)(C:Nat)(x:Str):Bool:=(findIn K (.ref C) "__setattr__"==some (some (.builtin "object.__setattr__")))&&ik K C&&(takerIn K C x==some none)
noncomputable def lr(K:Frag)(C:Nat)(x:Str):Bool:=(findIn K (.ref C) "__getattribute__"==some (some (.builtin "BaseException.__getattribute__")))&&(findIn K (.ref C) "__getattr__"==some none)&&hasDictIn K C&&(findIn K (.ref C) x==some none)&&(mroIn K C (.type "BaseException")==some true)
theorem rZ(C:CxOk S cx sc)(hk:Ok S cx g s J st){k c t i:Nat}{v v' x:Value}(hx:VR J (.ref k) x)(hv:VR J v v')(e1:lk st.led k=some (.exn c t))(hc:dF S.K c (S.nm i)=true)
  (hP:Post S cx VU QU E J g s (some (.ok (),{st with nx:=st.nx+1,led:=(st.nx,.adict [(i,v)])::up st.led k (.exd c st.nx t)}))):fm (model S.prog S.w) cx.A (setAttr x (S.nm i) v') QU E s:=by
 obtain⟨a,hka,rfl⟩:=hx
 obtain⟨m,news,F,N,R,hl⟩:=hk.fr
 obtain⟨o,h2,⟨tx,h5,rfl⟩,h4⟩:=ER.findA R.er e1 hka
 unfold dF at hc
 rw[db,db,beq_iff_eq,beq_iff_eq] at hc
 obtain⟨nf,U,M,G⟩:=ER.updG R.er R.nd e1 hka h2
 refine tU (C:=c) (x:=a) (nf:=fun d=>nf (eJ c (some d) #[.ref tx,.none,.none,.none,.bool false,.none] #[])) F (hk.inG C) N hc.1.1 hc.1.2 hc.2 (fun d ι=>mY U _) fun d h' F' N' l=>?_
 have hle:J.le (J.ext st.nx d):=R.grow_le d
 exact hP _ _ _ _ (hk.chgNew (x:= .adict [(i,v)]) C F' N' R hl l ⟨_,1,rfl,.cons ⟨⟨_,rfl⟩,hv.le hle⟩ .nil⟩ (G _ (.exd c st.nx t) _ hle ⟨tx,d,hle _ _ h5,Rho.ext_at _ _ _,rfl⟩) (M _)) trivial
theorem uH(C:CxOk S cx sc)(hk:Ok S cx g s J st){k c d t i:Nat}{es:List (Nat×Value)}{v v' x:Value}(hx:VR J (.ref k) x)(hv:VR J v v')(e1:lk st.led k=some (.exd c d t))(e2:lk st.led d=some (.adict es))(e3:gy es.length 900=true)(hc:dF S.K c (S.nm i)=true)
  (hP:Post S cx VU QU E J g s (some (.ok (),{st with led:=up st.led d (.adict (put es i v))}))):fm (model S.prog S.w) cx.A (setAttr x (S.nm i) v') QU E s:=by
 obtain⟨a,hka,rfl⟩:=hx
 obtain⟨m,news,F,N,R,hl⟩:=hk.fr
 obtain⟨o,h2,⟨tx,dx,h5,h6,rfl⟩,h4⟩:=ER.findA R.er e1 hka
 obtain⟨o2,g2,⟨ents,n,rfl,hes⟩,g4⟩:=ER.findA R.er e2 h6
 unfold dF at hc
 rw[db,db,beq_iff_eq,beq_iff_eq] at hc
 have hg:(getL (S.nm i) ents).isSome=true:=by
  cases z:lk es i with
  |some v=>obtain⟨v',h,_⟩:=dE C hes z;rw[h];rfl
  |none=>rw[hM C hes z];rfl
 have hnew:=qV C (J:=J) (i:=i) (hs:=Hl S.w.params (S.nm i)) (t:=s.toks+1) hv hes
 obtain⟨news',U,hr,hm⟩:=ER.upd R.er R.nd e2 h6 g2 (x':= .adict (put es i v)) (o':=dictOf (putL (S.nm i) (Hl S.w.params (S.nm i)) (.str (S.nm i) (s.toks+1)) v' ents) (putN (S.nm i) ents n)) ⟨_,_,rfl,hnew⟩
 refine wX (C:=c) (x:=a) F (hk.inG C) N h2 g2 hc.1.1 hc.1.2 hc.2 hg rfl U ?_ fun h' F' N'=>?_
 ·rw[<-hnew.length]
  have:=lM es i v
  have:=al e3
  omega
 ·exact hP _ _ _ _ (hk.chg F' N' R hl hr hm) trivial
theorem uP(C:CxOk S cx sc)(hk:Ok S cx g s J st){k c d t i:Nat}{es:List (Nat×Value)}{v x:Value}{b:Bool}(hx:VR J (.ref k) x)(e1:lk st.led k=some (.exc c d t))(e2:lk st.led d=some (.adict es))(e3:lk es i=some v)(e4:gk v=true)(hc:lr S.K c (S.nm i)=true)
  (hP:Post S cx VR Q E J g s (some (.ok v,st))):fm (model S.prog S.w) cx.A (getAttr x (S.nm i) b) Q E s:=by
 obtain⟨a,hka,rfl⟩:=hx
 obtain⟨m,news,F,N,R,hl⟩:=hk.fr
 obtain⟨o,h2,⟨tx,dx,Tx,h5,h6,rfl⟩,h4⟩:=ER.findA R.er e1 hka
 obtain⟨o2,g2,⟨ents,n,rfl,hes⟩,g4⟩:=ER.findA R.er e2 h5
 unfold lr at hc
 rw[db,db,db,db,beq_iff_eq,beq_iff_eq,beq_iff_eq,beq_iff_eq] at hc
 obtain⟨v',hg,hv⟩:=dE C hes e3
 exact yD F (hk.inG C) N h2 g2 hc.1.1.1.1 hc.1.1.1.2 hc.1.1.2 hc.1.2 hc.2 hg (ke hv e4) (hP.ret hk hv _)
theorem rl(C:CxOk S cx sc)(hk:Ok S cx g s J st){k c t:Nat}{vs vs':List Value}{x:Value}(hx:VR J (.ref k) x)(hv:All2 (VR J) vs vs')(hz:vs.length<=1000)(e1:lk st.led k=some (.exn c t))(hc:cI S.K c=true)
  (hP:Post S cx VR Q E J g s (some (.ok .none,{st with nx:=st.nx+1,led:=(st.nx,.tup vs)::up st.led k (.exn c st.nx)}))):fm (model S.prog S.w) cx.A (call (.builtin "Exception.__init__") (x::vs')) Q E s:=by
 obtain⟨a,hka,rfl⟩:=hx
 obtain⟨m,news,F,N,R,hl⟩:=hk.fr
 obtain⟨o,h2,⟨tx,h5,rfl⟩,h4⟩:=ER.findA R.er e1 hka
 obtain⟨nf,U,M,G⟩:=ER.updG R.er R.nd e1 hka h2
 refine vM (C:=c) (t:=tx) (nf:=fun d=>nf (hS c d)) F (hk.inG C) N hc (by rw[<-hv.length];exact na hz (by decide)) (fun d ι=>mY U _) fun d h' F' N' l=>?_
 have hle:J.le (J.ext st.nx d):=R.grow_le d
 exact hP _ _ _ _ (hk.chgNew (x:= .tup vs) (tk:=s.toks) C F' N' R hl l ⟨vs',rfl,VRs.le hle hv⟩ (G _ (.exn c st.nx) _ hle ⟨d,Rho.ext_at _ _ _,rfl⟩) (M _)) rfl
end
end Mine
end
section
open PySem PySem.W PySem.Spec PySem.Calls PyProof.Rows PySem.SeqAt
namespace Mine
section
variable{S:Sta}{cx:Cx}{sc:Scope}{st:St}
variable{J:Rho}{g:Heap}{s:Shared}{Q:Value->Shared->Prop}{E:Value->Shared->Prop}{QU:Unit->Shared->Prop}{QB:Bool->Shared->Prop}
noncomputable def mz:Nat->List Value->List Value
 |0,_=> []
 |n+1,vs=>vs++mz n vs
theorem qP:∀(n:Nat) (vs:List Value),mz n vs=(Hr n vs).flatten
 |0,_=>rfl
 |n+1,vs=>by rw[List.replicate_succ,List.flatten_cons,<-qP n vs];rfl
theorem qO{vs vs':List Value}(h:All2 (VR J) vs vs'):∀n,All2 (VR J) (mz n vs) (mz n vs')
 |0=> .nil
 |n+1=>h.append (qO h n)
theorem CR(C:CxOk S cx sc)(hk:Ok S cx g s J st){k:Nat}{n:Int}{t:Tok}{vs:List Value}{x y:Value}(hx:VR J (.ref k) x)(hy:VR J (.int n t) y)(e1:lk st.led k=some (.lst vs))(e2:ay n=true)(e3:gy vs.length 100=true)
  (hP:Post S cx VR Q E J g s (some (.ok (.ref st.nx),st.grow (.lst (mz n.toNat vs))))):fm (model S.prog S.w) cx.A (binaryOp .Mult x y) Q E s:=by
 obtain⟨a',hka,rfl⟩:=hx
 obtain⟨u,rfl⟩:=hy
 obtain⟨m,news,F,N,R,hl⟩:=hk.fr
 obtain⟨o,h2,⟨vs',nn,rfl,hvs⟩,h4⟩:=ER.findA R.er e1 hka
 have hs:=bb e2
 have hlen:vs'.length<=100:=by rw[<-hvs.length];exact al e3
 refine mul_list F N (N _ h2).1 (by omega) (by omega) ?_ fun h' F' N'=>?_
 ·rw[pr]
  exact na (Nat.mul_le_mul hlen (show n.toNat<=1000 by omega)) (by decide)
 ·rw[listMul_foldl_if] at N'
  exact hP _ _ _ _ (hk.new C F R hl F' N' (fun q hq=>r7 (N q hq).1) (x:= .lst (mz n.toNat vs)) (tk:=s.toks) ⟨mz n.toNat vs',0,by rw[qP],VRs.le (R.grow_le _) (qO hvs _)⟩ (fD C hk N')) VR.new
noncomputable def sQ:Value->Option PyData
 | .none=>some .none
 | .int i _=>some (.int i)
 | .str x _=>grd (PySem.PyData.strOk x) (some (.str x))
 |_=>none
noncomputable def fT:List Value->Option (List PyData)
 | []=>some []
 |v::r=>oget (sQ v) fun d=>oget (fT r) fun ds=>some (d::ds)
noncomputable def eq1(a b:Value):Bool:=match a with
 | .int x _=>(match b with
  | .int y _=>Io x y
  |_=>false)
 | .str x _=>(match b with
  | .str y _=>seq x y
  |_=>false)
 | .none=>(match b with
  | .none=>true
  |_=>false)
 |_=>false
noncomputable def iQ:List Value->List Value->Bool
 | [],b=>b.isEmpty
 |v::r,b=>(match b with
  | []=>false
  |w::q=>bif eq1 v w then iQ r q else false)
inductive Dat1:Value->PyData->Prop
 |none:Dat1 .none .none
 |int (i:Int) (t:Tok):Dat1 (.int i t) (.int i)
 |str (x:Str) (t:Tok) (z:Ht x=true):Dat1 (.str x t) (.str x)
theorem iu{v:Value}{d:PyData}(e:sQ v=some d):Dat1 v d:=by
 cases v with
 |none=>cases e;exact .none
 |int i t=>cases e;exact .int i t
 |str x t=>obtain⟨z,e⟩:e:=aM e;cases e;exact .str x t z
 |_=>exact bn rfl (heq_of_eq e)
theorem pT{v v':Value}{d:PyData}{h:Heap}(e:sQ v=some d)(x:VR J v v'):Reads h v' d []/\Jw d=true/\JQ d=0:=by
 induction iu e using Dat1.casesOn with
 |none=>rw[show v'=_ from x];exact⟨.none,rfl,rfl⟩
 |int=>obtain⟨t,rfl⟩:=x;exact⟨.int _ _,rfl,rfl⟩
 |str _ _ z=>obtain⟨t,rfl⟩:=x;exact⟨.str _ _,z,rfl⟩
theorem d6{vs vs':List Value}{ds:List PyData}{h:Heap}(e:fT vs=some ds)(x:All2 (VR J) vs vs'):ReadsAll h vs' ds []/\I9 ds=true/\Jk ds=0:=by
 induction x generalizing ds with
 |nil=>rw[<-bd e];exact⟨.nil,rfl,rfl⟩
 | @cons v w r m x xs ih=>
  obtain⟨d,e1,e⟩:e:=aC e
  obtain⟨ds',e2,e⟩:e:=aC e
  rw[<-bd e]
  obtain⟨a1,a2,a3⟩:=pT (h:=h) e1 x
  obtain⟨b1,b2,b3⟩:=ih e2
  refine⟨by simpa using ReadsAll.cons a1 b1,?_,?_⟩
  ·simp only[I9,a2,b2,Bool.and_self]
  ·simp only[Jk,a3,b3,Nat.max_self]
theorem yI{a b:Value}{c d:PyData}(h1:sQ a=some c)(h2:sQ b=some d):Iy c d=eq1 a b:=by
 cases iu h1<;>cases iu h2<;>(delta eq1;simp only[Iy,io,str_beq])
theorem vP{a:List Value}:∀{b:List Value} {c d:List PyData},fT a=some c->fT b=some d->Iv c d=iQ a b:=by
 induction a with
 |nil=>
  intro b c d h1 h2
  cases h1
  cases b with
  |nil=>cases h2;rfl
  |cons w q=>
   obtain⟨d,e1,h2⟩:h2:=aC h2
   obtain⟨ds',e2,h2⟩:h2:=aC h2
   cases h2
   rfl
 |cons v r ih=>
  intro b c d h1 h2
  obtain⟨d1,a1,h1⟩:h1:=aC h1
  obtain⟨ds1,a2,h1⟩:h1:=aC h1
  cases h1
  cases b with
  |nil=>cases h2;rfl
  |cons w q=>
   obtain⟨d2,b1,h2⟩:h2:=aC h2
   obtain⟨ds2,b2,h2⟩:h2:=aC h2
   cases h2
   simp only[Iv,yI a1 b1,ih a2 b2]
   show(eq1 v w&&iQ r q)=bif eq1 v w then iQ r q else false
   cases eq1 v w<;>rfl
theorem eV{ds:List PyData}{f:List PyData->PyData}(hf:f=PyData.list\/f=PyData.tuple)(h2:I9 ds=true)(h3:Jk ds=0):shaped (f ds)=true:=by
 rcases hf with rfl|rfl
 ·simp[shaped,Jw,JQ,h2,h3]
 ·simp[shaped,Jw,JQ,h2,h3]
noncomputable def ki(S:Core)(st:St)(k j:Nat):Option Bool:=oget (rd S st k) fun x=>oget (rd S st j) fun y=>oget (oX x) fun p=>oget (oX y) fun q=>
 grd (p.1==q.1) (grd ((fT p.2).isSome&&(fT q.2).isSome&&gy 4 st.dp) (some (iQ p.2 q.2)))
theorem uI(C:CxOk S cx sc)(hk:Ok S cx g s J st){k j:Nat}{x y:Value}{c:Bool}(hx:VR J (.ref k) x)(hy:VR J (.ref j) y)(e:ki S.toCore st k j=some c)(hP:Post S cx VR Q E J g s (some (.ok (.bool (!c)),st))):fm (model S.prog S.w) cx.A (compareOp .NotEq x y) Q E s:=by
 obtain⟨a,hka,rfl⟩:=hx
 obtain⟨b,hjb,rfl⟩:=hy
 have hun:=hk.un
 obtain⟨x,e1,e⟩:e:=aC e
 obtain⟨y,e2,e⟩:e:=aC e
 obtain⟨p,e7,e⟩:e:=aC e
 obtain⟨q,e8,e⟩:e:=aC e
 obtain⟨e9,e⟩:e:=aM e
 obtain⟨e3,e⟩:e:=aM e
 have e:=bd e
 subst e
 rw[db,db] at e3
 obtain⟨⟨e4,e5⟩,e6⟩:=e3
 obtain⟨ds,e4⟩:=kt.mp e4
 obtain⟨dt,e5⟩:=kt.mp e5
 have e6:=al e6
 obtain⟨o,h2,h3,h4⟩:=bN C hk e1 hka
 obtain⟨o',g2,g3,g4⟩:=bN C hk e2 hjb
 have hv:iQ p.2 q.2=Iv ds dt:=(vP e4 e5).symm
 rw[hv] at hP
 have fin:=hP.ret0 hk (VR.bool_ _)
 induction dP e7 using SeqD.casesOn with
 |lst vs=>
  induction dP e8 using SeqD.casesOn with
  |tup ws=>cases e9
  |lst ws=>
   obtain⟨vs',n,rfl,hvs⟩:=h3
   obtain⟨ws',n',rfl,hws⟩:=g3
   obtain⟨p1,p2,p3⟩:=d6 (h:=s.heap) e4 hvs
   obtain⟨q1,q2,q3⟩:=d6 (h:=s.heap) e5 hws
   refine ne_dataH (.list h2 rfl rfl p1) (.list g2 rfl rfl q1) (eV (.inl rfl) p2 p3) (eV (.inl rfl) q2 q3) (by omega) ?_
   rw[show Iy (.list ds) (.list dt)=Iv ds dt from by simp only[Iy]]
   exact fin
 |tup vs=>
  induction dP e8 using SeqD.casesOn with
  |lst ws=>cases e9
  |tup ws=>
   obtain⟨vs',rfl,hvs⟩:=h3
   obtain⟨ws',rfl,hws⟩:=g3
   obtain⟨p1,p2,p3⟩:=d6 (h:=s.heap) e4 hvs
   obtain⟨q1,q2,q3⟩:=d6 (h:=s.heap) e5 hws
   refine ne_dataH (.tuple h2 rfl rfl p1) (.tuple g2 rfl rfl q1) (eV (.inr rfl) p2 p3) (eV (.inr rfl) q2 q3) (by omega) ?_
   rw[show Iy (.tuple ds) (.tuple dt)=Iv ds dt from by simp only[Iy]]
   exact fin
theorem FK(a b:Nat):((min a b:Nat):Int)=min (a:Int) b:=by
 rcases Nat.le_total a b with h|h
 ·rw[Nat.min_eq_left h,Int.min_eq_left (Ls.mpr h)]
 ·rw[Nat.min_eq_right h,Int.min_eq_right (Ls.mpr h)]
theorem rX(vs:List Value){y:Int}(h:0<=y):slicePick vs.toArray none (some y) none=(vs.take y.toNat).toArray:=by
 obtain⟨n,rfl⟩:=HX h
 have e:sliceBounds none (some (n:Int)) none vs.toArray.size=(((0:Nat):Int),((min n vs.toArray.size:Nat):Int),1):=by
  have:¬((n:Int)<0):=Int.not_lt.mpr h
  simp only[sliceBounds,Option.getD_none,show(1:Int)>0 from Int.one_pos,if_true,if_neg this]
  rw[<-FK,Int.max_eq_right (Int.natCast_nonneg _)]
  rfl
 rw[kmk_pick_nat _ e]
 show((vs.drop 0).take (min n vs.toArray.size-0)).toArray=_
 rw[La,Nat.sub_zero,pr,kmk_take_min]
 rfl
theorem zj(C:CxOk S cx sc)(hk:Ok S cx g s J st){value:Expr}{h:Option Expr}{q:Pos}{k:Nat}{n:Int}{t:Tok}{ns:List Int}{x hv:Value}(hx:VR J (.ref k) x)(hh:VR J (.int n t) hv)(e1:lk st.led k=some (.plst ns))(e2:Ij 0 n=true)(e3:gy (fL ns).length 900=true)(hn:∃i p,value= .Name i p)
  (hP:Post S cx VR Q E J g s (some (.ok (.ref st.nx),st.grow (.lst ((fL ns).take n.toNat))))):
  fm (model S.prog S.w) cx.A (subscriptTail value (.Slice none h none q) x (.ref s.heap.objs.size)) Q E {s with heap:=s.heap.push {cls:= .type "slice",data:= .fields #[.none,hv,.none]}}:=by
 obtain⟨a',hka,rfl⟩:=hx
 obtain⟨u,rfl⟩:=hh
 obtain⟨m,news,F,N,R,hl⟩:=hk.fr
 obtain⟨o,h2,⟨-,vs',nn,k1,k2,hvs⟩,h4⟩:=ER.findA R.er e1 hka
 refine slice_list F N (lo:=none) (hi:=some n) ⟨_,(N _ h2).1,k1,nn,k2⟩ .none (.int _ _) (fun h' F' N'=>?_) rfl (by obtain⟨i,p,rfl⟩:=hn;intro r;rfl) (by rw[pr,<-hvs.length];exact na (al e3) (by decide))
 rw[rX _ ((H4 0 n).mp e2)] at N'
 refine hP _ _ _ _ (hk.new C F R hl F' N' (fun q hq=>Jb (r7 (N q hq).1)) (x:= .lst ((fL ns).take n.toNat)) (tk:=s.toks) ⟨vs'.take n.toNat,0,rfl,VRs.le (fun ι ι h=>by cases h) (hvs.take _)⟩ (fD C hk N')) VR.new
noncomputable def vy:List Str->List Str->Bool
 | [],[]=>true
 |a::l,b::m=>match seq a b with
  |true=>vy l m
  |false=>false
 |_,_=>false
theorem tQ(a b:Str)(l m:List Str):vy (a::l) (b::m)=match seq a b with
 |true=>vy l m
 |false=>false:=rfl
theorem ssq_iff{l m:List Str}:vy l m=true↔l=m:=by
 induction l generalizing m with
 |nil=>cases m with
  |nil=>exact⟨fun ι=>rfl,fun ι=>rfl⟩
  |cons b m=>exact⟨fun h=>dL h,fun h=>nomatch h⟩
 |cons a l ih=>cases m with
  |nil=>exact⟨fun h=>dL h,fun h=>nomatch h⟩
  |cons b m=>
   rw[tQ]
   cases h:seq a b with
   |true=>rw[seq_iff.mp h];exact⟨fun e=>congrArg _ (ih.mp e),fun e=>ih.mpr (IY e).2⟩
   |false=>exact⟨fun e=>dL e,fun e=>by rw[seq_iff.mpr (IY e).1] at h;exact dL h⟩
noncomputable def tI:List (List Str×Nat×Value)->List Str->Option Value
 | [],_=>none
 |p::r,k=>match vy p.1 k with
  |true=>some p.2.2
  |false=>tI r k
noncomputable def keyed(S:Core)(st:St)(k:Nat):Option (List Str):=oget (rd S st k) fun o=>oget (oX o) fun p=>grd (!p.1) (strsOf p.2)
noncomputable def keysOk(S:Core)(st:St):List (List Str×Nat×Value)->Bool
 | []=>true
 |p::r=>(oget (keyed S st p.2.1) fun ks=>grd (vy ks p.1) (some ())).isSome&&keysOk S st r
theorem uw{vs vs':List Value}{ks:List Str}(e:strsOf vs=some ks)(x:All2 (VR J) vs vs'):ItemsAre (tz S.prog S.w) ks vs':=by
 induction x generalizing ks with
 |nil=>rw[<-bd e];exact .nil
 | @cons v w r m x xs ih=>
  obtain⟨x1,e1,f1⟩:e:=aC e
  obtain⟨q,z,f2⟩:f1:=aC f1
  rw[<-bd f2]
  obtain⟨t,rfl⟩:=dJ e1 x
  exact .cons (beq_self_eq_true _) (ih z)
theorem gK(C:CxOk S cx sc)(hk:Ok S cx g s J st){k:Nat}{ks:List Str}{a:Addr}(e:keyed S.toCore st k=some ks)(hka:J k=some a):KD (tz S.prog S.w) s.heap ks a:=by
 obtain⟨x,e1,f1⟩:e:=aC e
 obtain⟨p,e2,f2⟩:f1:=aC f1
 obtain⟨e3,f3⟩:f2:=aM f2
 obtain⟨o,h2,h3,h4⟩:=bN C hk e1 hka
 induction dP e2 using SeqD.casesOn with
 |lst=>cases e3
 |tup vs=>
  obtain⟨vs',rfl,hvs⟩:=h3
  exact⟨_,vs'.toArray,_,h2,rfl,rfl,by simpa using uw (S:=S) f3 hvs⟩
set_option tactic.hygienic true in
theorem mi(C:CxOk S cx sc)(hk:Ok S cx g s J st){k:Nat}{es:List (List Str×Nat×Value)}{x:Value}(hx:VR J (.ref k) x)(e1:lk st.led k=some (.tdict es))(e2:keysOk S.toCore st es=true):
  ∃a xs,x= .ref a/\(a==sysModules)=false/\s.heap.DictOfH (tupleKind (tz S.prog S.w)) a xs/\All2 (TR J) es xs:=by
 obtain⟨a,hka,rfl⟩:=hx
 obtain⟨o,h2,⟨eo,ep,xs,r1,r2,r3,r4,r5⟩,h4⟩:=qi hk e1 hka
 refine⟨a,xs,rfl,h4,⟨o,eo,ep,h2,r1,r2,r3,?_,r4⟩,r5⟩
 clear r3 r4 e1
 induction r5 with
 |nil=>exact fun ι h=>nomatch h
 |cons h r ih=>
  obtain⟨f1,f2⟩:=pi.mp e2
  obtain⟨u,f3⟩:=kt.mp f1
  obtain⟨ks,e3,f4⟩:f3:=aC f3
  obtain⟨e4,f5⟩:f4:=aM f4
  intro z hz
  rcases eq.mp hz with rfl|hz
  ·have:=gK C hk e3 h.2.1
   rw[ssq_iff.mp e4,<-h.1] at this
   exact this
  ·exact ih f2 z hz
theorem mh{p:List Str×Nat×Value}{r:List (List Str×Nat×Value)}{k:List Str}:tI (p::r) k=match vy p.1 k with
  |true=>some p.2.2
  |false=>tI r k:=rfl
theorem oF{es:List (List Str×Nat×Value)}{xs:List (List Str×Addr×Value)}{ks:List Str}(x:All2 (TR J) es xs):match tI es ks with|some v=>∃p,atKey xs ks=some p/\VR J v p.2|none=>atKey xs ks=none:=by
 induction x with
 |nil=>rfl
 | @cons p q l m h r ih=>
  rw[mh]
  unfold atKey
  rw[ID]
  cases e:vy p.1 ks with
  |true=>
   have:decide (q.1=ks)=true:=decide_eq_true (by rw[h.1];exact ssq_iff.mp e)
   rw[this]
   exact⟨_,rfl,h.2.2⟩
  |false=>
   have:decide (q.1=ks)=false:=decide_eq_false fun z=>by rw[h.1] at z;rw[ssq_iff.mpr z] at e;cases e
   rw[this]
   exact ih
theorem zm(C:CxOk S cx sc)(hk:Ok S cx g s J st){k j:Nat}{ks:List Str}{es:List (List Str×Nat×Value)}{x y:Value}(hx:VR J (.ref k) x)(hy:VR J (.ref j) y)(e1:lk st.led k=some (.tdict es))(e2:keysOk S.toCore st es=true)(e3:keyed S.toCore st j=some ks)(e4:gy 1 st.dp=true)
  (hP:Post S cx VR Q E J g s (some (.ok (.bool (!(tI es ks).isSome)),st))):fm (model S.prog S.w) cx.A (compareOp .NotIn y x) Q E s:=by
 obtain⟨a,xs,rfl,hs,hd,hr⟩:=mi C hk hx e1 e2
 obtain⟨b,hjb,rfl⟩:=hy
 have hun:=hk.un
 have e4:=al e4
 refine wpAny_notIn_heap (knd:=tupleKind (tz S.prog S.w)) (show cx.A.units+1<cLine by omega) (gK C hk e3 hjb) hs hd ?_
 have:=oF (ks:=ks) hr
 cases z:tI es ks with
 |some v=>rw[z] at this hP;obtain⟨p,h1,h2⟩:=this;rw[h1];exact hP.ret hk (VR.bool_ _) _
 |none=>rw[z] at this hP;dsimp only at this;rw[this];exact hP.ret hk (VR.bool_ _) _
theorem xD(C:CxOk S cx sc)(hk:Ok S cx g s J st){k j:Nat}{ks:List Str}{v:Value}{es:List (List Str×Nat×Value)}{x y:Value}(hx:VR J (.ref k) x)(hy:VR J (.ref j) y)(e1:lk st.led k=some (.tdict es))(e2:keysOk S.toCore st es=true)(e3:keyed S.toCore st j=some ks)(e4:gy 1 st.dp=true)(e5:tI es ks=some v)
  (hP:Post S cx VR Q E J g s (some (.ok v,st))):fm (model S.prog S.w) cx.A (getItem x y) Q E s/\s.TypeIs x "dict":=by
 obtain⟨a,xs,rfl,hs,hd,hr⟩:=mi C hk hx e1 e2
 obtain⟨b,hjb,rfl⟩:=hy
 have hun:=hk.un
 have e4:=al e4
 have:=oF (ks:=ks) hr
 rw[e5] at this
 obtain⟨p,h1,h2⟩:=this
 exact⟨wpAny_getItem_heap (knd:=tupleKind (tz S.prog S.w)) (show cx.A.units+1<cLine by omega) (gK C hk e3 hjb) hd h1 (hP.ret hk h2 _),hd.typeIs⟩
end
end Mine
end
section
open PySem PySem.W PySem.Spec PySem.Calls PyProof.Rows
namespace Mine
inductive BI where
 |len|isTup|str|int|append|pop|extend|get|join|xinit
 |isExc (C:Nat)
inductive IE where
 |cst (v:Value)
 |neg (n:Nat)
 |loc (x:Nat)
 |cel (x:Nat)
 |cv (x:Nat)
 |glob (x:Nat) (v:Value)
 |attr (e:IE) (x:Nat)
 |tup (es:List IE)
 |lst (es:List IE)
 |dct (ks:List Str) (es:List IE)
 |tdct (ks es:List IE)
 |cmp (op:CmpOp) (a b:IE)
 |and_ (es:List IE)
 |or_ (es:List IE)
 |not_ (a:IE)
 |ite (c a b:IE)
 |bin (op:Operator) (a b:IE)
 |idx (a i:IE)
 |slc (a:IE) (lo hi:Option IE)
 |call (f:IE) (es:List IE)
 |mcall (o:IE) (m:Nat) (es:List IE)
 |bcall (b:BI) (es:List IE)
 |slcH (a hi:IE)
 |comp (rg:Bool) (x:Nat) (it:IE) (k:Nat)
 |bad
noncomputable def IE.ctorIdx(x:IE):Nat:=x.casesOn (fun ι=>0) (fun ι=>1) (fun ι=>2) (fun ι=>3) (fun ι=>4) (fun ι ι=>5) (fun ι ι=>6) (fun ι=>7) (fun ι=>8) (fun ι ι=>9) (fun ι ι=>10) (fun ι ι ι=>11) (fun ι=>12) (fun ι=>13) (fun ι=>14) (fun ι ι ι=>15) (fun ι ι ι=>16) (fun ι ι=>17) (fun ι ι ι=>18) (fun ι ι=>19) (fun ι ι ι=>20) (fun ι ι=>21) (fun ι ι=>22) (fun ι ι ι ι=>23) 24
inductive IT where
 |loc (x:Nat)
 |attr (o:IE) (x:Nat)
inductive IS where
 |asg (x:Nat) (e:IE)
 |asgC (x:Nat) (e:IE)
 |asgL (y x:Nat) (it:IE) (k:Nat)
 |asgA (o:IE) (a:Nat) (e:IE)
 |asgI (o i e:IE)
 |asgT (ts:List IT) (e:IE)
 |aug (x:Nat) (op:Operator) (e:IE)
 |augA (o:IE) (a:Nat) (op:Operator) (e:IE)
 |augI (o i:IE) (op:Operator) (e:IE)
 |if_ (c:IE) (a b:List IS)
 |while_ (c:IE) (b:List IS)
 |for_ (x:Nat) (it:IE) (b:List IS)
 |forR (x:Nat) (it:IE) (b:List IS)
 |ret (e:IE)
 |ret0
 |raise (e:IE)
 |raiseN (x:Nat)
 |try_ (b:List IS) (C:Nat) (x:Nat) (h:List IS)
 |expr (e:IE)
 |pass
 |orc (k:Nat) (s:IS)
 |fdef (x i P l c:Nat)
 |bad
inductive AF where
 |next|brk|cont|ret (v:Value)
noncomputable def AF.ctorIdx(x:AF):Nat:=x.casesOn 0 1 2 (fun ι=>3)
structure FnI where
 tag:Bool
 pn:List Nat
 dfl:List Value
 cel:List Nat
 body:List IS
structure Tb where
 fns:List (Nat×FnI)
 cls:List (Nat×Nat)
 exs:List (Nat×Nat)
 ats:List (Nat×Nat)
 sts:List (Nat×Nat)
 mts:List ((Nat×Nat)×Nat)
 cas:List ((Nat×Nat)×Nat)
 xst:List (Nat×Nat)
 xgt:List (Nat×Nat)
 isa:List ((Nat×Nat)×Bool)
 own:List (Nat×Nat)
 cat:List (Nat×Nat)
 cmps:List (Nat×IE)
 dfs:List (Nat×FnI)
structure Fs where
 e:IE->St->Out Value
 t:IE->St->Out Bool
 b:List IS->St->Out AF
 w:IE->List IS->St->Out AF
 c:Value->List Value->St->Out Value
 o:Nat->IS->St->Out AF
 oc:Nat->List Value->St->Out Value
noncomputable def n6:List Value->Option Value
 | []=>none
 |v::r=>grd r.isEmpty (some v)
noncomputable def sG:List Value->Option (Value×Value)
 | []=>none
 |v::r=>oget (n6 r) fun u=>some (v,u)
noncomputable def bL:Value->Option Nat
 | .ref k=>some k
 |_=>none
noncomputable def eD:AO->Option (List Value)
 | .lst x=>some x
 |_=>none
noncomputable def zP:AO->Option (List Value)
 | .tup x=>some x
 |_=>none
noncomputable def w7:AO->Option (List (Str×Value))
 | .sdict x=>some x
 |_=>none
noncomputable def Dr:AO->Option (List (Nat×Value))
 | .adict x=>some x
 |_=>none
noncomputable def D1:AO->Option (Nat×Nat×Nat)
 | .exc C d T=>some (C,d,T)
 |_=>none
noncomputable def A0:AO->Option (Nat×Nat)
 | .exn C t=>some (C,t)
 |_=>none
noncomputable def Dj:AO->Option Value
 | .cell v=>v
 |_=>none
noncomputable def C6:AO->Option (List (Nat×Value))
 | .ns es=>some es
 |_=>none
noncomputable def fO:List (Nat×Nat)->Nat->Nat->Bool
 | [],_,_=>false
 |p::r,a,b=>av p.1 a&&av p.2 b||fO r a b
noncomputable def xY{α:Type}:List ((Nat×Nat)×α)->Nat->Nat->Option α
 | [],_,_=>none
 |p::r,a,b=>match av p.1.1 a&&av p.1.2 b with
  |true=>some p.2
  |false=>xY r a b
noncomputable def bI:List (Nat×Value)->Nat->Value->List (Nat×Value)
 | [],x,v=> [(x,v)]
 |p::r,x,v=>match av p.1 x with
  |true=>(x,v)::r
  |false=>p::bI r x v
noncomputable def pureO{α:Type}(o:Option α)(st:St):Out α:=match o with
 |some v=>some (.ok v,st)
 |none=>none
section
variable(S:Core)(T:Tb)
noncomputable def d0(F:Fs):List IE->St->Out (List Value)
 | [],st=>some (.ok [],st)
 |e::r,st=>Ob (F.e e st) fun v st1=>Ob (d0 F r st1) fun vs st2=>some (.ok (v::vs),st2)
noncomputable def sq:List Str->List Value->List (Str×Value)
 |k::ks,v::vs=>(k,v)::sq ks vs
 |_,_=> []
noncomputable def Ab(ks:List Str)(d:Nat)(vs:List Value)(st:St):Out Value:=grd (eu (sq ks vs)) (oget (lk st.led d) fun o=>oget (w7 o) fun l=>grd l.isEmpty (some (.ok (.ref d),{st with led:=up st.led d (.sdict (sq ks vs))})))
noncomputable def EG(F:Fs):List IE->List IE->St->Out (List (Value×Value))
 | [],[],st=>some (.ok [],st)
 |k::ks,e::es,st=>Ob (F.e k st) fun kv st1=>Ob (F.e e st1) fun v st2=>Ob (EG F ks es st2) fun r st3=>some (.ok ((kv,v)::r),st3)
 |_,_,_=>none
noncomputable def zJ(st:St):List (Value×Value)->Option (List (List Str×Nat×Value))
 | []=>some []
 |p::r=>oget (bL p.1) fun k=>oget (keyed S st k) fun ks=>oget (zJ st r) fun l=>grd (tI l ks).isNone (some ((ks,k,p.2)::l))
noncomputable def yX(d:Nat)(ps:List (Value×Value))(st:St):Out Value:=grd (gy ps.length 15&&gy 1 st.dp) (oget (lk st.led d) fun o=>oget (w7 o) fun l=>grd l.isEmpty (oget (zJ S st ps) fun es=>some (.ok (.ref d),{st with led:=up st.led d (.tdict es)})))
noncomputable def xn:AO->Option (Nat×Nat)
 | .inst C d=>some (C,d)
 |_=>none
noncomputable def vj(st:St)(d x:Nat):Option Value:=oget (lk st.led d) fun o=>oget (Dr o) fun es=>oget (lk es x) fun v=>grd (gk v) (some v)
noncomputable def rA(st:St)(o:Value)(x:Nat):Option Value:=oget (bL o) fun k=>oget (lk st.led k) fun b=>vz (xn b) (fun p=>grd (fO T.ats p.1 x) (vj st p.2 x)) (oget (lu b) fun p=>grd (!p.1) (grd (fO T.xgt p.2.1 x) (vj st p.2.2.1 x)))
noncomputable def zY(st:St)(d x:Nat)(v:Value):Out Unit:=oget (lk st.led d) fun o=>oget (Dr o) fun es=>grd (gy es.length 900) (some (.ok (),{st with led:=up st.led d (.adict (put es x v))}))
noncomputable def tV(st:St)(o:Value)(x:Nat)(v:Value):Out Unit:=oget (bL o) fun k=>oget (lk st.led k) fun b=>vz (xn b) (fun p=>grd (fO T.sts p.1 x) (zY st p.2 x v)) (vz (lu b) (fun p=>grd p.1 (grd (fO T.xst p.2.1 x) (zY st p.2.2.1 x v)))
 (oget (A0 b) fun p=>grd (fO T.xst p.1 x) (some (.ok (),{st with nx:=st.nx+1,led:=(st.nx,.adict [(x,v)])::up st.led k (.exd p.1 st.nx p.2)}))))
noncomputable def Bj:AO->Option (List Value)
 | .tup vs=>some vs
 | .lst vs=>some vs
 |_=>none
noncomputable def CN:AO->Option (List Int)
 | .plst ns=>some ns
 |_=>none
noncomputable def Bk:AO->Option (List (Str×Value))
 | .sdict es=>some es
 | .pdict es=>some es
 |_=>none
noncomputable def Fu:AO->Option (List (List Str×Nat×Value))
 | .tdict es=>some es
 |_=>none
noncomputable def EW(st:St)(k j:Nat):Option (Option Value):=oget (lk st.led k) fun o=>oget (Fu o) fun es=>grd (keysOk S st es&&gy 1 st.dp) (oget (keyed S st j) fun ks=>some (tI es ks))
noncomputable def pL(st:St)(a i:Value):Option Value:=oget (bL a) fun k=>match i with
 | .int z _=>grd (ay z) (oget (rd S st k) fun o=>oget (Bj o) fun vs=>yz vs z)
 | .str x _=>oget (lk st.led k) fun o=>oget (Bk o) fun es=>iF es x
 | .ref j=>oget (EW S st k j) fun v=>v
 |_=>none
noncomputable def wY(st:St)(a i v:Value):Out Unit:=oget (bL a) fun k=>vz (de i) (fun z=>grd (ay z) (oget (lk st.led k) fun o=>oget (eD o) fun vs=>oget (oW vs z v) fun q=>some (.ok (),{st with led:=up st.led k (.lst q)})))
 (oget (fv i) fun x=>oget (lk st.led k) fun o=>oget (w7 o) fun es=>grd (eu es) (grd (gy es.length 900) (some (.ok (),{st with led:=up st.led k (.sdict (lG es x v))}))))
noncomputable def FJ(st:St)(a b:Value):Option Bool:=oget (fv a) fun x=>oget (bL b) fun k=>oget (rd S st k) fun o=>match w7 o with
 |some _=>oget (lk st.led k) fun o=>oget (w7 o) fun es=>some (iF es x).isSome
 |none=>oget (zP o) fun vs=>oget (strsOf vs) fun ys=>some (dX x ys)
noncomputable def ou(st:St)(a b:Value):Option Bool:=match a with
 | .ref j=>oget (bL b) fun k=>oget (EW S st k j) fun v=>some (!v.isSome)
 |_=>(FJ S st a b).map not
noncomputable def Ej(st:St)(a b:Value):Option Bool:=match a with
 | .ref k=>oget (bL b) fun j=>oget (ki S st k j) fun c=>some (!c)
 |_=>Ai .NotEq a b
noncomputable def mC(st:St)(op:CmpOp)(a b:Value):Option Bool:=match op with
 | .In=>FJ S st a b
 | .NotIn=>ou S st a b
 | .NotEq=>Ej S st a b
 |op=>Ai op a b
noncomputable def CC(op:Operator)(a b:Value)(st:St):Out Value:=match op with
 | .Mult=>oget (bL a) fun k=>oget (de b) fun n=>oget (lk st.led k) fun o=>oget (eD o) fun vs=>grd (ay n&&gy vs.length 100) (some (.ok (.ref st.nx),st.grow (.lst (mz n.toNat vs))))
 |_=>none
noncomputable def ju(op:Operator)(a b:Value)(st:St):Out Value:=match yQ op a b with
 |some v=>some (.ok v,st)
 |none=>CC op a b st
noncomputable def Bh(a h:Value)(st:St):Out Value:=oget (bL a) fun k=>oget (de h) fun n=>oget (lk st.led k) fun o=>oget (CN o) fun ns=>grd (Ij 0 n&&gy (fL ns).length 900) (some (.ok (.ref st.nx),st.grow (.lst ((fL ns).take n.toNat))))
noncomputable def lH(a:Value)(lo hi:Option Value):Option Value:=oget (fv a) fun x=>grd (gy x.length 4000) (oget lo fun l=>oget (de l) fun i=>match hi with
 |none=>some (.str (LR x (some i) none) 0)
 |some h=>oget (de h) fun j=>some (.str (LR x (some i) (some j)) 0))
noncomputable def zD(vs:List Value)(st:St):Out Value:=oget (n6 vs) fun v=>oget (x9 S st v) fun n=>some (.ok (.int n 0),st)
noncomputable def rC(vs:List Value)(st:St):Out Value:=oget (n6 vs) fun v=>match bL v with
 |some k=>oget (rd S st k) fun o=>oget (zP o) fun ι=>some (.ok (.bool true),st)
 |none=>oget (fv v) fun ι=>some (.ok (.bool false),st)
noncomputable def rD(D:Nat)(vs:List Value)(st:St):Out Value:=oget (n6 vs) fun v=>oget (bL v) fun k=>oget (lk st.led k) fun o=>oget (D1 o) fun p=>oget (xY T.isa p.1 D) fun c=>oget (lk st.led p.2.1) fun o2=>oget (Dr o2) fun ι=>some (.ok (.bool c),st)
noncomputable def zB(vs:List Value)(st:St):Out Value:=oget (n6 vs) fun v=>oget (de v) fun i=>grd (ay i) (some (.ok (.str (ag (toString i)) 0),st))
noncomputable def zE(vs:List Value)(st:St):Out Value:=oget (n6 vs) fun v=>oget (fv v) fun x=>grd (gy x.length 600) (oget (K7 x) fun n=>some (.ok (.int n 0),st))
noncomputable def oI(vs:List Value)(st:St):Out Value:=oget (sG vs) fun p=>oget (bL p.1) fun k=>oget (lk st.led k) fun o=>oget (eD o) fun ws=>grd (gy ws.length 900) (some (.ok .none,{st with led:=up st.led k (.lst (ws++ [p.2]))}))
noncomputable def zC(vs:List Value)(st:St):Out Value:=oget (n6 vs) fun v=>oget (bL v) fun k=>oget (lk st.led k) fun o=>oget (eD o) fun ws=>grd (gy ws.length 900) (oget (dq ws) fun q=>some (.ok q.2,{st with led:=up st.led k (.lst q.1)}))
noncomputable def oH(vs:List Value)(st:St):Out Value:=oget (sG vs) fun p=>oget (bL p.1) fun k=>oget (bL p.2) fun j=>oget (lk st.led k) fun o=>oget (eD o) fun ws=>oget (lk st.led j) fun o2=>oget (eD o2) fun us=>grd (gy (ws.length+us.length) 900) (grd (!us.isEmpty) (some (.ok .none,{st with led:=up st.led k (.lst (ws++us))})))
noncomputable def zF(vs:List Value)(st:St):Out Value:=oget (sG vs) fun p=>oget (bL p.1) fun k=>oget (fv p.2) fun x=>oget (lk st.led k) fun o=>oget (w7 o) fun es=>some (.ok ((iF es x).getD .none),st)
noncomputable def vk(vs:List Value)(st:St):Out Value:=oget (sG vs) fun p=>oget (fv p.1) fun x=>oget (bL p.2) fun k=>oget (rd S st k) fun o=>oget (eD o) fun ws=>oget (strsOf ws) fun ys=>grd (gy (lD ys+ys.length*x.length) 4000) (some (.ok (.str (Txt.join x ys) 0),st))
noncomputable def rB(vs:List Value)(st:St):Out Value:=match vs with
 | []=>none
 |v::us=>oget (bL v) fun k=>oget (lk st.led k) fun o=>oget (A0 o) fun p=>oget (lk T.exs p.1) fun ι=>grd (gy us.length 900) (some (.ok .none,{st with nx:=st.nx+1,led:=(st.nx,.tup us)::up st.led k (.exn p.1 st.nx)}))
noncomputable def rE(b:BI)(vs:List Value)(st:St):Out Value:=match b with
 | .len=>zD S vs st
 | .isTup=>rC S vs st
 | .isExc D=>rD T D vs st
 | .str=>zB vs st
 | .int=>zE vs st
 | .append=>oI vs st
 | .pop=>zC vs st
 | .extend=>oH vs st
 | .get=>zF vs st
 | .join=>vk S vs st
 | .xinit=>rB T vs st
noncomputable def ll(v:Value):Bool:=match v with
 | .ref k=>(lk T.fns k).isSome||(lk T.cls k).isSome||(lk T.exs k).isSome
 |_=>false
noncomputable def A6:AO->Option (Nat×Nat)
 | .dfn i tc=>some (i,tc)
 |_=>none
noncomputable def yv:AO->Option Nat
 | .code i=>some i
 |_=>none
noncomputable def yY:AO->Option (List (Nat×Nat))
 | .tabl ps=>some ps
 |_=>none
noncomputable def jU(st:St)(v:Value):Bool:=(oget (bL v) fun k=>oget (lk st.led k) fun o=>A6 o).isSome
noncomputable def ye(st:St)(o:Value)(m:Nat):Option (Value×List Value):=oget (bL o) fun k=>vz (xY T.cas k m) (fun f=>some (.ref f,[])) (oget (lk st.led k) fun b=>oget (xn b) fun p=>oget (lk st.led p.2) fun c=>oget (Dr c) fun es=>
 vz (lk es m) (fun v=>grd (fO T.own p.1 m) (grd (ll T v) (some (v,[])))) (oget (xY T.mts p.1 m) fun f=>some (.ref f,[o])))
end
noncomputable def gJ:List (Nat×Value)->Nat->List (Nat×Value)
 | [],_=> []
 |p::r,x=>match av p.1 x with
  |true=>gJ r x
  |false=>p::gJ r x
noncomputable def da(st:St)(k:Nat):Bool:=(oget (lk st.led k) fun x=>oget (lu x) fun p=>grd (!p.1&&oU st p.2.2.2) (some ())).isSome
noncomputable def aU(n:Nat)(i:Nat)(st:St):Option (Option Value):=match gy i n with
 |true=>some (match u8 i n with|true=>some (.int i 0)|false=>none)
 |false=>none
section
variable(S:Core)(T:Tb)
noncomputable def DN:AO->Bool
 | .fn=>true
 |_=>false
noncomputable def aa(j:Nat)(led:List (Nat×AO)):Bool:=match lk led j with
 |some x=>DN x
 |none=>false
noncomputable def bu(k:Nat)(i:Nat)(st:St):Option (Option Value):=oget (rd S st k) fun o=>oget (eD o) fun vs=>grd (gy i vs.length) (some vs[i]?)
noncomputable def ij(v:Option Value)(c:Nat):Bool:=(oget v fun w=>oget (bL w) fun k=>grd (av k c) (some ())).isSome
noncomputable def fU(F:Fs)(x:Nat)(elt:IE)(d c j:Nat)(get:Nat->St->Option (Option Value)):Nat->Nat->St->Option (Res Unit×St)
 |0,_,_=>none
 |f+1,i,st=>grd (aa j st.led) (oget (get i st) fun r=>match r with
  |none=>some (.ok (),st)
  |some v=>grd (ij (lk st.lo x) c) (oget (lk st.led c) fun o=>oget (C6 o) fun es=>match F.e elt {st with led:=up st.led c (.ns (bI es x v))} with
   |some (.ok y,st2)=>oget (lk st2.led d) fun o2=>oget (eD o2) fun ys=>grd (gy ys.length 900) (fU F x elt d c j get f (i+1) {st2 with led:=up st2.led d (.lst (ys++ [y]))})
   |some (.err k,st2)=>oget (am st2 k) fun st3=>some (.err k,st3)
   |none=>none))
noncomputable def pW(x j:Nat):Option (Res Unit×St)->Out Value
 |some (.ok _,st)=>grd (aa j st.led) (oget (lk (del st.led j) (j+2)) fun o=>oget (C6 o) fun ι=>some (.ok (.ref (j+1)),{st with led:=del (del st.led j) (j+2),lo:=gJ st.lo x}))
 |some (.err k,st)=>grd (aa j st.led&&da {st with led:=del (del st.led j) (j+2)} k) (oget (lk (del st.led j) (j+2)) fun o=>oget (C6 o) fun ι=>some (.err k,{st with led:=del (del st.led j) (j+2),lo:=gJ st.lo x}))
 |none=>none
noncomputable def eK(x:Nat)(st:St):St:={st with nx:=st.nx+3,led:=(st.nx+2,.ns [])::(st.nx+1,.lst [])::(st.nx,.fn)::st.led,lo:=(x,.ref (st.nx+2))::st.lo}
noncomputable def yu(F:Fs)(x:Nat)(elt:IE)(get:Nat->St->Option (Option Value))(fuel:Nat)(st:St):Out Value:=pW x st.nx (fU F x elt (st.nx+1) (st.nx+2) st.nx get fuel 0 (eK x st))
noncomputable def v8(F:Fs)(rg:Bool)(x k:Nat)(v:Value)(st:St):Out Value:=match st.hd with
 |some _=>none
 |none=>oget (lk T.cmps k) fun elt=>match rg with
  |true=>oget (de v) fun n=>grd (ay n&&Ij 0 n) (yu F x elt (aU n.toNat) 1100 st)
  |false=>oget (bL v) fun l=>oget (rd S st l) fun o=>oget (eD o) fun ι=>yu F x elt (bu S l) 60 st
end
noncomputable def nStar(x:Expr):Bool:=!Nat.beq (D4 x) 2
noncomputable def d9(x:Expr):Bool:=!Nat.beq (D4 x) 3
noncomputable def nP(x:Expr):Bool:=!Nat.beq (D4 x) 4
theorem aL{e:Expr}{rest:List Expr}{env:Env}(h:nStar e=true):starEach (e::rest) env=(false,eval e env)::starEach rest env:=by
 cases e<;>first|rfl|exact dL h|cases h
theorem bS{env:Env}{pos:Pos}:∀{es:List Expr},(es.all nStar)=true->(backTo pos (starEach es env)).any (·.1)=false
 | [],_=>rfl
 |e::r,h=>by
  rw[IZ,db] at h
  rw[aL h.1]
  show(false||(backTo pos (starEach r env)).any (·.1))=false
  rw[bS h.2]
  rfl
theorem fw{env:Env}{pos:Pos}:∀{es:List Expr},(es.all nStar)=true->(backTo pos (starEach es env)).all (!·.1)=true
 | [],_=>rfl
 |e::r,h=>by
  rw[IZ,db] at h
  rw[aL h.1]
  show(true&&(backTo pos (starEach r env)).all (!·.1))=true
  rw[fw h.2]
  rfl
theorem ko{o:Expr}{attr:Str}{env:Env}{whole:Jv Value}(h:d9 o=true):attributeBase o attr env whole=whole:=by
 cases o<;>first|rfl|exact dL h|cases h
theorem sI{value:Expr}{attr:Str}{pos:Pos}{env:Env}(h:d9 value=true):eval (.Attribute value attr pos) env=(do
   let o<-eval value env
   standAt pos.atName
   let r<-holding [o] (getAttr o attr true)
   letTemporaryGo value o r
   pure r):=by
 rw[arm_eval_Attribute,ko h]
theorem fR{o:Expr}{name:Str}{apos pos:Pos}{args:List Expr}{env:Env}(h:d9 o=true)(hs:args.all nStar=true)(hl:gy args.length 20=true)(hp:(apos.endLine==pos.line)=true):
  eval (.Call (.Attribute o name apos) args [] pos) env=(do
   let ov<-eval o env
   standAt apos.atName
   let(f,first)<-holding [ov] (getMethod ov name (do return(<-importBound o env).getD true))
   callWith pos f first (backTo pos (starEach args env)) []):=by
 rw[arm_eval_Call,ko h]
 have hf:methodCallForm (args.length+0) (backTo pos (starEach args env)) (backToKw pos (keywordEach [] env))=true:=by
  unfold methodCallForm
  rw[fw hs]
  have:=al hl
  show(true&&true&&decide (args.length+0+0<30))=true
  rw[decide_eq_true (by omega)]
  rfl
 refine congrArg (K6 (eval o env)) (funext fun ov=>congrArg (K6 (standAt apos.atName)) (funext fun ι=>?_))
 unfold methodCall calleeOf methodCallPos
 rw[show([]:List Keyword).length=0 from rfl,hf]
 refine congrArg (K6 _) (funext fun fx=>?_)
 rw[hp]
 rfl
noncomputable def vF(S:Core):Value->Bool
 | .ref k=>u8 k S.HB
 | .int _ _=>true
 |_=>false
noncomputable def iK:BI->Option (String×String×String)
 | .append=>some ("list","append","list.append")
 | .pop=>some ("list","pop","list.pop")
 | .extend=>some ("list","extend","list.extend")
 | .get=>some ("dict","get","dict.get")
 | .join=>some ("str","join","str.join")
 |_=>none
noncomputable def qc(v:Value)(st:St):Bool:=(oget (bL v) fun k=>oget (lk st.led k) fun o=>eD o).isSome
noncomputable def BH(b:BI)(v:Value)(st:St):Bool:=match b with
 | .append=>qc v st
 | .pop=>qc v st
 | .extend=>qc v st
 | .get=>(oget (bL v) fun k=>oget (lk st.led k) fun o=>w7 o).isSome
 | .join=>(fv v).isSome
 |_=>false
section
variable(S:Core)(T:Tb)(sc:Scope)
noncomputable def bV(n:String)(v:Value):Prop:=sc.names.lookup (ag n)=some .globalImplicit/\nsIn S.K mainGlobals (ag n)=some none/\bootBuiltins (ag n)=some v/\ag n≠("__name__":Str)/\((ag n)==("__debug__":Str))=false
noncomputable def pJ(k:Str)(x:Option Expr):Prop:=∃n p,x=some (.Constant (.str k) n p)
noncomputable def aT(scope sc:Scope):Scope:=
 {scope with names:=scope.names.map fun(n,k)=>if(k== .free&&sc.kind== .function&&sc.names.lookup n==some .cell) then(n,.cell) else(n,k)}
structure CompSc(S:Core)(sc scope:Scope)(x:Nat):Prop where
 kind:scope.kind= .function
 cell:∀y∈scope.names,y.2≠.cell
 nms:∀y∈scope.names,y.2= .local->scope.names.lookup y.1=some .local
 hx:scope.names.lookup (S.nm x)=some .local
 free:∀y∈scope.names,y.2= .free->sc.names.lookup y.1=some .cell
 isc:nX (aT scope sc)=true
 nest:S.nest (aT scope sc)=none
 locs:∀y,(aT scope sc).names.lookup y=some .local->y=S.nm x\/y=ag ".0"
 cels:∀y,(aT scope sc).names.lookup y=some .cell->sc.names.lookup y=some .cell/\(y,HP)∈scope.names
inductive ME:IE->Expr->Prop
 |cNone {k p}:ME (.cst .none) (.Constant .none k p)
 |cBool {b k p}:ME (.cst (.bool b)) (.Constant (.bool b) k p)
 |cInt {z k p}:ME (.cst (.int z 0)) (.Constant (.int z) k p)
 |cStr {z k p}:ME (.cst (.str z 0)) (.Constant (.str z) k p)
 |neg {n:Nat} {k p q}:ME (.neg n) (.UnaryOp .USub (.Constant (.int n) k p) q)
 |loc {x p}:ae sc (S.nm x)->(S.nm x==("__debug__":Str))=false->ME (.loc x) (.Name (S.nm x) p)
 |cel {x p}:sc.names.lookup (S.nm x)=some .cell->(S.nm x==("__debug__":Str))=false->ME (.cel x) (.Name (S.nm x) p)
 |cv {x p}:nX sc=true->sc.names.lookup (S.nm x)=some .local->(S.nm x==("__debug__":Str))=false->ME (.cv x) (.Name (S.nm x) p)
 |glob {x v p}:sc.names.lookup (S.nm x)=some .globalImplicit->(S.nm x==("__debug__":Str))=false->nsIn S.K mainGlobals (S.nm x)=some (some v)->vF S v=true->ME (.glob x v) (.Name (S.nm x) p)
 |attr {e x i p}:ME e x->d9 x=true->ME (.attr e i) (.Attribute x (S.nm i) p)
 |tup {es xs k p}:All2 ME es xs->ME (.tup es) (.Tuple xs k p)
 |lst {es xs p}:All2 ME es xs->ME (.lst es) (.List xs p)
 |dct0 {p}:ME (.dct [] []) (.Dict [] [] p)
 |dct {k ks e es kx xs p}:All2 pJ (k::ks) kx->All2 ME (e::es) xs->ME (.dct (k::ks) (e::es)) (.Dict kx xs p)
 |tdct {k ks e es kx xs p}:All2 ME (k::ks) kx->All2 ME (e::es) xs->ME (.tdct (k::ks) (e::es)) (.Dict (kx.map some) xs p)
 |cmp {op a b x y p}:ME a x->ME b y->behindInMarks op y=false->ME (.cmp op a b) (.Compare x [op] [y] p)
 |and_ {es xs p}:All2 ME es xs->ME (.and_ es) (.BoolOp .And xs p)
 |or_ {es xs p}:All2 ME es xs->ME (.or_ es) (.BoolOp .Or xs p)
 |not_ {a x p}:ME a x->ME (.not_ a) (.UnaryOp .Not x p)
 |ite {c a b x y z p}:ME c x->ME a y->ME b z->ME (.ite c a b) (.IfExp x y z p)
 |bin {op a b x y p}:ME a x->ME b y->ME (.bin op a b) (.BinOp x op y p)
 |idx {a i x y p}:ME a x->ME i y->cJ y=true->ME (.idx a i) (.Subscript x y p)
 |slcA {a lo hi x l h q p}:ME a x->ME lo l->ME hi h->ME (.slc a (some lo) (some hi)) (.Subscript x (.Slice (some l) (some h) none q) p)
 |comp {x it k i elt px scope pos}:ME it i->CompSc S sc scope x->S.ce (aT scope sc) k elt->ME (.comp false x it k) (.ListComp elt [⟨.Name (S.nm x) px,i,[],0⟩] scope pos)
 |compR {x it k i elt px scope pos q r}:bV S sc "range" (.type "range")->ME it i->CompSc S sc scope x->S.ce (aT scope sc) k elt->ME (.comp true x it k) (.ListComp elt [⟨.Name (S.nm x) px,.Call (.Name (ag "range") q) [i] [] r,[],0⟩] scope pos)
 |bad {x}:Mine.nStar x=true->(∀env v,foldedSetIterable x env v=pure v)->ME .bad x
 |slcH {a h x i q q' p}:ME a (.Name i q')->ME h x->ME (.slcH a h) (.Subscript (.Name i q') (.Slice none (some x) none q) p)
 |slcB {a lo x l q p}:ME a x->ME lo l->ME (.slc a (some lo) none) (.Subscript x (.Slice (some l) none none q) p)
 |call {f es x xs p}:ME f x->All2 ME es xs->nP x=true->ME (.call f es) (.Call x xs [] p)
 |mcall {o m es x xs q p}:ME o x->All2 ME es xs->d9 x=true->gy xs.length 20=true->(q.endLine==p.line)=true->ME (.mcall o m es) (.Call (.Attribute x (S.nm m) q) xs [] p)
 |len {a x q p}:bV S sc "len" (.builtin "len")->ME a x->ME (.bcall .len [a]) (.Call (.Name (ag "len") q) [x] [] p)
 |str {a x q p}:bV S sc "str" (.type "str")->ME a x->ME (.bcall .str [a]) (.Call (.Name (ag "str") q) [x] [] p)
 |int {a x q p}:bV S sc "int" (.type "int")->ME a x->ME (.bcall .int [a]) (.Call (.Name (ag "int") q) [x] [] p)
 |isTup {a x q r p}:bV S sc "isinstance" (.builtin "isinstance")->bV S sc "tuple" (.type "tuple")->ME a x->ME (.bcall .isTup [a]) (.Call (.Name (ag "isinstance") q) [x,.Name (ag "tuple") r] [] p)
 |isExc {a x q r p C y}:bV S sc "isinstance" (.builtin "isinstance")->ME a x->ME (.glob y (.ref C)) (.Name (S.nm y) r)->ME (.bcall (.isExc C) [a]) (.Call (.Name (ag "isinstance") q) [x,.Name (S.nm y) r] [] p)
 |meth {b:BI} {ty nmm id o es x xs q p}:iK b=some (ty,nmm,id)->ME o x->All2 ME es xs->d9 x=true->gy xs.length 20=true->(q.endLine==p.line)=true->ME (.bcall b (o::es)) (.Call (.Attribute x (ag nmm) q) xs [] p)
 |xinit {es xs q r p}:bV S sc "Exception" (.type "Exception")->All2 ME es xs->gy xs.length 20=true->(q.endLine==p.line)=true->ME (.bcall .xinit es) (.Call (.Attribute (.Name (ag "Exception") r) (ag "__init__") q) xs [] p)
end
noncomputable def G5(S:Core)(sc:Scope)(P:Expr->Prop):IE->Prop
 | .or_ es=>∀{xs p},All2 (ME S sc) es xs->P (.BoolOp .Or xs p)
 | .cmp op a b=>∀{x y p},ME S sc a x->ME S sc b y->behindInMarks op y=false->P (.Compare x [op] [y] p)
 | .comp false x it k=>∀{i elt px scope pos},ME S sc it i->CompSc S sc scope x->S.ce (aT scope sc) k elt->P (.ListComp elt [⟨.Name (S.nm x) px,i,[],0⟩] scope pos)
 | .comp true x it k=>∀{i elt px scope pos q r},bV S sc "range" (.type "range")->ME S sc it i->CompSc S sc scope x->S.ce (aT scope sc) k elt->P (.ListComp elt [⟨.Name (S.nm x) px,.Call (.Name (ag "range") q) [i] [] r,[],0⟩] scope pos)
 | .call f es=>∀{x xs p},ME S sc f x->All2 (ME S sc) es xs->nP x=true->P (.Call x xs [] p)
 | .mcall o m es=>∀{x xs q p},ME S sc o x->All2 (ME S sc) es xs->d9 x=true->gy xs.length 20=true->(q.endLine==p.line)=true->P (.Call (.Attribute x (S.nm m) q) xs [] p)
 |_=>∀x,P x
inductive MEa(S:Core)(sc:Scope)(e:IE)(x:Expr):Prop
 |mk (n:nStar x=true) (f:∀env v,foldedSetIterable x env v=pure v) (k:∀P,G5 S sc P e->P x):MEa S sc e x
theorem ME.all{S:Core}{sc:Scope}{e:IE}{x:Expr}(h:ME S sc e x):MEa S sc e x:=by
 induction h using ME.casesOn with
 |bad h1 h2=>exact⟨h1,h2,fun P k=>k _⟩
 |or_ h=>exact⟨rfl,fun ι ι=>rfl,fun P k=>k h⟩
 |cmp h1 h2 h3=>exact⟨rfl,fun ι ι=>rfl,fun P k=>k h1 h2 h3⟩
 |comp h1 h2 h3=>exact⟨rfl,fun ι ι=>rfl,fun P k=>k h1 h2 h3⟩
 |compR h1 h2 h3 h4=>exact⟨rfl,fun ι ι=>rfl,fun P k=>k h1 h2 h3 h4⟩
 |call h1 h2 h3=>exact⟨rfl,fun ι ι=>rfl,fun P k=>k h1 h2 h3⟩
 |mcall h1 h2 h3 h4 h5=>exact⟨rfl,fun ι ι=>rfl,fun P k=>k h1 h2 h3 h4 h5⟩
 |_=>exact⟨rfl,fun ι ι=>rfl,fun P k=>k _⟩
theorem ME.nStar{S:Core}{sc:Scope}{e:IE}{x:Expr}(h:ME S sc e x):nStar x=true:=by obtain⟨n,f,k⟩:=h.all;exact n
theorem gv{S:Core}{sc:Scope}{e:IE}{x:Expr}(h:ME S sc e x)(env:Env)(v:Value):foldedSetIterable x env v=pure v:=by obtain⟨n,f,k⟩:=h.all;exact f env v
theorem ME.on{S:Core}{sc:Scope}{e:IE}{P:Expr->Prop}{x:Expr}(h:ME S sc e x)(k:G5 S sc P e):P x:=by obtain⟨n,f,q⟩:=h.all;exact q P k
theorem MEs.nStar{S:Core}{sc:Scope}{es:List IE}{xs:List Expr}(h:All2 (ME S sc) es xs):xs.all Mine.nStar=true:=by
 induction h with
 |nil=>rfl
 |cons a r ih=>rw[IZ,a.nStar,ih];rfl
noncomputable def nv:Value->Value
 | .int i _=> .int i 0
 | .str s _=> .str s 0
 |v=>v
theorem nv_vr{J:Rho}{v w:Value}:VR J (nv v) w↔VR J v w:=by cases v<;>exact Iff.rfl
section
variable(S:Core)(T:Tb)(F:Fs)
noncomputable def Bg:IE->St->Out Value
 | .cst v,st=>some (.ok v,st)
 | .neg n,st=>some (.ok (.int (-(n:Int)) 0),st)
 | .loc x,st=>pureO (lk st.lo x) st
 | .cel x,st=>oget (lk st.lo x) fun w=>oget (bL w) fun k=>oget (lk st.led k) fun o=>oget (Dj o) fun v=>some (.ok v,st)
 | .cv x,st=>oget (lk st.lo x) fun w=>oget (bL w) fun k=>oget (lk st.led k) fun o=>oget (C6 o) fun es=>oget (lk es x) fun v=>some (.ok v,st)
 | .glob _ v,st=>some (.ok (nv v),st)
 | .attr e x,st=>Ob (F.e e st) fun v st1=>pureO (rA T st1 v x) st1
 | .tup es,st=>Ob (d0 F es st) fun vs st1=>grd (gy vs.length 900) (some (.ok (.ref st1.nx),st1.grow (.tup vs)))
 | .lst es,st=>Ob (d0 F es st) fun vs st1=>grd (gy vs.length 900) (some (.ok (.ref st1.nx),st1.grow (.lst vs)))
 | .dct [] _,st=>some (.ok (.ref st.nx),st.grow (.sdict []))
 | .dct (k::ks) es,st=>grd (av (k::ks).length es.length&&gy es.length 15) (Ob (d0 F es (st.grow (.sdict []))) fun vs st1=>Ab (k::ks) st.nx vs st1)
 | .tdct ks es,st=>grd (av ks.length es.length&&gy es.length 15) (Ob (EG F ks es (st.grow (.sdict []))) fun ps st1=>yX S st.nx ps st1)
 | .cmp op a b,st=>Ob (F.e a st) fun x st1=>Ob (F.e b st1) fun y st2=>oget (mC S st2 op x y) fun c=>some (.ok (.bool c),st2)
 | .and_ [],st=>none
 | .and_ [a],st=>F.e a st
 | .and_ (a::b::r),st=>Ob (F.e a st) fun v st1=>oget (oS S st1 v) fun c=>match c with
  |true=>F.e (.and_ (b::r)) st1
  |false=>some (.ok v,st1)
 | .or_ [],st=>none
 | .or_ [a],st=>F.e a st
 | .or_ (a::b::r),st=>Ob (F.e a st) fun v st1=>oget (oS S st1 v) fun c=>match c with
  |true=>some (.ok v,st1)
  |false=>F.e (.or_ (b::r)) st1
 | .not_ a,st=>Ob (F.e a st) fun v st1=>oget (oS S st1 v) fun c=>some (.ok (.bool (!c)),st1)
 | .ite c a b,st=>Ob (F.t c st) fun q st1=>match q with
  |true=>F.e a st1
  |false=>F.e b st1
 | .bin op a b,st=>Ob (F.e a st) fun x st1=>Ob (F.e b st1) fun y st2=>ju op x y st2
 | .idx a i,st=>Ob (F.e a st) fun x st1=>Ob (F.e i st1) fun y st2=>pureO (pL S st2 x y) st2
 | .slc a (some lo) (some hi),st=>Ob (F.e a st) fun x st1=>Ob (F.e lo st1) fun l st2=>Ob (F.e hi st2) fun h st3=>pureO (lH x (some l) (some h)) st3
 | .slc a (some lo) none,st=>Ob (F.e a st) fun x st1=>Ob (F.e lo st1) fun l st2=>pureO (lH x (some l) none) st2
 | .slc _ none _,st=>none
 | .call f es,st=>Ob (F.e f st) fun v st1=>match ll T v with
  |true=>Ob (d0 F es st1) fun vs st2=>F.c v vs st2
  |false=>grd (jU st1 v) (Ob (d0 F es st1) fun vs st2=>grd (jU st2 v) (F.c v vs st2))
 | .mcall o m es,st=>Ob (F.e o st) fun v st1=>oget (ye T st1 v m) fun p=>Ob (d0 F es st1) fun vs st2=>F.c p.1 (p.2++vs) st2
 | .bcall b es,st=>match iK b,es with
  |some _,o::r=>Ob (F.e o st) fun v st1=>match BH b v st1 with
   |true=>Ob (d0 F r st1) fun vs st2=>rE S T b (v::vs) st2
   |false=>none
  |some _,[]=>none
  |none,es=>Ob (d0 F es st) fun vs st1=>rE S T b vs st1
 | .slcH a h,st=>Ob (F.e a st) fun x st1=>Ob (F.e h st1) fun y st2=>Bh x y st2
 | .bad,st=>none
 | .comp rg x it k,st=>Ob (F.e it st) fun v st1=>v8 S T F rg x k v st1
noncomputable def Fv:IE->St->Out Bool
 | .not_ a,st=>Ob (F.t a st) fun c st1=>some (.ok (!c),st1)
 | .and_ [],st=>some (.ok true,st)
 | .and_ (a::r),st=>Ob (F.t a st) fun c st1=>match c with
  |true=>F.t (.and_ r) st1
  |false=>some (.ok false,st1)
 | .or_ [],st=>some (.ok false,st)
 | .or_ (a::r),st=>Ob (F.t a st) fun c st1=>match c with
  |true=>some (.ok true,st1)
  |false=>F.t (.or_ r) st1
 | .cmp op a b,st=>Ob (F.e a st) fun x st1=>Ob (F.e b st1) fun y st2=>pureO (mC S st2 op x y) st2
 | .ite ..,st=>none
 | .bad,st=>none
 |e,st=>Ob (F.e e st) fun v st1=>pureO (oS S st1 v) st1
end
noncomputable def hU(K:Frag)(C:Nat)(x:Str)(f:Nat):Bool:=(specialIn K (.ref C) "__getattribute__"==some (some (.builtin "type.__getattribute__")))&&(match typeIn K (.ref C) with
 |some mc=>readsIn K C mc&&(match findCls K (.ref C) mc x with|some (.val v)=>v== .ref f|_=>false)
 |none=>false)&&keepIn K (.ref f)
noncomputable def ownIn(K:Frag)(C:Nat)(x:Str):Bool:=plainGet K C x&&hasDictIn K C&&(findIn K (.ref C) x==some none)
noncomputable def gz(K:Frag)(C f:Nat):Bool:=(findIn K (.ref C) "__init__"==some (some (.ref f)))&&isFn K (.ref f)
structure TbOk(S:Core)(T:Tb):Prop where
 cmps:∀sc k x,S.ce sc k x->∃e,lk T.cmps k=some e/\ME S sc e x
 ats:∀C x,fO T.ats C x=true->mO S.K C (S.nm x)=true
 sts:∀C x,fO T.sts C x=true->i9 S.K C (S.nm x)=true
 mts:∀C m f,xY T.mts C m=some f->oz S.K C (S.nm m) f=true/\f<S.HB
 cas:∀C m f,xY T.cas C m=some f->hU S.K C (S.nm m) f=true/\f<S.HB/\C<S.HB
 xst:∀C x,fO T.xst C x=true->dF S.K C (S.nm x)=true
 xgt:∀C x,fO T.xgt C x=true->lr S.K C (S.nm x)=true
 own:∀C x,fO T.own C x=true->ownIn S.K C (S.nm x)=true
 kp:∀k,ll T (.ref k)=true->k<S.HB/\keepIn S.K (.ref k)=true
 cls:∀C f,lk T.cls C=some f->makesIn S.K C=true/\gz S.K C f=true/\f<S.HB
 exs:∀C f,lk T.exs C=some f->cI S.K C=true/\gz S.K C f=true/\f<S.HB
 cat:∀C D,fO T.cat C D=true->mroIn S.K C (.ref D)=some true
 xin:findCls S.K (.type "Exception") (.type "type") (ag "__init__")=some (.val (.builtin "Exception.__init__"))
 isa:∀C D b,xY T.isa C D=some b->(if b then isIn S.K (.ref C) D=true else lp S.K C D=true)
section
variable{S:Sta}{cx:Cx}{α β γ:Type}{J:Rho}{g:Heap}{s:Shared}{VV:Rho->α->β->Prop}{Q:β->Shared->Prop}{E:Value->Shared->Prop}
inductive POg(S:Sta)(cx:Cx){α β γ:Type}(VV:Rho->α->β->Prop)(Q:β->Shared->Prop)(E:Value->Shared->Prop)(J:Rho)(g:Heap)(s:Shared)(o:Option γ)(f:γ->Out α):Prop
 |mk (a:γ) (e:o=some a) (h:Post S cx VV Q E J g s (f a)):POg S cx VV Q E J g s o f
theorem Post.oget{o:Option γ}{f:γ->Out α}(h:Post S cx VV Q E J g s (Mine.oget o f)):POg S cx VV Q E J g s o f:=by
 cases o with
 |none=>exact h.elim
 |some a=>exact⟨a,rfl,h⟩
theorem Post.grd{b:Bool}{o:Out α}(h:Post S cx VV Q E J g s (Mine.grd b o)):b=true/\Post S cx VV Q E J g s o:=by
 cases b with
 |false=>exact h.elim
 |true=>exact⟨rfl,h⟩
end
inductive HasTb(st:St)(k:Nat):Prop
 |mk (c d T:Nat) (e1:lk st.led k=some (.exc c d T)) (e2:lk st.led T=some .tb):HasTb st k
theorem n5{st:St}{k:Nat}(e:da st k=true):HasTb st k:=by
 obtain⟨u,e⟩:=kt.mp e
 obtain⟨x,e1,e⟩:e:=aC e
 obtain⟨p,e2,e⟩:e:=aC e
 obtain⟨e3,e⟩:e:=aM e
 rw[db] at e3
 induction dZ e2 using ExcA.casesOn with
 |exd C d t=>cases e3.1
 |exc C d t=>exact⟨C,d,t,e1,lB e3.2⟩
theorem vG{st:St}{k c d T:Nat}(e1:lk st.led k=some (.exc c d T))(e2:lk st.led T=some .tb):da st k=true:=by
 unfold da
 rw[e1]
 show(grd (oU st T) (some ())).isSome=true
 unfold oU
 rw[e2]
 rfl
theorem lj{v:AO}{p:Nat×Nat}(h:xn v=some p):v= .inst p.1 p.2:=by cases v<;>first|exact bn rfl (heq_of_eq h)|(cases h;rfl)
theorem wy{v:AO}{k:List Int}(h:CN v=some k):v= .plst k:=by cases v<;>first|exact bn rfl (heq_of_eq h)|(cases h;rfl)
theorem wZ{o:AO}{vs:List Value}(h:Bj o=some vs):o= .tup vs\/o= .lst vs:=by
 cases o<;>first|exact bn rfl (heq_of_eq h)|skip
 ·exact .inl (congrArg AO.tup (bd h))
 ·exact .inr (congrArg AO.lst (bd h))
theorem w0{o:AO}{vs:List (Str×Value)}(h:Bk o=some vs):o= .sdict vs\/o= .pdict vs:=by
 cases o<;>first|exact bn rfl (heq_of_eq h)|skip
 ·exact .inl (congrArg AO.sdict (bd h))
 ·exact .inr (congrArg AO.pdict (bd h))
theorem zQ{o:AO}{es:List (List Str×Nat×Value)}(h:Fu o=some es):o= .tdict es:=by cases o<;>first|exact bn rfl (heq_of_eq h)|(cases h;rfl)
theorem qr{o:AO}{p:Nat×Nat}(h:A6 o=some p):o= .dfn p.1 p.2:=by cases o<;>first|exact bn rfl (heq_of_eq h)|(cases h;rfl)
theorem va{o:AO}{p:Nat}(h:yv o=some p):o= .code p:=by cases o<;>first|exact bn rfl (heq_of_eq h)|(cases h;rfl)
theorem tK{o:AO}{p:List (Nat×Nat)}(h:yY o=some p):o= .tabl p:=by cases o<;>first|exact bn rfl (heq_of_eq h)|(cases h;rfl)
theorem dY{vs:List Value}{v:Value}(h:n6 vs=some v):vs= [v]:=by
 cases vs with
 |nil=>exact bn rfl (heq_of_eq h)
 |cons u r=>
  obtain⟨e1,e2⟩:h:=aM h
  rw[List.isEmpty_iff.mp e1,bd e2]
theorem gR{vs:List Value}{v:Value×Value}(h:sG vs=some v):vs= [v.1,v.2]:=by
 cases vs with
 |nil=>exact bn rfl (heq_of_eq h)
 |cons u r=>
  obtain⟨w,e1,e2⟩:h:=aC h
  rw[dY e1,<-bd e2]
theorem aQ{v:Value}{k:Nat}(h:bL v=some k):v= .ref k:=by cases v<;>first|exact bn rfl (heq_of_eq h)|(cases h;rfl)
theorem b7{v:AO}{k:List Value}(h:eD v=some k):v= .lst k:=by cases v<;>first|exact bn rfl (heq_of_eq h)|(cases h;rfl)
theorem qI{v:AO}{k:List Value}(h:zP v=some k):v= .tup k:=by cases v<;>first|exact bn rfl (heq_of_eq h)|(cases h;rfl)
theorem ew{v:AO}{k:List (Str×Value)}(h:w7 v=some k):v= .sdict k:=by cases v<;>first|exact bn rfl (heq_of_eq h)|(cases h;rfl)
theorem mS{v:AO}{k:List (Nat×Value)}(h:Dr v=some k):v= .adict k:=by cases v<;>first|exact bn rfl (heq_of_eq h)|(cases h;rfl)
theorem yH{v:AO}{k:Nat×Nat×Nat}(h:D1 v=some k):v= .exc k.1 k.2.1 k.2.2:=by cases v<;>first|exact bn rfl (heq_of_eq h)|(cases h;rfl)
theorem qq{v:AO}{k:Nat×Nat}(h:A0 v=some k):v= .exn k.1 k.2:=by cases v<;>first|exact bn rfl (heq_of_eq h)|(cases h;rfl)
theorem jH{v:AO}{k:List (Nat×Value)}(h:C6 v=some k):v= .ns k:=by cases v<;>first|exact bn rfl (heq_of_eq h)|(cases h;rfl)
theorem yO{v:AO}{k:Value}(h:Dj v=some k):v= .cell (some k):=by cases v<;>first|exact bn rfl (heq_of_eq h)|exact congrArg AO.cell h
theorem vA{st:St}{v:Value}(h:jU st v=true):∃k i tc,v= .ref k/\lk st.led k=some (.dfn i tc):=by
 obtain⟨p,e⟩:=kt.mp h
 obtain⟨k,e1,f1⟩:e:=aC e
 obtain⟨o,e2,f2⟩:f1:=aC f1
 cases aQ e1
 cases qr f2
 exact⟨k,p.1,p.2,rfl,e2⟩
noncomputable def VRs:Rho->List Value->List Value->Prop:=fun J=>All2 (VR J)
inductive VF(J:Rho):AF->Flow->Prop
 |next:VF J .next .next
 |brk:VF J .brk .brk
 |cont:VF J .cont .cont
 |ret {v v'}:VR J v v'->VF J (.ret v) (.ret v')
structure GoodX(S:Core)(T:Tb)(F:Fs):Prop where
 e:∀FN sc cx,CxOk ⟨S,FN⟩ cx sc->∀ir x,ME S sc ir x->∀st,Sat ⟨S,FN⟩ cx VR (eval x cx.env) st (F.e ir st)
 t:∀FN sc cx,CxOk ⟨S,FN⟩ cx sc->∀ir x,ME S sc ir x->∀st,Sat ⟨S,FN⟩ cx VB (Ie x cx.env (eval x cx.env)) st (F.t ir st)
 c:∀FN sc cx,CxOk ⟨S,FN⟩ cx sc->∀v vs st J g s Q E,Ok ⟨S,FN⟩ cx g s J st->∀v' vs',VR J v v'->All2 (VR J) vs vs'->Post ⟨S,FN⟩ cx VR Q E J g s (F.c v vs st)->fm (model S.prog S.w) cx.A (call v' vs') Q E s
structure CompT(S:Core)(T:Tb)(F:Fs):Prop where
 c:∀FN sc cx,CxOk ⟨S,FN⟩ cx sc->∀x it k i elt px scope pos,ME S sc it i->CompSc S sc scope x->S.ce (aT scope sc) k elt->∀st,Sat ⟨S,FN⟩ cx VR (eval (.ListComp elt [⟨.Name (S.nm x) px,i,[],0⟩] scope pos) cx.env) st (Bg S T F (.comp false x it k) st)
 r:∀FN sc cx,CxOk ⟨S,FN⟩ cx sc->∀x it k i elt px scope pos q r,bV S sc "range" (.type "range")->ME S sc it i->CompSc S sc scope x->S.ce (aT scope sc) k elt->∀st,Sat ⟨S,FN⟩ cx VR (eval (.ListComp elt [⟨.Name (S.nm x) px,.Call (.Name (ag "range") q) [i] [] r,[],0⟩] scope pos) cx.env) st (Bg S T F (.comp true x it k) st)
section
variable{S:Sta}{T:Tb}{F:Fs}{cx:Cx}{sc:Scope}{st:St}
variable{J:Rho}{g:Heap}{s:Shared}{Q:Value->Shared->Prop}{E:Value->Shared->Prop}{QU:Unit->Shared->Prop}{QB:Bool->Shared->Prop}
theorem gj(G:GoodX S.toCore T F)(C:CxOk S cx sc){pos:Pos}{es:List IE}{xs:List Expr}(hm:All2 (ME S.toCore sc) es xs):∀st,Sat S cx VRs (spliced (backTo pos (starEach xs cx.env))) st (d0 F es st):=by
 induction hm with
 |nil=>intro st J g s Q E hk hP;exact HK (hP.ret0 hk .nil)
 |cons h r ih=>
  intro st J g s Q E hk hP
  refine Hn ?_ (aL h.nStar)
  refine Sat.bind (G.e S.FN sc cx C _ _ h st) hk hP fun v st1 ι J1 g1 s1 v' x1 hv hP1=>?_
  refine Sat.bind (ih st1) x1.ok hP1 fun vs st2 ι J2 g2 s2 vs' x2 hvs hP2=>?_
  exact hP2.ret0 x2.ok (All2.cons (hv.le x2.le) hvs)
theorem ey(G:GoodX S.toCore T F)(C:CxOk S cx sc)(hk:Ok S cx g s J st){pos:Pos}{es:List IE}{xs:List Expr}(hm:All2 (ME S.toCore sc) es xs){f f':Value}{first first':List Value}(hf:VR J f f')(hfs:All2 (VR J) first first')(hkp:keepIn S.K f'=true)
  (hP:Post S cx VR Q E J g s (Ob (d0 F es st) fun vs st2=>F.c f (first++vs) st2)):fm (model S.prog S.w) cx.A (callWith pos f' first' (backTo pos (starEach xs cx.env)) []) Q E s:=by
 have inH:∀{J1 g1 s1 st1},Ok S cx g1 s1 J1 st1->S.K.In s1.heap:=fun o=>by
  obtain⟨m,news,F',N',R',hl'⟩:=o.fr
  exact(o.inG C).keeps F'.keep
 induction hm using All2.casesOn with
 |nil=>
  refine callWith_K0 (inH hk) hkp ?_
  rw[wT]
  have hP':Post S cx VR Q E J g s (F.c f (first++ []) st):=hP
  rw[wT] at hP'
  exact G.c S.FN sc cx C f first st J g s Q E hk f' first' hf hfs hP'
 |cons h r=>
  have hm:All2 (ME S.toCore sc) (_::_) (_::_):= .cons h r
  refine callWith_K (hk.inG C) hkp ?_ (aL h.nStar) (bS (MEs.nStar r))
  refine Sat.bind (gj G C hm st) hk hP fun vs st1 ι J1 g1 s1 vs' x1 hvs hP1=>⟨inH x1.ok,?_⟩
  exact G.c S.FN sc cx C f _ st1 J1 g1 s1 Q E x1.ok f' _ (hf.le x1.le) ((VRs.le x1.le hfs).append hvs) hP1
theorem br{J:Rho}{k:Nat}{v':Value}(hd:∀k,k<S.HB->J k=some k)(hk:k<S.HB)(h:VR J (.ref k) v'):v'= .ref k:=by
 obtain⟨a,e,rfl⟩:=h
 rw[hd k hk] at e
 cases e
 rfl
theorem Ok.hdr(hk:Ok S cx g s J st):∀k,k<S.HB->J k=some k:=by
 obtain⟨m,news,F',N',R',hl'⟩:=hk.fr
 exact R'.hd
theorem VR.head{k:Nat}(hd:∀k,k<S.HB->J k=some k)(hk:k<S.HB):VR J (.ref k) (.ref k):=⟨k,hd k hk,rfl⟩
theorem oE{st:St}{d x:Nat}{v:Value}(e:vj st d x=some v):∃es,lk st.led d=some (.adict es)/\lk es x=some v/\gk v=true:=by
 obtain⟨o,e1,e⟩:e:=aC e
 obtain⟨es,e2,e⟩:e:=aC e
 obtain⟨w,e3,e⟩:e:=aC e
 obtain⟨e4,e⟩:e:=aM e
 cases e
 cases mS e2
 exact⟨es,e1,e3,e4⟩
theorem te(TO:TbOk S.toCore T)(C:CxOk S cx sc)(hk:Ok S cx g s J st){o x:Value}{i:Nat}{b:Bool}(hx:VR J o x)(hP:Post S cx VR Q E J g s (pureO (rA T st o i) st)):fm (model S.prog S.w) cx.A (getAttr x (S.nm i) b) Q E s:=by
 cases e:rA T st o i with
 |none=>rw[e] at hP;exact hP.elim
 |some w=>
  rw[e] at hP
  obtain⟨k,e0,f1⟩:e:=aC e
  cases aQ e0
  obtain⟨b,e1,f2⟩:f1:=aC f1
  rcases dR f2 with⟨p,e2,f3⟩|⟨-,f3⟩
  ·cases lj e2
   obtain⟨e3,f4⟩:f3:=aM f3
   obtain⟨es,e4,e5,e6⟩:=oE f4
   exact rk C hk hx e1 e4 e5 e6 (TO.ats _ _ e3) hP
  ·obtain⟨p,e2,f5⟩:f3:=aC f3
   obtain⟨e3,f6⟩:f5:=aM f5
   obtain⟨e7,f7⟩:f6:=aM f6
   obtain⟨es,e4,e5,e6⟩:=oE f7
   induction dZ e2 using ExcA.casesOn with
   |exd=>cases e3
   |exc C' d t=>exact uP C hk hx e1 e4 e5 e6 (TO.xgt _ _ e7) hP
theorem qL{st:St}{d x:Nat}{v:Value}{r:Res Unit×St}(e:zY st d x v=some r):∃es,lk st.led d=some (.adict es)/\gy es.length 900=true/\r=(.ok (),{st with led:=up st.led d (.adict (put es x v))}):=by
 obtain⟨o,e1,f1⟩:e:=aC e
 obtain⟨es,e2,f2⟩:f1:=aC f1
 obtain⟨e3,f3⟩:f2:=aM f2
 have f4:=(bd f3).symm
 cases mS e2
 exact⟨es,e1,e3,f4⟩
theorem oY(TO:TbOk S.toCore T)(C:CxOk S cx sc)(hk:Ok S cx g s J st){o x v v':Value}{i:Nat}(hx:VR J o x)(hv:VR J v v')(hP:Post S cx VU QU E J g s (tV T st o i v)):fm (model S.prog S.w) cx.A (setAttr x (S.nm i) v') QU E s:=by
 cases e:tV T st o i v with
 |none=>rw[e] at hP;exact hP.elim
 |some w=>
  rw[e] at hP
  obtain⟨k,e0,f1⟩:e:=aC e
  cases aQ e0
  obtain⟨b,e1,f2⟩:f1:=aC f1
  rcases dR f2 with⟨p,e2,f3⟩|⟨-,f3⟩
  ·cases lj e2
   obtain⟨e3,f4⟩:f3:=aM f3
   obtain⟨es,e4,e5,rfl⟩:=qL f4
   exact rc C hk hx hv e1 e4 e5 (TO.sts _ _ e3) hP
  rcases dR f3 with⟨p,e2,f5⟩|⟨-,f5⟩
  ·obtain⟨e3,f6⟩:f5:=aM f5
   obtain⟨e7,f7⟩:f6:=aM f6
   obtain⟨es,e4,e5,rfl⟩:=qL f7
   induction dZ e2 using ExcA.casesOn with
   |exc=>cases e3
   |exd C' d t=>exact uH C hk hx hv e1 e4 e5 (TO.xst _ _ e7) hP
  ·obtain⟨p,e2,f8⟩:f5:=aC f5
   obtain⟨e3,f9⟩:f8:=aM f8
   cases qq e2
   have e:=bd f9
   subst e
   exact rZ C hk hx hv e1 (TO.xst _ _ e3) hP
theorem BL{z:Int}(h:ay z=true): -(2^63)<=z/\z<2^63:=by
 have:=bb h
 constructor<;>omega
theorem tJ{st:St}{k j:Nat}{v:Option Value}(e:EW S.toCore st k j=some v):∃es ks,lk st.led k=some (.tdict es)/\keysOk S.toCore st es=true/\gy 1 st.dp=true/\keyed S.toCore st j=some ks/\tI es ks=v:=by
 obtain⟨o,e1,f1⟩:e:=aC e
 obtain⟨es,e2,f2⟩:f1:=aC f1
 obtain⟨e3,f3⟩:f2:=aM f2
 obtain⟨ks,e4,f4⟩:f3:=aC f3
 rw[db] at e3
 cases zQ e2
 exact⟨es,ks,e1,e3.1,e3.2,e4,bd f4⟩
theorem uK(C:CxOk S cx sc)(hk:Ok S cx g s J st){a i v x y:Value}(hx:VR J a x)(hy:VR J i y)(e:pL S.toCore st a i=some v)(hP:Post S cx VR Q E J g s (some (.ok v,st))):
  fm (model S.prog S.w) cx.A (getItem x y) Q E s/\(s.TypeIs x "tuple"\/s.TypeIs x "list"\/s.TypeIs x "dict"):=by
 obtain⟨k,e1,e2⟩:e:=aC e
 cases aQ e1
 split at e2
 ·obtain⟨e3,e4⟩:e2:=aM e2
  obtain⟨o,e5,e6⟩:e4:=aC e4
  obtain⟨vs,e7,e8⟩:e6:=aC e6
  rcases wZ e7 with rfl|rfl
  ·have:=uO C hk hx hy e5 e8 (BL e3).1 (BL e3).2 hP;exact⟨this.1,.inl this.2⟩
  ·have:=ri C hk hx hy e5 e8 (BL e3).1 (BL e3).2 hP;exact⟨this.1,.inr (.inl this.2)⟩
 ·obtain⟨o,e3,e4⟩:e2:=aC e2
  obtain⟨es,e5,e6⟩:e4:=aC e4
  rcases w0 e5 with rfl|rfl
  ·have:=rj hk hx hy e3 e6 hP;exact⟨this.1,.inr (.inr this.2)⟩
  ·have:=om hk hx hy e3 e6 hP;exact⟨this.1,.inr (.inr this.2)⟩
 ·obtain⟨w,e3,e4⟩:e2:=aC e2
  obtain⟨es,ks,q1,q2,q3,q4,q5⟩:=tJ e3
  subst e4
  have:=xD C hk hx hy q1 q2 q4 q3 q5 hP;exact⟨this.1,.inr (.inr this.2)⟩
 ·cases e2
theorem Bs(C:CxOk S cx sc)(hk:Ok S cx g s J st){a i x y:Value}{value slice:Expr}(hx:VR J a x)(hy:VR J i y)(hs:cJ slice=true)(hP:Post S cx VR Q E J g s (pureO (pL S.toCore st a i) st)):fm (model S.prog S.w) cx.A (subscriptTail value slice x y) Q E s:=by
 cases e:pL S.toCore st a i with
 |none=>rw[e] at hP;exact hP.elim
 |some v=>
  rw[e] at hP
  obtain⟨h1,h2|h2|h2⟩:=uK C hk hx hy e hP
  ·exact og ⟨h1,h2⟩ slot_tuple_getitem.lookup hs
  ·exact og ⟨h1,h2⟩ slot_list_getitem.lookup hs
  ·exact og ⟨h1,h2⟩ slot_dict_getitem.lookup hs
theorem z4(C:CxOk S cx sc)(hk:Ok S cx g s J st){a i x y:Value}(hx:VR J a x)(hy:VR J i y)(hP:Post S cx VR Q E J g s (pureO (pL S.toCore st a i) st)):fm (model S.prog S.w) cx.A (getItem x y) Q E s:=by
 cases e:pL S.toCore st a i with
 |none=>rw[e] at hP;exact hP.elim
 |some v=>rw[e] at hP;exact(uK C hk hx hy e hP).1
theorem tY(C:CxOk S cx sc)(hk:Ok S cx g s J st){a i v x y v':Value}(hx:VR J a x)(hy:VR J i y)(hv:VR J v v')(hP:Post S cx VU QU E J g s (wY st a i v)):fm (model S.prog S.w) cx.A (setItem x y v') QU E s:=by
 cases e:wY st a i v with
 |none=>rw[e] at hP;exact hP.elim
 |some w=>
  rw[e] at hP
  obtain⟨k,e0,f1⟩:e:=aC e
  cases aQ e0
  rcases dR f1 with⟨z,e4,f2⟩|⟨-,f2⟩
  ·obtain⟨e1,f3⟩:f2:=aM f2
   obtain⟨b,e2,f4⟩:f3:=aC f3
   obtain⟨vs,e5,f5⟩:f4:=aC f4
   obtain⟨q,e3,f6⟩:f5:=aC f5
   cases b7 e5
   have e:=bd f6
   subst e
   obtain⟨t,rfl⟩:=cB e4
   exact rY C hk hx hy hv e2 e3 (BL e1).1 (BL e1).2 hP
  ·obtain⟨z,e4,f7⟩:f2:=aC f2
   obtain⟨b,e1,f8⟩:f7:=aC f7
   obtain⟨es,e5,f9⟩:f8:=aC f8
   obtain⟨e2,f10⟩:f9:=aM f9
   obtain⟨e3,f11⟩:f10:=aM f10
   cases ew e5
   have e:=bd f11
   subst e
   obtain⟨t,rfl⟩:=dK e4
   exact rb hk hx hy hv e1 e2 e3 hP
theorem vD{st:St}{a b:Value}{c:Bool}(e:FJ S.toCore st a b=some c):∃i t k,a= .str i t/\b= .ref k/\((∃es,lk st.led k=some (.sdict es)/\c=(iF es i).isSome)\/∃vs ys,rd S.toCore st k=some (.tup vs)/\strsOf vs=some ys/\c=dX i ys):=by
 obtain⟨i,e1,f1⟩:e:=aC e
 obtain⟨k,e2,f2⟩:f1:=aC f1
 skip
 obtain⟨t,rfl⟩:=dK e1
 cases aQ e2
 refine⟨i,t,k,rfl,rfl,?_⟩
 obtain⟨o,e3,f3⟩:f2:=aC f2
 split at f3
 ·obtain⟨o2,e4,f4⟩:f3:=aC f3
  obtain⟨es,e5,f5⟩:f4:=aC f4
  cases ew e5
  cases f5
  exact .inl ⟨es,e4,rfl⟩
 ·obtain⟨vs,e4,f4⟩:f3:=aC f3
  obtain⟨ys,e5,f5⟩:f4:=aC f4
  cases f5
  cases qI e4
  exact .inr ⟨vs,ys,e3,e5,rfl⟩
theorem ta(C:CxOk S cx sc)(hk:Ok S cx g s J st){op:CmpOp}{a b x y:Value}{c:Bool}(hx:VR J a x)(hy:VR J b y)(e:mC S.toCore st op a b=some c)(hP:Post S cx VR Q E J g s (some (.ok (.bool c),st))):fm (model S.prog S.w) cx.A (compareOp op x y) Q E s:=by
 cases op with
 |In=>
  obtain⟨i,t,k,rfl,rfl,⟨es,e1,rfl⟩|⟨vs,ys,e1,e2,rfl⟩⟩:=vD e
  ·exact uM hk hy hx e1 hP
  ·exact xC C hk hy hx e1 e2 hP
 |NotIn=>
  replace e:ou S.toCore st a b=some c:=e
  unfold ou at e
  split at e
  ·obtain⟨k,e1,f1⟩:e:=aC e
   obtain⟨w,e2,f2⟩:f1:=aC f1
   skip
   cases aQ e1
   obtain⟨es,ks,q1,q2,q3,q4,q5⟩:=tJ e2
   cases f2
   subst q5
   exact zm C hk hy hx q1 q2 q4 q3 hP
  ·obtain⟨i,t,k,rfl,rfl,⟨es,e1,h⟩|⟨vs,ys,e1,e2,h⟩⟩:=vD (fG e)
   ·have:c=!(iF es i).isSome:=by rw[<-h,Jd]
    subst this
    exact nG hk hy hx e1 hP
   ·have:c=!dX i ys:=by rw[<-h,Jd]
    subst this
    exact oh C hk hy hx e1 e2 hP
 |NotEq=>
  replace e:Ej S.toCore st a b=some c:=e
  unfold Ej at e
  split at e
  ·obtain⟨j,e1,f1⟩:e:=aC e
   obtain⟨d,e2,f2⟩:f1:=aC f1
   skip
   cases aQ e1
   cases f2
   exact uI C hk hx hy e2 hP
  ·exact yd hk hx hy e hP
 |_=>exact yd hk hx hy e hP
end
noncomputable def ren(f:Nat->Nat):Value->Value
 | .ref k=> .ref (f k)
 |v=>v
noncomputable def bg(f:Nat->Nat):AO->AO
 | .tup vs=> .tup (vs.map (ren f))
 | .lst vs=> .lst (vs.map (ren f))
 | .inst C d=> .inst C (f d)
 | .adict es=> .adict (es.map fun p=>(p.1,ren f p.2))
 | .sdict es=> .sdict (es.map fun p=>(p.1,ren f p.2))
 | .tdict es=> .tdict (es.map fun p=>(p.1,f p.2.1,ren f p.2.2))
 | .exc C d T=> .exc C (f d) (f T)
 | .exn C t=> .exn C (f t)
 | .exd C d t=> .exd C (f d) (f t)
 | .tb=> .tb
 | .fn=> .fn
 | .pdict es=> .pdict (es.map fun p=>(p.1,ren f p.2))
 | .cell v=> .cell (v.map (ren f))
 | .ns es=> .ns (es.map fun p=>(p.1,ren f p.2))
 | .tabl ps=> .tabl ps
 | .code i=> .code i
 | .dfn i tc=> .dfn i (f tc)
 | .gh gs=> .gh gs
 | .scr=> .scr
 | .plst ns=> .plst ns
theorem ak(v:Value):ren id v=v:=by cases v<;>rfl
theorem bc{α:Type}{f:α->α}(h:∀a,f a=a)(l:List α):l.map f=l:=by rw[show f=id from funext h,Kk]
theorem cf(x:AO):bg id x=x:=by
 cases x with
 |tup vs=>exact congrArg AO.tup (bc ak vs)
 |lst vs=>exact congrArg AO.lst (bc ak vs)
 |adict es=>exact congrArg AO.adict (bc (fun p=>by rw[ak]) es)
 |sdict es=>exact congrArg AO.sdict (bc (fun p=>by rw[ak]) es)
 |pdict es=>exact congrArg AO.pdict (bc (fun p=>by rw[ak]) es)
 |tdict es=>exact congrArg AO.tdict (bc (fun p=>by rw[ak];rfl) es)
 |ns es=>exact congrArg AO.ns (bc (fun p=>by rw[ak]) es)
 |cell v=>cases v with|none=>rfl|some v=>exact congrArg (fun v=>AO.cell (some v)) (ak v)
 |_=>rfl
theorem VR.ren{J:Rho}{f:Nat->Nat}{v w:Value}(h:VR J (Mine.ren f v) w):VR (fun k=>J (f k)) v w:=by cases v<;>exact h
theorem All2.of_map{α β γ:Type}{φ:α->γ}{R:γ->β->Prop}{l:List α}{m:List β}(h:All2 R (l.map φ) m):All2 (fun a b=>R (φ a) b) l m:=by
 induction l generalizing m with
 |nil=>rw[h.nilL];exact .nil
 |cons a l ih=>obtain⟨b,m,rfl,x,r⟩:=h.consL;exact .cons x (ih r)
theorem VRs.ren{J:Rho}{f:Nat->Nat}{vs ws:List Value}(h:All2 (VR J) (vs.map (Mine.ren f)) ws):All2 (VR (fun k=>J (f k))) vs ws:=(All2.of_map h).imp fun ι ι=>VR.ren
theorem uj{α β:Type}(φ:α->β):∀(es:List (Nat×α)) (x:Nat),lk (es.map fun p=>(p.1,φ p.2)) x=(lk es x).map φ
 | [],_=>rfl
 |p::r,x=>by
  rw[mo,aR,aR]
  cases av p.1 x with
  |true=>rfl
  |false=>exact uj φ r x
section
variable{prog:Program}{w:World}{nm:Nat->Str}{dfi:DfE}{FN:Nat->Obj->Prop}
theorem OR.ren{J:Rho}{f:Nat->Nat}(hg:∀gs es,dfi.gd gs es->∀p∈es,Mine.ren f p.2=p.2){x:AO}{o:Obj}(h:OR prog w nm dfi FN J (bg f x) o):OR prog w nm dfi FN (fun k=>J (f k)) x o:=by
 cases x with
 |tup vs=>obtain⟨v,e,r⟩:=h;exact⟨v,e,VRs.ren r⟩
 |lst vs=>obtain⟨v,n,e,r⟩:=h;exact⟨v,n,e,VRs.ren r⟩
 |inst C d=>exact h
 |adict es=>obtain⟨v,n,e,r⟩:=h;exact⟨v,n,e,(All2.of_map r).imp fun ι ι z=>⟨z.1,z.2.ren⟩⟩
 |sdict es=>obtain⟨v,e,r⟩:=h;exact⟨v,e,(All2.of_map r).imp fun ι ι z=>⟨z.1,z.2.ren⟩⟩
 |tdict es=>obtain⟨a,b,c,d,e,q,k,r⟩:=h;exact⟨a,b,c,d,e,q,k,(All2.of_map r).imp fun ι ι z=>⟨z.1,z.2.1,z.2.2.ren⟩⟩
 |exc C d T=>exact h
 |exn C t=>exact h
 |exd C d t=>exact h
 |tb=>exact h
 |fn=>exact h
 |plst ns=>exact h
 |pdict es=>obtain⟨y,v,e,r⟩:=h;exact⟨y,v,e,(All2.of_map r).imp fun ι ι z=>⟨z.1,z.2.ren⟩⟩
 |cell v=>
  obtain⟨vo,e,r⟩:=h
  refine⟨vo,e,?_⟩
  cases v with
  |none=>exact r
  |some v=>obtain⟨v',e',r⟩:=r;exact⟨v',e',r.ren⟩
 |ns es=>obtain⟨m,e,r⟩:=h;exact⟨m,e,fun x v q=>let⟨v',a,b⟩:=r x (Mine.ren f v) (by rw[uj,q];rfl);⟨v',a,b.ren⟩⟩
 |gh gs=>
  obtain⟨es,q,v,e,r⟩:=h
  refine⟨es,q,v,e,?_⟩
  have:∀{l:List (Str×Value)} {m:List (Str×Value)},(∀p∈l,Mine.ren f p.2=p.2)->All2 (SR J) l m->All2 (SR fun k=>J (f k)) l m:=by
   intro l m hp hr
   induction hr with
   |nil=>exact .nil
   |cons a r ih=>exact .cons ⟨a.1,VR.ren (by rw[hp _ (.head _)];exact a.2)⟩ (ih fun p hq=>hp p (.tail _ hq))
  exact this (hg gs es q) r
 |scr=>exact h
 |tabl ps=>exact h
 |code i=>exact h
 |dfn i tc=>exact h
end
theorem sa{α β:Type}{R S:α->β->Prop}{l:List α}{m:List β}(x:All2 R l m):(∀a∈l,∀b,R a b->S a b)->All2 S l m:=by
 induction x with
 |nil=>exact fun ι=> .nil
 |cons h r ih=>exact fun f=> .cons (f _ (.head _) _ h) (ih fun a ha b=>f a (.tail _ ha) b)
theorem vp{α β:Type}{R:α->β->Prop}{l:List α}{m:List β}(x:All2 R l m){a:α}:a∈l->∃(i:Nat) (b:β),l[i]?=some a/\m[i]?=some b/\R a b:=by
 induction x with
 |nil=>exact fun e=>absurd e HN
 |cons h r ih=>
  intro hm
  rcases eq.mp hm with rfl|hm
  ·exact⟨0,_,rfl,rfl,h⟩
  ·exact let⟨i,b,h⟩:=ih hm;⟨i+1,b,h⟩
theorem ro{α:Type}{l:List α}(h:l.Nodup){i j:Nat}{a:α}(hi:l[i]?=some a)(hj:l[j]?=some a):i=j:=by
 obtain⟨h1,h2⟩:=He.mp hi
 obtain⟨h3,h4⟩:=He.mp hj
 rcases Nat.lt_trichotomy i j with q|q|q
 ·exact absurd (h2.trans h4.symm) ((Jz.mp h) i j h1 h3 q)
 ·exact q
 ·exact absurd (h4.trans h2.symm) ((Jz.mp h) j i h3 h1 q)
theorem s9{α β γ δ δ':Type}{R:α->β->Prop}{φ:γ->α}{key:α->δ}{ad:β->δ'}{l:List α}{m:List β}(h:All2 R l m)(hnd:(m.map ad).Nodup){q:List γ}:(∀p∈q,φ p∈l)->(q.map fun p=>key (φ p)).Nodup->
  ∃m',All2 (fun p b=>R (φ p) b) q m'/\(∀b∈m',∃p∈q,∃i:Nat,l[i]?=some (φ p)/\m[i]?=some b)/\(m'.map ad).Nodup:=by
 induction q with
 |nil=>exact fun ι ι=>⟨[],.nil,(fun ι h=>nomatch h),.nil⟩
 |cons p q ih=>
  intro hm hk
  rw[mo,sB] at hk
  obtain⟨m',h1,h2,h3⟩:=ih (fun z hz=>hm z (.tail _ hz)) hk.2
  obtain⟨i,b,e1,e2,e3⟩:=vp h (hm p (.head _))
  refine⟨b::m',.cons e3 h1,fun c hc=>?_,?_⟩
  ·rcases eq.mp hc with rfl|hc
   ·exact⟨p,.head _,i,e1,e2⟩
   ·obtain⟨z,hz,r⟩:=h2 c hc;exact⟨z,.tail _ hz,r⟩
  ·rw[mo,sB]
   refine⟨fun hx=>?_,h3⟩
   obtain⟨c,hc,e4⟩:=re.mp hx
   obtain⟨z,hz,j,e5,e6⟩:=h2 c hc
   have hij:i=j:=ro (l:=m.map ad) hnd (i:=i) (j:=j) (a:=ad b) (by rw[Iq,e2];rfl) (by rw[Iq,e6,<-e4];rfl)
   subst hij
   rw[e1] at e5
   have e7:=bd e5
   exact hk.1 (re.mpr ⟨z,hz,by rw[e7]⟩)
section
variable{S:Sta}{T:Tb}{F:Fs}{cx:Cx}{sc:Scope}{st st':St}
variable{J:Rho}{g:Heap}{s:Shared}{Q:Value->Shared->Prop}{E:Value->Shared->Prop}{QU:Unit->Shared->Prop}{QB:Bool->Shared->Prop}{QF:Flow->Shared->Prop}
noncomputable def dc:AO->Bool
 | .fn=>true
 | .pdict _=>true
 | .plst _=>true
 |_=>false
theorem OR.key{prog:Program}{w:World}{nm:Nat->Str}{dfi:DfE}{J:Rho}{FN FN':Nat->Obj->Prop}{x:AO}{o:Obj}(h:dc x=true->FN=FN')(r:OR prog w nm dfi FN J x o):OR prog w nm dfi FN' J x o:=by
 cases x<;>first|exact r|(rw[<-h rfl];exact r)
structure Weak(S:Core)(f:Nat->Nat)(st st':St):Prop where
 hd:∀k,k<S.HB->f k=k
 hb:S.HB<=st.nx->S.HB<=st'.nx
 gh:∀gs es,S.dfi.gd gs es->∀p∈es,ren f p.2=p.2
 hi:∀k,st'.nx<=k->st.nx<=f k
 led:∀p∈st'.led,(f p.1,bg f p.2)∈st.led
 nd:(st.led.map (·.1)).Nodup->(st'.led.map fun p=>f p.1).Nodup
 lo:∀x v,lk st'.lo x=some v->lk st.lo x=some (ren f v)
 pin:∀p∈st'.led,dc p.2=true->f p.1=p.1
 h:st.hd=st'.hd.map f
 dp:st'.dp<=st.dp
theorem Ok.keys(hk:Ok S cx g s J st):(st.led.map (·.1)).Nodup:=by
 obtain⟨m,news,F',N,R,hl⟩:=hk.fr
 have:∀{l:List (Nat×AO)} {n:Led},All2 (ER S.prog S.w S.nm S.dfi S.FN J) l n->(n.map (·.1)).Nodup->(l.map (·.1)).Nodup:=by
  intro l n h
  induction h with
  |nil=>exact fun ι=> .nil
  |cons a r ih=>
   intro hn
   rw[mo,sB] at hn⊢
   refine⟨fun hm=>?_,ih hn.2⟩
   obtain⟨p,hp,e⟩:=re.mp hm
   obtain⟨q,hq,hr⟩:=r.mem hp
   refine hn.1 (re.mpr ⟨q,hq,?_⟩)
   have h1:=hr.1
   rw[e,a.1] at h1
   exact(bd h1).symm
 exact this R.er R.nd
theorem Ok.weak{f:Nat->Nat}(hk:Ok S cx g s J st)(W:Weak S.toCore f st st'):Ok S cx g s (fun k=>J (f k)) st':=by
 have hkeys:=hk.keys
 obtain⟨m,news,F',N,R,hl⟩:=hk.fr
 obtain⟨news',h1,h2,h3⟩:=s9 (φ:=fun p:Nat×AO=>(f p.1,bg f p.2)) (key:=fun p:Nat×AO=>p.1) (ad:=fun q:Addr×Obj=>q.1) R.er R.nd W.led (W.nd hkeys)
 have hd:=hk.hd
 have hdp:=hk.dp
 have hun:=hk.un
 have hle:=W.dp
 refine⟨hk.B,⟨m,news',F',fun q hq=>?_,⟨fun k hk=>by rw[W.hd k hk];exact R.hd k hk,W.hb R.hb,fun k hk=>R.hi _ (W.hi k hk),h3,sa h1 fun p hp q z=>⟨z.1,OR.key (fun e=>by rw[W.pin p hp e]) (z.2.1.ren W.gh),z.2.2⟩⟩,fun x v e=>?_⟩,?_,by omega,by omega⟩
 ·obtain⟨p,hp,i,e1,e2⟩:=h2 q hq
  exact N q (Kj e2)
 ·obtain⟨v',a,b⟩:=hl x _ (W.lo x v e)
  exact⟨v',a,b.ren⟩
 ·rw[W.h] at hd
  revert hd
  cases st'.hd with
  |none=>exact id
  |some k=>exact fun⟨e,a,b⟩=>⟨e,a,b⟩
inductive WkO{α:Type}(S:Core)(n:Nat)(rv:(Nat->Nat)->α->α):Out α->Out α->Prop
 |none {o}:WkO S n rv o none
 |ok {f v v' st st'}:Weak S f st st'->(∀k,k<n->f k=k)->v=rv f v'->WkO S n rv (some (.ok v,st)) (some (.ok v',st'))
 |err {f k k' st st'}:Weak S f st st'->(∀k,k<n->f k=k)->k=f k'->WkO S n rv (some (.err k,st)) (some (.err k',st'))
theorem Ext.weak{f:Nat->Nat}{J':Rho}{g':Heap}{s':Shared}{st1:St}(hk:Ok S cx g s J st)(x:Ext S cx J g s J' g' s' st1)(W:Weak S.toCore f st1 st')(hf:∀k,k<st.nx->f k=k):Ext S cx J g s (fun k=>J' (f k)) g' s' st':=by
 refine⟨fun k a h=>?_,x.turn,x.same,x.ok.weak W⟩
 obtain⟨m,news,F',N,R,hl⟩:=hk.fr
 have:k<st.nx:=KZ fun z=>by rw[R.hi k z] at h;cases h
 show J' (f k)=some a
 rw[hf k this]
 exact x.le _ _ h
theorem Post.weak{α β:Type}{VV:Rho->α->β->Prop}{rv:(Nat->Nat)->α->α}{Q:β->Shared->Prop}{E:Value->Shared->Prop}(hVV:∀J f v v',VV J (rv f v) v'->VV (fun k=>J (f k)) v v'){o o':Out α}(hk:Ok S cx g s J st)(W:WkO S.toCore st.nx rv o o')(hP:Post S cx VV Q E J g s o'):Post S cx VV Q E J g s o:=by
 induction W using WkO.casesOn with
 |none=>exact hP.elim
 |ok w hf e=>subst e;exact fun J' g' s' v' x hv=>hP _ g' s' v' (x.weak hk w hf) (hVV _ _ _ _ hv)
 |err w hf e=>subst e;exact fun J' g' s' a x ha=>hP _ g' s' a (x.weak hk w hf) ha
end
noncomputable def ah(f:Nat->Nat):AF->AF
 | .ret v=> .ret (ren f v)
 |x=>x
theorem VF.ren{J:Rho}{f:Nat->Nat}{v:AF}{v':Flow}(h:VF J (ah f v) v'):VF (fun k=>J (f k)) v v':=by
 cases v<;>cases h
 ·exact .next
 ·exact .brk
 ·exact .cont
 ·exact .ret (VR.ren (by assumption))
noncomputable def JE(S:Core)(e:IE)(st:St)(o:Out Value):Prop:=∀FN sc cx,CxOk ⟨S,FN⟩ cx sc->∀x,ME S sc e x->Sat ⟨S,FN⟩ cx VR (eval x cx.env) st o
noncomputable def JT(S:Core)(e:IE)(st:St)(o:Out Bool):Prop:=∀FN sc cx,CxOk ⟨S,FN⟩ cx sc->∀x,ME S sc e x->Sat ⟨S,FN⟩ cx VB (Ie x cx.env (eval x cx.env)) st o
noncomputable def JC(S:Core)(v:Value)(vs:List Value)(st:St)(o:Out Value):Prop:=∀FN sc cx,CxOk ⟨S,FN⟩ cx sc->∀J g s,Ok ⟨S,FN⟩ cx g s J st->∀v' vs',VR J v v'->All2 (VR J) vs vs'->∀Q E,Post ⟨S,FN⟩ cx VR Q E J g s o->fm (model S.prog S.w) cx.A (call v' vs') Q E s
theorem Weak.refl{S:Core}{st:St}:Weak S id st st:=
 {hd:=fun ι ι=>rfl,hb:=id,gh:=fun ι ι ι p ι=>ak p.2,hi:=fun ι h=>h,led:=fun p hp=>by rw[cf];exact hp,nd:=fun h=>h,lo:=fun x v e=>by rw[ak];exact e,pin:=fun ι ι ι=>rfl,h:=by simp,dp:=wh _}
theorem bX{f:Expr}{args:List Expr}{pos:Pos}{env:Env}(h:nP f=true):eval (.Call f args [] pos) env=(do
  callWith pos (<-eval f env) [] (backTo pos (starEach args env)) (backToKw pos (keywordEach [] env))):=by
 cases f<;>first|rfl|exact dL h|cases h
section
variable{S:Sta}{T:Tb}{F:Fs}{cx:Cx}{sc:Scope}{st:St}
variable{J:Rho}{g:Heap}{s:Shared}{Q:Value->Shared->Prop}{E:Value->Shared->Prop}{QU:Unit->Shared->Prop}{QB:Bool->Shared->Prop}
theorem cL(C:CxOk S cx sc)(hk:Ok S cx g s J st){n:String}{v:Value}{pos:Pos}(h:bV S.toCore sc n v)(hQ:Q v s):fm (model S.prog S.w) cx.A (eval (.Name (ag n) pos) cx.env) Q E s:=by
 obtain⟨h1,h2,h3,h4,h5⟩:=h
 obtain⟨m,news,F',N',R',hl'⟩:=hk.fr
 have G:=I1 (hk.topG C)
 refine IP C.K (C.kd h1) (loadGlobal_builtin (mg:=S.mg) (mb:=S.mb) ?_ (mg_none_of (hk.inG C) G.g h2) ?_ ((G.builtins _ h4).trans h3) hQ) h5
 ·rw[C.gl]
  exact G.g.keeps F'.keep
 ·rw[C.bi]
  exact G.b.keeps F'.keep
theorem il{F:Fs}{a:IE}{st:St}:d0 F [a] st=Ob (F.e a st) fun v st1=>some (.ok [v],st1):=by
 show Ob (F.e a st) (fun v st1=>Ob (some (.ok [],st1)) fun vs st2=>some (.ok (v::vs),st2))=_
 rfl
theorem gX{α β γ:Type}(o:Out α)(f:α->St->Out β)(h:β->St->Out γ):Ob (Ob o f) h=Ob o fun v st=>Ob (f v st) h:=by
 match o with
 |none=>rfl
 |some (.ok v,st)=>rfl
 |some (.err k,st)=>rfl
theorem E0(G:GoodX S.toCore T F)(C:CxOk S cx sc)(hk:Ok S cx g s J st){n:String}{id:String}{a:IE}{x:Expr}{b:BI}{q p:Pos}(hw:bV S.toCore sc n (.builtin id))(hm:ME S.toCore sc a x)
  (hP:Post S cx VR Q E J g s (Ob (d0 F [a] st) fun vs st1=>rE S.toCore T b vs st1))
  (h:∀v v' J1 g1 s1 st1,Ok S cx g1 s1 J1 st1->VR J1 v v'->Post S cx VR Q E J1 g1 s1 (rE S.toCore T b [v] st1)->fm (model S.prog S.w) cx.A (call (.builtin id) [v']) Q E s1):
  fm (model S.prog S.w) cx.A (eval (.Call (.Name (ag n) q) [x] [] p) cx.env) Q E s:=by
 rw[il,gX] at hP
 rw[bX rfl]
 refine ca (cL C hk hw ?_)
 refine H5 ?_ (aL hm.nStar) rfl
 refine Hn ?_ (aL hm.nStar)
 refine Sat.bind (G.e S.FN sc cx C _ _ hm st) hk hP fun v st1 ι J1 g1 s1 v' x1 hv hP1=>?_
 exact HK (h v v' J1 g1 s1 st1 x1.ok hv hP1)
theorem Bq(G:GoodX S.toCore T F)(C:CxOk S cx sc)(hk:Ok S cx g s J st){n:String}{id:String}{a:IE}{x:Expr}{b:BI}{q p:Pos}(hw:bV S.toCore sc n (.type id))(hm:ME S.toCore sc a x)
  (hP:Post S cx VR Q E J g s (Ob (d0 F [a] st) fun vs st1=>rE S.toCore T b vs st1))
  (h:∀v v' J1 g1 s1 st1,Ok S cx g1 s1 J1 st1->VR J1 v v'->Post S cx VR Q E J1 g1 s1 (rE S.toCore T b [v] st1)->fm (model S.prog S.w) cx.A (call (.type id) [v']) Q E s1):
  fm (model S.prog S.w) cx.A (eval (.Call (.Name (ag n) q) [x] [] p) cx.env) Q E s:=by
 rw[il,gX] at hP
 rw[bX rfl]
 refine ca (cL C hk hw ?_)
 refine Hz ?_ (aL hm.nStar) rfl
 refine Hn ?_ (aL hm.nStar)
 refine Sat.bind (G.e S.FN sc cx C _ _ hm st) hk hP fun v st1 ι J1 g1 s1 v' x1 hv hP1=>?_
 exact HK (h v v' J1 g1 s1 st1 x1.ok hv hP1)
theorem jK{v:Value}{st:St}(e:qc v st=true):∃k vs,v= .ref k/\lk st.led k=some (.lst vs):=by
 obtain⟨vs,f1⟩:=kt.mp e
 obtain⟨k,e1,f2⟩:f1:=aC f1
 obtain⟨o,e2,f3⟩:f2:=aC f2
 cases b7 f3
 exact⟨k,vs,aQ e1,e2⟩
theorem CV(C:CxOk S cx sc)(hk:Ok S cx g s J st){b:BI}{ty nmm id:String}(hb:iK b=some (ty,nmm,id)){v v':Value}(hv:VR J v v')(e:BH b v st=true){pl:Jv Bool}{QM:Value×List Value->Shared->Prop}(h:QM (.builtin id,[v']) s):
  fm (model S.prog S.w) cx.A (getMethod v' (ag nmm) pl) QM E s:=by
 cases b with
 |append=>obtain⟨k,vs,rfl,e1⟩:=jK e;cases hb;exact cn C hk hv e1 PySem.F.slot_list_append PySem.F.type_list_append h
 |pop=>obtain⟨k,vs,rfl,e1⟩:=jK e;cases hb;exact cn C hk hv e1 PySem.F.slot_list_pop PySem.F.type_list_pop h
 |extend=>obtain⟨k,vs,rfl,e1⟩:=jK e;cases hb;exact cn C hk hv e1 PySem.F.slot_list_extend PySem.F.type_list_extend h
 |get=>
  obtain⟨vs,f1⟩:=kt.mp e
  obtain⟨k,e2,f2⟩:f1:=aC f1
  obtain⟨o,e1,f3⟩:f2:=aC f2
  cases ew f3
  cases aQ e2
  cases hb;exact lN hk hv e1 h
 |join=>
  obtain⟨y,f1⟩:=kt.mp e
  obtain⟨t,rfl⟩:=dJ f1 hv
  cases hb;exact PySem.GM.join h
 |_=>exact dL e
theorem z3(G:GoodX S.toCore T F)(C:CxOk S cx sc)(hk:Ok S cx g s J st){b:BI}{ty nmm id:String}(hb:iK b=some (ty,nmm,id)){o:IE}{es:List IE}{x:Expr}{xs:List Expr}{q p:Pos}(ho:ME S.toCore sc o x)(hm:All2 (ME S.toCore sc) es xs)(hc:d9 x=true)(hz:gy xs.length 20=true)(hl:(q.endLine==p.line)=true)
  (hP:Post S cx VR Q E J g s (Ob (F.e o st) fun v st1=>match BH b v st1 with
   |true=>Ob (d0 F es st1) fun vs st2=>rE S.toCore T b (v::vs) st2
   |false=>none))
  (h:∀v vs v' vs' J1 g1 s1 st1,Ok S cx g1 s1 J1 st1->VR J1 v v'->All2 (VR J1) vs vs'->Post S cx VR Q E J1 g1 s1 (rE S.toCore T b (v::vs) st1)->fm (model S.prog S.w) cx.A (call (.builtin id) (v'::vs')) Q E s1):
  fm (model S.prog S.w) cx.A (eval (.Call (.Attribute x (ag nmm) q) xs [] p) cx.env) Q E s:=by
 refine Ki ?_ (fR hc (MEs.nStar hm) hz hl)
 refine Sat.bind (G.e S.FN sc cx C _ _ ho st) hk hP fun v st1 ι J1 g1 s1 v' x1 hv hP1=>?_
 cases e1:BH b v st1 with
 |false=>rw[e1] at hP1;exact hP1.elim
 |true=>
  rw[e1] at hP1
  refine CV C x1.ok hb hv e1 ?_
  dsimp only
  cases hm with
  |nil=>
   refine callWith_method0 ?_
   exact h v [] v' [] J1 g1 s1 st1 x1.ok hv .nil hP1
  |cons h1 r=>
   have hm:All2 (ME S.toCore sc) (_::_) (_::_):= .cons h1 r
   refine KU ?_ (aL h1.nStar) (bS (MEs.nStar r))
   refine Sat.bind (gj G C hm st1) x1.ok hP1 fun vs st2 ι J2 g2 s2 vs' x2 hvs hP2=>?_
   exact h v vs v' vs' J2 g2 s2 st2 x2.ok (hv.le x2.le) hvs hP2
theorem all1{vs':List Value}{v:Value}(h:All2 (VR J) [v] vs'):∃v',vs'= [v']/\VR J v v':=by
 cases h with
 |cons h r=>cases r;exact⟨_,rfl,h⟩
theorem all2{vs':List Value}{v u:Value}(h:All2 (VR J) [v,u] vs'):∃v' u',vs'= [v',u']/\VR J v v'/\VR J u u':=by
 cases h with
 |cons h r=>cases r with
  |cons h2 r=>cases r;exact⟨_,_,rfl,h,h2⟩
theorem we(C:CxOk S cx sc)(hk:Ok S cx g s J st){vs vs':List Value}(hv:All2 (VR J) vs vs')(hP:Post S cx VR Q E J g s (zD S.toCore vs st)):fm (model S.prog S.w) cx.A (call (.builtin "len") vs') Q E s:=by
 obtain⟨v,e1,hP1⟩:hP:=hP.oget
 obtain⟨n,e2,hP2⟩:hP1:=hP1.oget
 cases dY e1
 obtain⟨v',rfl,h1⟩:=all1 hv
 exact CW C hk h1 e2 hP2
theorem rQ(C:CxOk S cx sc)(hk:Ok S cx g s J st){vs vs':List Value}(hv:All2 (VR J) vs vs')(hP:Post S cx VR Q E J g s (rC S.toCore vs st)):fm (model S.prog S.w) cx.A (call (.builtin "isinstance") (vs'++ [.type "tuple"])) Q E s:=by
 obtain⟨v,e1,hP1⟩:hP:=hP.oget
 cases dY e1
 obtain⟨v',rfl,h1⟩:=all1 hv
 cases z:bL v with
 |some k=>
  rw[z] at hP1
  obtain⟨o,e2,hP2⟩:Post:=Post.oget hP1
  obtain⟨us,e3,hP3⟩:hP2:=hP2.oget
  cases aQ z
  cases qI e3
  exact xB C hk h1 e2 hP3
 |none=>
  rw[z] at hP1
  obtain⟨o,e2,hP2⟩:Post:=Post.oget hP1
  obtain⟨t,rfl⟩:=dK e2
  exact ol hk h1 hP2
theorem rR(TO:TbOk S.toCore T)(C:CxOk S cx sc)(hk:Ok S cx g s J st){D:Nat}{vs vs':List Value}(hv:All2 (VR J) vs vs')(hP:Post S cx VR Q E J g s (rD T D vs st)):fm (model S.prog S.w) cx.A (call (.builtin "isinstance") (vs'++ [.ref D])) Q E s:=by
 obtain⟨v,e1,hP1⟩:hP:=hP.oget
 obtain⟨k,e2,hP2⟩:hP1:=hP1.oget
 obtain⟨o,e3,hP3⟩:hP2:=hP2.oget
 obtain⟨p,e4,hP4⟩:hP3:=hP3.oget
 obtain⟨c,e5,hP5⟩:hP4:=hP4.oget
 obtain⟨o2,e6,hP6⟩:hP5:=hP5.oget
 obtain⟨es,e7,hP7⟩:hP6:=hP6.oget
 cases dY e1
 cases aQ e2
 cases yH e4
 cases mS e7
 obtain⟨v',rfl,a,hka,rfl⟩:=all1 hv
 obtain⟨m,news,F',N,R,hl⟩:=hk.fr
 obtain⟨o,q2,⟨tx,dx,Tx,q5,q6,rfl⟩,q4⟩:=ER.findA R.er e3 hka
 obtain⟨o2,g2,⟨ents,n,rfl,hes⟩,g4⟩:=ER.findA R.er e6 q5
 have I:=InstAt.of_newsF N q2 g2
 have hi:=TO.isa _ _ _ e5
 cases c with
 |true=>exact isi_call ((hk.inG C).keeps F'.keep) (fun M=>I.type) hi (by intro e;cases e) (hP7.ret0 hk (VR.bool_ _))
 |false=>exact sC ((hk.inG C).keeps F'.keep) I hi (hP7.ret hk (VR.bool_ _) _)
theorem wc(hk:Ok S cx g s J st){vs vs':List Value}(hv:All2 (VR J) vs vs')(hP:Post S cx VR Q E J g s (zB vs st)):fm (model S.prog S.w) cx.A (call (.type "str") vs') Q E s:=by
 obtain⟨v,e1,hP1⟩:hP:=hP.oget
 obtain⟨i,e2,hP2⟩:hP1:=hP1.oget
 obtain⟨e3,hP3⟩:hP2:=hP2.grd
 cases dY e1
 obtain⟨t,rfl⟩:=cB e2
 obtain⟨v',rfl,h1⟩:=all1 hv
 exact CQ hk h1 e3 hP3
theorem wg(hk:Ok S cx g s J st){vs vs':List Value}(hv:All2 (VR J) vs vs')(hP:Post S cx VR Q E J g s (zE vs st)):fm (model S.prog S.w) cx.A (call (.type "int") vs') Q E s:=by
 obtain⟨v,e1,hP1⟩:hP:=hP.oget
 obtain⟨i,e2,hP2⟩:hP1:=hP1.oget
 obtain⟨e3,hP3⟩:hP2:=hP2.grd
 obtain⟨n,e4,hP4⟩:hP3:=hP3.oget
 cases dY e1
 obtain⟨t,rfl⟩:=dK e2
 obtain⟨v',rfl,h1⟩:=all1 hv
 exact CX hk h1 e4 e3 hP4
theorem o7(C:CxOk S cx sc)(hk:Ok S cx g s J st){vs vs':List Value}(hv:All2 (VR J) vs vs')(hP:Post S cx VR Q E J g s (oI vs st)):fm (model S.prog S.w) cx.A (call (.builtin "list.append") vs') Q E s:=by
 obtain⟨⟨v,u⟩,e1,hP1⟩:hP:=hP.oget
 obtain⟨k,e2,hP2⟩:hP1:=hP1.oget
 obtain⟨o,e3,hP3⟩:hP2:=hP2.oget
 obtain⟨ws,e4,hP4⟩:hP3:=hP3.oget
 obtain⟨e5,hP5⟩:hP4:=hP4.grd
 cases gR e1
 cases aQ e2
 cases b7 e4
 obtain⟨v',u',rfl,h1,h2⟩:=all2 hv
 exact nJ C hk h1 h2 e3 e5 hP5
theorem wd(C:CxOk S cx sc)(hk:Ok S cx g s J st){vs vs':List Value}(hv:All2 (VR J) vs vs')(hP:Post S cx VR Q E J g s (zC vs st)):fm (model S.prog S.w) cx.A (call (.builtin "list.pop") vs') Q E s:=by
 obtain⟨v,e1,hP1⟩:hP:=hP.oget
 obtain⟨k,e2,hP2⟩:hP1:=hP1.oget
 obtain⟨o,e3,hP3⟩:hP2:=hP2.oget
 obtain⟨ws,e4,hP4⟩:hP3:=hP3.oget
 obtain⟨e5,hP5⟩:hP4:=hP4.grd
 obtain⟨⟨q,y⟩,e6,hP6⟩:hP5:=hP5.oget
 cases dY e1
 cases aQ e2
 cases b7 e4
 obtain⟨v',rfl,h1⟩:=all1 hv
 exact CU C hk h1 e3 e6 e5 hP6
theorem oZ(C:CxOk S cx sc)(hk:Ok S cx g s J st){vs vs':List Value}(hv:All2 (VR J) vs vs')(hP:Post S cx VR Q E J g s (oH vs st)):fm (model S.prog S.w) cx.A (call (.builtin "list.extend") vs') Q E s:=by
 obtain⟨⟨v,u⟩,e1,hP1⟩:hP:=hP.oget
 obtain⟨k,e2,hP2⟩:hP1:=hP1.oget
 obtain⟨j,e3,hP3⟩:hP2:=hP2.oget
 obtain⟨o,e4,hP4⟩:hP3:=hP3.oget
 obtain⟨ws,e5,hP5⟩:hP4:=hP4.oget
 obtain⟨o2,e6,hP6⟩:hP5:=hP5.oget
 obtain⟨us,e7,hP7⟩:hP6:=hP6.oget
 obtain⟨e8,hP8⟩:hP7:=hP7.grd
 obtain⟨e9,hP9⟩:hP8:=hP8.grd
 cases gR e1
 cases aQ e2
 cases aQ e3
 cases b7 e5
 cases b7 e7
 obtain⟨v',u',rfl,h1,h2⟩:=all2 hv
 exact uQ C hk h1 h2 e4 e6 e8 (by simpa using e9) hP9
theorem wi(hk:Ok S cx g s J st){vs vs':List Value}(hv:All2 (VR J) vs vs')(hP:Post S cx VR Q E J g s (zF vs st)):fm (model S.prog S.w) cx.A (call (.builtin "dict.get") vs') Q E s:=by
 obtain⟨⟨v,u⟩,e1,hP1⟩:hP:=hP.oget
 obtain⟨k,e2,hP2⟩:hP1:=hP1.oget
 obtain⟨x,e3,hP3⟩:hP2:=hP2.oget
 obtain⟨o,e4,hP4⟩:hP3:=hP3.oget
 obtain⟨es,e5,hP5⟩:hP4:=hP4.oget
 cases gR e1
 cases aQ e2
 obtain⟨t,e3'⟩:=dK e3
 cases ew e5
 obtain⟨v',u',rfl,h1,h2⟩:=all2 hv
 dsimp only at e3'
 subst e3'
 exact rm hk h1 h2 e4 hP5
theorem th(C:CxOk S cx sc)(hk:Ok S cx g s J st){vs vs':List Value}(hv:All2 (VR J) vs vs')(hP:Post S cx VR Q E J g s (vk S.toCore vs st)):fm (model S.prog S.w) cx.A (call (.builtin "str.join") vs') Q E s:=by
 obtain⟨⟨v,u⟩,e1,hP1⟩:hP:=hP.oget
 obtain⟨x,e2,hP2⟩:hP1:=hP1.oget
 obtain⟨k,e3,hP3⟩:hP2:=hP2.oget
 obtain⟨o,e4,hP4⟩:hP3:=hP3.oget
 obtain⟨ws,e5,hP5⟩:hP4:=hP4.oget
 obtain⟨ys,e6,hP6⟩:hP5:=hP5.oget
 obtain⟨e7,hP7⟩:hP6:=hP6.grd
 cases gR e1
 obtain⟨t,e2'⟩:=dK e2
 cases aQ e3
 cases b7 e5
 obtain⟨v',u',rfl,h1,h2⟩:=all2 hv
 dsimp only at e2'
 subst e2'
 exact zl C hk h2 h1 e4 e6 e7 hP7
theorem rP(TO:TbOk S.toCore T)(C:CxOk S cx sc)(hk:Ok S cx g s J st){vs vs':List Value}(hv:All2 (VR J) vs vs')(hP:Post S cx VR Q E J g s (rB T vs st)):fm (model S.prog S.w) cx.A (call (.builtin "Exception.__init__") vs') Q E s:=by
 cases hv with
 |nil=>exact hP.elim
 | @cons v v' us us' h1 h2=>
  obtain⟨k,e2,hP1⟩:Post:=Post.oget hP
  obtain⟨o,e3,hP2⟩:hP1:=hP1.oget
  obtain⟨p,e4,hP3⟩:hP2:=hP2.oget
  obtain⟨f,e5,hP4⟩:hP3:=hP3.oget
  obtain⟨e6,hP5⟩:hP4:=hP4.grd
  cases aQ e2
  cases qq e4
  exact rl C hk h1 h2 (na (al e6) (by decide)) e3 (TO.exs _ _ e5).1 hP5
end
section
variable{S:Sta}{T:Tb}{F:Fs}{cx:Cx}{sc:Scope}{st:St}
variable{J:Rho}{g:Heap}{s:Shared}{Q:Value->Shared->Prop}{E:Value->Shared->Prop}{QU:Unit->Shared->Prop}{QB:Bool->Shared->Prop}
theorem qp(hk:Ok S cx g s J st){v v':Value}(hv:VR J v v')(h:jU st v=true):∃a,v'= .ref a/\FnAt a s.heap:=by
 obtain⟨k,i,tc,rfl,e⟩:=vA h
 obtain⟨a,hka,rfl⟩:=hv
 obtain⟨o,h2,⟨c',doc,pm,ctv,h5,rfl⟩,h4⟩:=qi hk e hka
 exact⟨a,rfl,_,_,_,_,h2⟩
theorem rO(G:GoodX S.toCore T F)(C:CxOk S cx sc)(hk:Ok S cx g s J st){pos:Pos}{es:List IE}{xs:List Expr}(hm:All2 (ME S.toCore sc) es xs){f f':Value}(hf:VR J f f')(h0:jU st f=true)
  (hP:Post S cx VR Q E J g s (Ob (d0 F es st) fun vs st2=>grd (jU st2 f) (F.c f vs st2))):fm (model S.prog S.w) cx.A (callWith pos f' [] (backTo pos (starEach xs cx.env)) []) Q E s:=by
 obtain⟨a,rfl,X⟩:=qp hk hf h0
 induction hm using All2.casesOn with
 |nil=>
  obtain⟨-,hP1⟩:Post:=Post.grd (show Post S cx VR Q E J g s (grd (jU st f) (F.c f [] st)) from hP)
  exact callWith_F0 X (G.c S.FN sc cx C f [] st J g s Q E hk _ [] hf .nil hP1)
 |cons h r=>
  have hm:All2 (ME S.toCore sc) (_::_) (_::_):= .cons h r
  refine callWith_F X ?_ (aL h.nStar) (bS (MEs.nStar r))
  refine Sat.bind (gj G C hm st) hk hP fun vs st1 ι J1 g1 s1 vs' x1 hvs hP1=>?_
  obtain⟨h1,hP2⟩:hP1:=hP1.grd
  obtain⟨a',e,X1⟩:=qp x1.ok (hf.le x1.le) h1
  cases e
  exact⟨X1,G.c S.FN sc cx C f vs st1 J1 g1 s1 Q E x1.ok _ vs' (hf.le x1.le) hvs hP2⟩
noncomputable def HF(ks:List Str)(J:Rho)(vs:List Value)(ps:List (Value×Value)):Prop:=All2 (fun k p=>∃t,p.1=HL k t) ks ps/\All2 (fun v p=>VR J v p.2) vs ps
theorem t5(G:GoodX S.toCore T F)(C:CxOk S cx sc){pos:Pos}{ks:List Str}{kx:List (Option Expr)}{es:List IE}{xs:List Expr}(hx:All2 pJ ks kx)(hm:All2 (ME S.toCore sc) es xs):ks.length=es.length->∀st,Sat S cx (HF ks) (evalPairs (pairTrees kx xs cx.env pos)) st (d0 F es st):=by
 induction hx generalizing es xs with
 |nil=>
  intro hl st J g s Q E hk hP
  cases es with
  |nil=>rw[hm.nilL];exact Kw (hP.ret0 hk ⟨.nil,.nil⟩)
  |cons e es=>exact nomatch hl
 |cons hx hr ih=>
  intro hl st J g s Q E hk hP
  cases es with
  |nil=>exact nomatch hl
  |cons e es=>
   obtain⟨x,xs,rfl,he,hm2⟩:=hm.consL
   obtain⟨n,p,rfl⟩:=hx
   refine Ko ?_
   refine y6 J g s _ E hk fun J1 g1 s1 kv x1 hkv=>?_
   refine Sat.bind (G.e S.FN sc cx C _ _ he st) x1.ok (Post.later hP x1) fun v st2 ι J2 g2 s2 v' x2 hv hP2=>?_
   refine Sat.bind (ih hm2 (by simpa using hl) st2) x2.ok hP2 fun vs st3 ι J3 g3 s3 ps x3 hps hP3=>?_
   obtain⟨t,rfl⟩:=hkv
   exact hP3.ret0 x3.ok ⟨.cons ⟨t,rfl⟩ hps.1,.cons (hv.le x3.le) hps.2⟩
theorem wF{ks:List Str}{vs:List Value}{ps:List (Value×Value)}(x:All2 (fun k p=>∃t,p.1=HL k t) ks ps)(y:All2 (fun v p=>VR J v p.2) vs ps):allStrKeys ps=true/\All2 (SR J) (sq ks vs) (strPairs ps):=by
 induction y generalizing ks with
 |nil=>rw[x.flip.nilL];exact⟨rfl,.nil⟩
 | @cons v p vs ps h2 r2 ih=>
  obtain⟨k,ks,rfl,⟨t,h⟩,r⟩:=x.flip.consL
  obtain⟨a,b⟩:=p
  dsimp only at h
  subst h
  exact⟨(ih r.flip).1,.cons ⟨rfl,h2⟩ (ih r.flip).2⟩
theorem wR{es:List (Str×Value)}{kvs:List (Str×Value)}(x:All2 (SR J) es kvs):kvs.map (·.1)=es.map (·.1):=by
 induction x with
 |nil=>rfl
 |cons h r ih=>rw[mo,mo,h.1,ih]
theorem sA{ks:List Str}{kx:List (Option Expr)}(x:All2 pJ ks kx):kx.all (·.isSome)=true:=by
 induction x with
 |nil=>rfl
 |cons h r ih=>obtain⟨n,p,h⟩:=h;rw[IZ,h,ih];rfl
theorem Bu(G:GoodX S.toCore T F)(C:CxOk S cx sc)(hk:Ok S cx g s J st){k:Str}{ks:List Str}{kx:List (Option Expr)}{es:List IE}{xs:List Expr}{pos:Pos}(hkx:All2 pJ (k::ks) kx)(hm:All2 (ME S.toCore sc) es xs)(hl:(k::ks).length=es.length)(h15:es.length<=15)
  (hP:Post S cx VR Q E J g s (Ob (d0 F es (st.grow (.sdict []))) fun vs st1=>Ab (k::ks) st.nx vs st1)):fm (model S.prog S.w) cx.A (eval (.Dict kx xs pos) cx.env) Q E s:=by
 obtain⟨m,news,F',N,R,hloc⟩:=hk.fr
 have hlx:kx.length=xs.length:=by rw[<-hkx.length,<-hm.length];exact hl
 refine kdn_eval (knd:=tz S.prog S.w) F' N (hk.topG C).nolimit (sA hkx) hlx (fun q=>by subst q;cases hkx) (by rw[hlx,<-hm.length];exact h15) fun d h' o F2 N2 l lo hd=>?_
 have x0:=hk.new C F' R hloc F2 N2 l (x:= .sdict []) (tk:=s.toks) ⟨[],hd,.nil⟩ lo
 refine Sat.bind (t5 G C hkx hm hl _) x0.ok (Post.later hP x0) fun vs st1 hz J1 g1 s1 ps x1 hps hP1=>?_
 clear hz
 obtain⟨e1,hP2⟩:hP1:=hP1.grd
 obtain⟨o2,e2,hP3⟩:hP2:=hP2.oget
 obtain⟨l2,e3,hP4⟩:hP3:=hP3.oget
 obtain⟨e4,hP5⟩:hP4:=hP4.grd
 cases ew e3
 have:l2= []:=by cases l2 with|nil=>rfl|cons=>cases e4
 subst this
 obtain⟨m1,news1,F1,N1,R1,hl1⟩:=x1.ok.fr
 obtain⟨a,o3,h1,h2,⟨kvs,h3,h3'⟩,h4⟩:=ER.find R1.er e2
 have hd1:J1 st.nx=some d:=x1.le _ _ (Rho.ext_at _ _ _)
 rw[hd1] at h1
 cases h1
 cases h3'.nil_r
 obtain⟨nf,U,hkeys,hER⟩:=ER.updF R1.er R1.nd e2 hd1 h2
 obtain⟨z1,z2⟩:=wF hps.1 hps.2
 refine kdn_made_str F1 N1 U h3 z1 (by rw[wR z2];exact gf e1) fun h2 o2 F3 N3 d3=>?_
 exact hP5 _ _ _ _ (x1.ok.chg (tk:=s1.toks+ps.length) F3 N3 R1 hl1 (hER (.sdict (sq (k::ks) vs)) _ ⟨_,d3,z2⟩) (hkeys _)) ⟨d,hd1,rfl⟩
noncomputable def G2(J:Rho)(ps:List (Value×Value))(qs:List (Value×Value)):Prop:=All2 (fun p q=>VR J p.1 q.1/\VR J p.2 q.2) ps qs
theorem tZ(G:GoodX S.toCore T F)(C:CxOk S cx sc){pos:Pos}{ks:List IE}{kx:List Expr}{es:List IE}{xs:List Expr}(hx:All2 (ME S.toCore sc) ks kx)(hm:All2 (ME S.toCore sc) es xs):∀st,Sat S cx G2 (evalPairs (pairTrees (kx.map some) xs cx.env pos)) st (EG F ks es st):=by
 induction hx generalizing es xs with
 |nil=>
  intro st J g s Q E hk hP
  cases es with
  |nil=>rw[hm.nilL];exact Kw (hP.ret0 hk .nil)
  |cons e es=>exact hP.elim
 |cons hx hr ih=>
  intro st J g s Q E hk hP
  cases es with
  |nil=>exact hP.elim
  |cons e es=>
   obtain⟨x,xs,rfl,he,hm2⟩:=hm.consL
   refine Ko ?_
   refine Sat.bind (G.e S.FN sc cx C _ _ hx st) hk hP fun kv st1 ι J1 g1 s1 kv' x1 hkv hP1=>?_
   refine Sat.bind (G.e S.FN sc cx C _ _ he st1) x1.ok hP1 fun v st2 ι J2 g2 s2 v' x2 hv hP2=>?_
   refine Sat.bind (ih hm2 st2) x2.ok hP2 fun vs st3 ι J3 g3 s3 ps x3 hps hP3=>?_
   exact hP3.ret0 x3.ok (.cons ⟨(hkv.le x2.le).le x3.le,hv.le x3.le⟩ hps)
theorem ph{K:Type} [DecidableEq K]{xs:List (K×Addr×Value)}{k:K}(h:k∉xs.map (·.1)):(atKey xs k).isSome=false:=by
 unfold atKey
 rw[List.find?_eq_none.mpr fun x hx=>?_]
 ·rfl
 ·simp only[decide_eq_true_eq]
  exact fun e=>h (by rw[<-e];exact nw hx)
theorem mj{prog:Program}{w:World}{A:Around}{d:Addr}(hu:A.units<cLine)(l:List (List Str×Addr×Value)):∀(xs:List (List Str×Addr×Value)) (s:Shared) (Q:PUnit->Shared->Prop),((xs++l).map (·.1)).Nodup->(xs++l).length<=sizeLine->s.heap.DictOfH (tupleKind (tz prog w)) d xs->(∀x∈l,KD (tz prog w) s.heap x.1 x.2.1)->
  (∀h' tk,h'.DictOfH (tupleKind (tz prog w)) d (xs++l)->Lu d s.heap h'->Q PUnit.unit {s with heap:=h',toks:=tk})->
  fm (model prog w) A (storeAll d (l.map fun x=>(pf x.2.1,x.2.2))) Q E s:=by
 induction l with
 |nil=>
  intro xs s Q _ _ hd _ hQ
  show fm _ _ (storeAll d []) _ _ _
  unfold storeAll
  rw[Jx]
  rw[wT] at hQ
  exact oj (hQ s.heap s.toks hd (Heap.SameBut.refl _ _))
 |cons x l ih=>
  intro xs s Q hn hz hd hk hQ
  show fm _ _ (storeAll d ((pf x.2.1,x.2.2)::l.map fun x=>(pf x.2.1,x.2.2))) _ _ _
  unfold storeAll
  rw[IC]
  rw[Hv,Hb] at hz
  have hx:x.1∉xs.map (·.1):=by
   rw[wE,zs] at hn
   exact fun q=>hn.2.2 _ q _ (by rw[mo];exact .head _) rfl
  refine ca (ca (wpAny_dictSet_heap (hsz:=by omega) (knd:=tupleKind (tz prog w)) hu (hk x (.head _)) hd fun h' hm' hs=>oj ?_))
  have hst:storedH xs x.1 x.2.1 x.2.2=xs++ [x]:=by unfold storedH;rw[ph hx];rfl
  rw[hst] at hm'
  obtain⟨o,es,ep,ho,hc,hdat,_⟩:=hd
  refine ih (xs++ [x]) _ Q (by simpa using hn) (by simp;omega) hm' (fun y hy=>(hk y (.tail _ hy)).keeps ho hdat hs) fun h2 tk hm2 hs2=>?_
  refine hQ h2 tk (by simpa using hm2) (hs.trans hs2)
theorem mf:∀{es:List (List Str×Nat×Value)} {ks:List Str},tI es ks=none->ks∉es.map (·.1)
 | [],_,_,h=>nomatch h
 |p::r,ks,e,h=>by
  rw[mh] at e
  cases z:vy p.1 ks with
  |true=>rw[z] at e;cases e
  |false=>
   rw[z] at e
   rcases eq.mp h with h|h
   ·rw[ssq_iff.mpr h.symm] at z;cases z
   ·exact mf e h
inductive ZipT(S:Sta)(J:Rho)(s:Shared)(qs:List (Value×Value))(es:List (List Str×Nat×Value)):Prop
 |mk (l:List (List Str×Addr×Value)) (e:qs=l.map fun x=>(pf x.2.1,x.2.2)) (r:All2 (TR J) es l) (nd:(es.map (·.1)).Nodup) (h:∀x∈l,KD (tz S.prog S.w) s.heap x.1 x.2.1):ZipT S J s qs es
theorem wD(C:CxOk S cx sc)(hk:Ok S cx g s J st){ps qs:List (Value×Value)}{es:List (List Str×Nat×Value)}(x:G2 J ps qs):zJ S.toCore st ps=some es->ZipT S J s qs es:=by
 induction x generalizing es with
 |nil=>intro e;rw[<-bd e];exact⟨[],rfl,.nil,.nil,fun ι h=>nomatch h⟩
 | @cons p q r qs h hr ih=>
  intro e
  obtain⟨k,e1,f1⟩:e:=aC e
  obtain⟨ks,e2,f2⟩:f1:=aC f1
  obtain⟨l,e3,f3⟩:f2:=aC f2
  obtain⟨e4,f4⟩:f3:=aM f3
  rw[<-bd f4]
  obtain⟨l',q1,q2,q3,q4⟩:=ih e3
  obtain⟨h1,h2⟩:=h
  rw[aQ e1] at h1
  obtain⟨x,hx,h1⟩:=h1
  refine⟨(ks,x,q.2)::l',by rw[mo,<-q1,<-h1],.cons ⟨rfl,hx,h2⟩ q2,?_,fun y hy=>?_⟩
  ·rw[mo,sB]
   exact⟨mf (by simpa using e4),q3⟩
  ·rcases eq.mp hy with rfl|hy
   ·exact gK C hk e2 hx
   ·exact q4 y hy
theorem wL{es:List (List Str×Nat×Value)}{l:List (List Str×Addr×Value)}(x:All2 (TR J) es l):l.map (·.1)=es.map (·.1):=by
 induction x with
 |nil=>rfl
 |cons h r ih=>rw[mo,mo,h.1,ih]
theorem zZ(G:GoodX S.toCore T F)(C:CxOk S cx sc)(hk:Ok S cx g s J st){k:IE}{ks:List IE}{kx:List Expr}{es:List IE}{xs:List Expr}{pos:Pos}(hkx:All2 (ME S.toCore sc) (k::ks) kx)(hm:All2 (ME S.toCore sc) es xs)(hl:(k::ks).length=es.length)(h15:es.length<=15)
  (hP:Post S cx VR Q E J g s (Ob (EG F (k::ks) es (st.grow (.sdict []))) fun ps st1=>yX S.toCore st.nx ps st1)):fm (model S.prog S.w) cx.A (eval (.Dict (kx.map some) xs pos) cx.env) Q E s:=by
 obtain⟨m,news,F',N,R,hloc⟩:=hk.fr
 have hlx:kx.length=xs.length:=by rw[<-hkx.length,<-hm.length];exact hl
 refine wpAny_Dict_any (by simp) (by rw[xL];exact hlx) (fun q=>by cases hkx;cases q) (by rw[xL,hlx,<-hm.length];exact h15) ?_
 obtain⟨o,ho,hd⟩:=Heap.dictOf_iff.mp (Heap.DictOf.new (knd:=tz S.prog S.w) s.heap)
 rw[Ia _ rfl] at ho
 have ho:=bd ho
 have N2:=N.push F' ({cls:= .type "dict",data:= .dict #[]}:Obj)
 have x0:=hk.new C F' R hloc (F'.push _) N2 (fun q hq=>r7 (N q hq).1) (x:= .sdict []) (tk:=s.toks) ⟨[],ho▸hd,.nil⟩ (fD C hk N2)
 refine Sat.bind (tZ G C hkx hm _) x0.ok (Post.later hP x0) fun ps st1 hz J1 g1 s1 qs x1 hps hP1=>?_
 clear hz
 obtain⟨e1,hP2⟩:hP1:=hP1.grd
 obtain⟨o2,e2,hP3⟩:hP2:=hP2.oget
 obtain⟨l2,e3,hP4⟩:hP3:=hP3.oget
 obtain⟨e4,hP5⟩:hP4:=hP4.grd
 obtain⟨es',e5,hP6⟩:hP5:=hP5.oget
 cases ew e3
 have:l2= []:=by cases l2 with|nil=>rfl|cons=>cases e4
 subst this
 obtain⟨m1,news1,F1,N1,R1,hl1⟩:=x1.ok.fr
 obtain⟨a,o3,h1,h2,⟨kvs,h3,h3'⟩,h4⟩:=ER.find R1.er e2
 have hd1:J1 st.nx=some s.heap.objs.size:=x1.le _ _ (Rho.ext_at _ _ _)
 rw[hd1] at h1
 cases h1
 cases h3'.nil_r
 obtain⟨nf,U,hkeys,hER⟩:=ER.updF R1.er R1.nd e2 hd1 h2
 obtain⟨l,q1,q2,q3,q4⟩:=wD C x1.ok hps e5
 subst q1
 obtain⟨eo,ep,hc,hdat,_,hp,_⟩:=h3
 have he:eo.toList= []:=JN.mp hp.length
 have hD:s1.heap.DictOfH (tupleKind (tz S.prog S.w)) s.heap.objs.size []:=⟨o3,eo,ep,(N1 _ h2).1,hc,hdat,he,(fun ι h=>nomatch h),.nil⟩
 have hun:=x1.ok.un
 rw[db] at e1
 have e0:=al e1.1
 have e1:=al e1.2
 refine mj (by omega) l [] s1 _ (by rw[Hw,wL q2];exact q3) ?_ hD q4 fun h' tk hm' hs=>?_
 ·rw[Hw]
  have h1:=hps.length
  rw[xL] at h1
  have:(15:Nat)<=sizeLine:=by decide
  omega
 ·rw[Hw] at hm'
  obtain⟨o',eo',ep',w1,w2,w3,w4,w5,w6⟩:=hm'
  obtain⟨pre,post,p1,p2,a1,a2⟩:=U.split
  subst p1
  have hm0:=N1 _ h2
  have N3:=N1.setIn a1 a2 hs w1
  rw[<-p2] at N3
  exact hP6 _ _ _ _ (x1.ok.chg (tk:=tk) (F1.change hs hm0.2.1 hm0.2.2) N3 R1 hl1 (hER (.tdict es') _ ⟨eo',ep',l,w2,w3,w4,w6,q2⟩) (hkeys _)) ⟨_,hd1,rfl⟩
end
section
variable{S:Sta}{T:Tb}{F:Fs}{cx:Cx}{sc:Scope}{st:St}
variable{J:Rho}{g:Heap}{s:Shared}{Q:Value->Shared->Prop}{E:Value->Shared->Prop}{QU:Unit->Shared->Prop}{QB:Bool->Shared->Prop}
theorem Do{n:Nat}(h:gy n 900=true):n<=1000:=na (al h) (by decide)
set_option tactic.hygienic true in
theorem t6(TO:TbOk S.toCore T)(C:CxOk S cx sc)(hk:Ok S cx g s J st){o x f:Value}{first:List Value}{i:Nat}{pl:Jv Bool}{QM:Value×List Value->Shared->Prop}(hx:VR J o x)(e:ye T st o i=some (f,first))
  (h:∀f' first' tk,VR J f f'->All2 (VR J) first first'->keepIn S.K f'=true->QM (f',first') {s with toks:=tk}):fm (model S.prog S.w) cx.A (getMethod x (S.nm i) pl) QM E s:=by
 obtain⟨k,e0,f1⟩:e:=aC e
 cases aQ e0
 rcases dR f1 with⟨f0,e4,f2⟩|⟨-,f2⟩
 ·cases f2
  obtain⟨q1,q2,q3⟩:=TO.cas _ _ _ e4
  obtain⟨m,news,F',N,R,hl⟩:=hk.fr
  have hx2:=br R.hd q3 hx
  subst hx2
  unfold hU at q1
  rw[db,db,beq_iff_eq] at q1
  obtain⟨⟨q4,q5⟩,q6⟩:=q1
  cases z:typeIn S.K (.ref k) with
  |none=>rw[z] at q5;exact absurd q5 HV
  |some mc=>
   rw[z] at q5
   dsimp only at q5
   rw[db] at q5
   cases z2:findCls S.K (.ref k) mc (S.nm i) with
   |none=>rw[z2] at q5;exact absurd q5.2 HV
   |some r=>
    rw[z2] at q5
    cases r<;>first|exact absurd q5.2 HV|skip
    rename_i v
    have q7:v= .ref f0:=by simpa using q5.2
    subst q7
    exact method_of_cls F' (hk.inG C) q4 (cls_val F' (hk.inG C) z q5.1 z2 rfl (h _ _ _ (VR.head R.hd q2) .nil q6))
 ·obtain⟨b,e1,f3⟩:f2:=aC f2
  obtain⟨⟨C',d⟩,e2,f4⟩:f3:=aC f3
  cases lj e2
  obtain⟨c,e2,f5⟩:f4:=aC f4
  obtain⟨es,e5,f6⟩:f5:=aC f5
  cases mS e5
  obtain⟨a,dx,ents,n,h1,h2,I,hes⟩:=lh hk e1 e2
  obtain⟨a',hka,rfl⟩:=hx
  rw[hka] at h1
  cases h1
  obtain⟨m,news,F',N,R,hl⟩:=hk.fr
  rcases dR f6 with⟨v,e3,f7⟩|⟨e3,f7⟩
  ·obtain⟨e4,f8⟩:f7:=aM f7
   obtain⟨e5,f9⟩:f8:=aM f8
   cases (f9)
   have q:=TO.own _ _ e4
   unfold ownIn at q
   rw[db,db,beq_iff_eq] at q
   obtain⟨v',hg,hv⟩:=dE C hes e3
   have q':∃kk,f= .ref kk:=by
    unfold ll at e5
    split at e5
    ·exact⟨_,rfl⟩
    ·cases e5
   obtain⟨kk,rfl⟩:=q'
   obtain⟨q5,q6⟩:=TO.kp kk e5
   have hv2:=br R.hd q5 hv
   subst hv2
   exact kmu_own F' (hk.inG C) I q.1.1 q.2 (get_own F' (hk.inG C) I q.1.1 q.1.2 q.2 (by rfl) hg rfl (h _ _ _ hv .nil q6))
  ·obtain⟨f0,e4,f10⟩:f7:=aC f7
   cases f10
   obtain⟨q1,q2⟩:=TO.mts _ _ _ e4
   unfold oz at q1
   rw[db,db,db,beq_iff_eq] at q1
   exact method_inst F' (hk.inG C) I q1.1.1.1 q1.1.1.2 q1.1.2 (hM C hes e3) (h _ _ s.toks (VR.head R.hd q2) (.cons ⟨_,hka,rfl⟩ .nil) q1.2)
theorem qM(C:CxOk S cx sc)(hk:Ok S cx g s J st){value:Expr}{l h:Option Expr}{q:Pos}{a x lv hv:Value}{lo hi:Option Value}(hx:VR J a x)
  (hlo:match lo with|none=>lv= .none|some v=>VR J v lv) (hhi:match hi with|none=>hv= .none|some v=>VR J v hv)
  (hP:Post S cx VR Q E J g s (pureO (lH a lo hi) st)):
  fm (model S.prog S.w) cx.A (subscriptTail value (.Slice l h none q) x (.ref s.heap.objs.size)) Q E {s with heap:=s.heap.push {cls:= .type "slice",data:= .fields #[lv,hv,.none]}}:=by
 obtain⟨m,news,F',N,R,hl⟩:=hk.fr
 have ht:∀(y:Str) (t:Tok) (r:Value),letTemporaryGo value (.str y t) r=pure ():=by intro y t r;cases value<;>rfl
 cases e:lH a lo hi with
 |none=>rw[e] at hP;exact hP.elim
 |some w=>
  rw[e] at hP
  obtain⟨y,e0,f1⟩:e:=aC e
  obtain⟨u,rfl⟩:=dJ e0 hx
  obtain⟨e1,f2⟩:f1:=aM f1
  obtain⟨l0,rfl,f3⟩:f2:=aC f2
  obtain⟨i,e2,f4⟩:f3:=aC f3
  obtain⟨t1,rfl⟩:=gN e2 hlo
  have hz:y.length<=sizeLine:=na (al e1) (by decide)
  cases hi with
  |none=>
   have e:=bd f4
   subst e
   subst hhi
   exact slice_strN_sn F' N (fun h' t' k F2 N2=>hP _ _ _ _ ⟨Rho.le_refl _,Cn,⟨rfl,rfl,rfl⟩,hk.heap F2 N2 R hl rfl rfl (Rho.le_refl _)⟩ (VR.str_ _ _ _)) rfl (ht _ _) hz
  |some h0=>
   obtain⟨j,e3,f5⟩:f4:=aC f4
   have e:=bd f5
   subst e
   obtain⟨t2,rfl⟩:=gN e3 hhi
   exact slice_strN_ss F' N (fun h' t' k F2 N2=>hP _ _ _ _ ⟨Rho.le_refl _,Cn,⟨rfl,rfl,rfl⟩,hk.heap F2 N2 R hl rfl rfl (Rho.le_refl _)⟩ (VR.str_ _ _ _)) rfl (ht _ _) hz
set_option tactic.hygienic true in
theorem z5(C:CxOk S cx sc)(hk:Ok S cx g s J st){op:Operator}{a b x y:Value}(hx:VR J a x)(hy:VR J b y)(hP:Post S cx VR Q E J g s (ju op a b st)):fm (model S.prog S.w) cx.A (binaryOp op x y) Q E s:=by
 unfold ju at hP
 split at hP
 ·rename_i v e;exact CY hk hx hy e hP
 ·unfold CC at hP
  split at hP
  ·obtain⟨k,e1,hP3⟩:hP:=hP.oget
   obtain⟨n,e2,hP4⟩:hP3:=hP3.oget
   obtain⟨o,e3,hP5⟩:hP4:=hP4.oget
   obtain⟨vs,e4,hP6⟩:hP5:=hP5.oget
   obtain⟨e5,hP7⟩:hP6:=hP6.grd
   rw[db] at e5
   cases aQ e1
   obtain⟨t,rfl⟩:=cB e2
   cases b7 e4
   exact CR C hk hx hy e3 e5.1 e5.2 hP7
  ·exact hP.elim
set_option tactic.hygienic true in
theorem Bn(G:GoodX S.toCore T F)(TO:TbOk S.toCore T)(CT:CompT S.toCore T F)(C:CxOk S cx sc){ir:IE}{x:Expr}(hm:ME S.toCore sc ir x):Sat S cx VR (eval x cx.env) st (Bg S.toCore T F ir st):=by
 have ge:∀{ir:IE} {x:Expr} (_:ME S.toCore sc ir x) (st:St),Sat S cx VR (eval x cx.env) st (F.e ir st):=fun h st=>G.e S.FN sc cx C _ _ h st
 intro J g s Q E hk hP
 induction hm using ME.casesOn with
 |cNone=>exact z0 J g s Q E hk hP
 |cBool=>exact s_bool J g s Q E hk hP
 |cInt=>exact Br J g s Q E hk hP
 |cStr=>exact y6 J g s Q E hk hP
 |neg=>
  refine UnaryOp_ (Kv ?_)
  exact neg_int (hP.ret hk (VR.int_ _ _ _) _)
 | @loc y p h1 h2=>
  have hP':Post S cx VR Q E J g s (pureO (lk st.lo y) st):=hP
  cases z:lk st.lo y with
  |none=>rw[z] at hP';exact hP'.elim
  |some v=>rw[z] at hP';exact y7 C h1 h2 z J g s Q E hk hP'
 | @cel y p h1 h2=>
  obtain⟨w,e1,hP1⟩:Post:=Post.oget hP
  obtain⟨k,e2,hP2⟩:hP1:=hP1.oget
  obtain⟨o,e3,hP3⟩:hP2:=hP2.oget
  obtain⟨v,e4,hP4⟩:hP3:=hP3.oget
  cases aQ e2
  cases yO e4
  exact Bv C h1 h2 e1 e3 J g s Q E hk hP4
 | @cv y p h0 h1 h2=>
  obtain⟨w,e1,hP1⟩:Post:=Post.oget hP
  obtain⟨k,e2,hP2⟩:hP1:=hP1.oget
  obtain⟨o,e3,hP3⟩:hP2:=hP2.oget
  obtain⟨es,e4,hP4⟩:hP3:=hP3.oget
  obtain⟨v,e5,hP5⟩:hP4:=hP4.oget
  cases aQ e2
  cases jH e4
  exact EZ C h0 h1 h2 e1 e3 e5 J g s Q E hk hP5
 | @glob y v p h1 h2 h3 h4=>
  refine t7 C h1 h2 h3 (fun J hd=>?_) J g s Q E hk fun J' g' s' v' x hv=>hP J' g' s' v' x (nv_vr.mpr hv)
  cases v with
  |ref=>exact⟨_,hd _ (Je.mp h4),rfl⟩
  |int=>exact⟨_,rfl⟩
  |_=>exact dL h4
 |attr h h1=>
  refine Attribute_any_ ?_ (sI h1)
  refine Sat.bind (ge h st) hk hP fun v st1 ι J1 g1 s1 v' x1 hv hP1=>?_
  exact te TO C x1.ok hv hP1
 |tup h=>
  refine Tuple_ ?_
  refine Sat.bind (gj G C h st) hk hP fun vs st1 ι J1 g1 s1 vs' x1 hvs hP1=>?_
  obtain⟨e1,hP2⟩:hP1:=hP1.grd
  exact oi C x1.ok hvs (Do e1) hP2
 |lst h=>
  refine List_ ?_
  refine Sat.bind (gj G C h st) hk hP fun vs st1 ι J1 g1 s1 vs' x1 hvs hP1=>?_
  obtain⟨e1,hP2⟩:hP1:=hP1.grd
  exact rf C x1.ok hvs (Do e1) hP2
 |dct0=>exact rh C hk hP
 |dct hkx hm=>
  obtain⟨e1,hP1⟩:Post:=Post.grd hP
  rw[db] at e1
  exact Bu G C hk hkx hm (aH e1.1) (al e1.2) hP1
 |bad=>exact hP.elim
 |comp h1 h2 h3=>exact CT.c S.FN sc cx C _ _ _ _ _ _ _ _ h1 h2 h3 st J g s Q E hk hP
 |compR h0 h1 h2 h3=>exact CT.r S.FN sc cx C _ _ _ _ _ _ _ _ _ _ h0 h1 h2 h3 st J g s Q E hk hP
 |tdct hkx hm=>
  obtain⟨e1,hP1⟩:Post:=Post.grd hP
  rw[db] at e1
  exact zZ G C hk hkx hm (aH e1.1) (al e1.2) hP1
 |cmp h1 h2 h3=>
  refine wpAny_Compare1 ?_ h3
  refine Sat.bind (ge h1 st) hk hP fun v st1 ι J1 g1 s1 v' x1 hv hP1=>?_
  refine Sat.bind (ge h2 st1) x1.ok hP1 fun u st2 ι J2 g2 s2 u' x2 hu hP2=>?_
  obtain⟨c,e1,hP3⟩:hP2:=hP2.oget
  exact ta C x2.ok (hv.le x2.le) hu e1 hP3
 |and_ h=>
  cases h with
  |nil=>exact hP.elim
  |cons h1 r=>
   cases r with
   |nil=>exact LL (ge h1 st J g s Q E hk hP)
   |cons h2 r=>
    refine BoolOp_and ?_
    refine Sat.bind (ge h1 st) hk hP fun v st1 ι J1 g1 s1 v' x1 hv hP1=>?_
    obtain⟨c0,e1,hP2⟩:hP1:=hP1.oget
    refine gE C x1.ok hv e1 fun J2 g2 s2 c x2 hc=>?_
    subst c
    cases c0 with
    |true=>exact ge (.and_ (.cons h2 r)) st1 J2 g2 s2 Q E x2.ok (Post.later (o:=F.e _ st1) hP2 x2)
    |false=>exact hP2 J2 g2 s2 v' x2 (hv.le x2.le)
 |or_ h=>
  cases h with
  |nil=>exact hP.elim
  |cons h1 r=>
   cases r with
   |nil=>exact LL (ge h1 st J g s Q E hk hP)
   |cons h2 r=>
    refine BoolOp_or ?_
    refine Sat.bind (ge h1 st) hk hP fun v st1 ι J1 g1 s1 v' x1 hv hP1=>?_
    obtain⟨c0,e1,hP2⟩:hP1:=hP1.oget
    refine gE C x1.ok hv e1 fun J2 g2 s2 c x2 hc=>?_
    subst c
    cases c0 with
    |true=>exact hP2 J2 g2 s2 v' x2 (hv.le x2.le)
    |false=>exact ge (.or_ (.cons h2 r)) st1 J2 g2 s2 Q E x2.ok (Post.later (o:=F.e _ st1) hP2 x2)
 |not_ h=>
  refine UnaryOp_ ?_
  refine Sat.bind (ge h st) hk hP fun v st1 ι J1 g1 s1 v' x1 hv hP1=>?_
  refine not_of ?_
  obtain⟨c,e1,hP2⟩:hP1:=hP1.oget
  refine gE C x1.ok hv e1 fun J2 g2 s2 d x2 hc=>?_
  cases hc
  exact hP2 J2 g2 s2 _ x2 (VR.bool_ _)
 |ite h1 h2 h3=>
  refine IfExp_ ?_
  refine Sat.bind (G.t S.FN sc cx C _ _ h1 st) hk hP fun c st1 ι J1 g1 s1 c' x1 hc hP1=>?_
  subst c'
  cases c with
  |true=>exact ge h2 st1 J1 g1 s1 Q E x1.ok hP1
  |false=>exact ge h3 st1 J1 g1 s1 Q E x1.ok hP1
 |bin h1 h2=>
  refine wpAny_BinOp ?_
  refine Sat.bind (ge h1 st) hk hP fun v st1 ι J1 g1 s1 v' x1 hv hP1=>?_
  refine Sat.bind (ge h2 st1) x1.ok hP1 fun u st2 ι J2 g2 s2 u' x2 hu hP2=>?_
  exact z5 C x2.ok (hv.le x2.le) hu hP2
 |idx h1 h2 h3=>
  refine Ju ?_
  refine Sat.bind (ge h1 st) hk hP fun v st1 ι J1 g1 s1 v' x1 hv hP1=>?_
  refine Sat.bind (ge h2 st1) x1.ok hP1 fun u st2 ι J2 g2 s2 u' x2 hu hP2=>?_
  exact Bs C x2.ok (hv.le x2.le) hu h3 hP2
 |slcA h1 h2 h3=>
  refine Ju ?_
  refine Sat.bind (ge h1 st) hk hP fun v st1 ι J1 g1 s1 v' x1 hv hP1=>?_
  refine Kc ?_
  refine Sat.bind (t:=eval _ cx.env) (ge h2 st1) x1.ok hP1 fun l st2 ι J2 g2 s2 l' x2 hl hP2=>?_
  refine Sat.bind (t:=eval _ cx.env) (ge h3 st2) x2.ok hP2 fun h st3 ι J3 g3 s3 h' x3 hh hP3=>?_
  refine oj ?_
  exact qM C x3.ok (lo:=some l) (hi:=some h) ((hv.le x2.le).le x3.le) (hl.le x3.le) hh hP3
 |slcH h1 h2=>
  refine Ju ?_
  refine Sat.bind (ge h1 st) hk hP fun v st1 ι J1 g1 s1 v' x1 hv hP1=>?_
  refine Kc ?_
  refine oj ?_
  refine Sat.bind (t:=eval _ cx.env) (ge h2 st1) x1.ok hP1 fun l st2 ι J2 g2 s2 l' x2 hl hP2=>?_
  refine oj ?_
  obtain⟨k,e1,hP3⟩:hP2:=hP2.oget
  obtain⟨n,e2,hP4⟩:hP3:=hP3.oget
  obtain⟨o,e3,hP5⟩:hP4:=hP4.oget
  obtain⟨ns,e4,hP6⟩:hP5:=hP5.oget
  obtain⟨e5,hP7⟩:hP6:=hP6.grd
  rw[db] at e5
  cases aQ e1
  obtain⟨t,rfl⟩:=cB e2
  cases wy e4
  exact zj C x2.ok (hv.le x2.le) hl e3 e5.1 e5.2 ⟨_,_,rfl⟩ hP7
 |slcB h1 h2=>
  refine Ju ?_
  refine Sat.bind (ge h1 st) hk hP fun v st1 ι J1 g1 s1 v' x1 hv hP1=>?_
  refine Kc ?_
  refine Sat.bind (t:=eval _ cx.env) (ge h2 st1) x1.ok hP1 fun l st2 ι J2 g2 s2 l' x2 hl hP2=>?_
  refine oj (oj ?_)
  exact qM C x2.ok (lo:=some l) (hi:=none) (hv.le x2.le) hl rfl hP2
 |call h1 h2 h3=>
  rw[bX h3]
  refine ca ?_
  refine Sat.bind (ge h1 st) hk hP fun v st1 ι J1 g1 s1 v' x1 hv hP1=>?_
  cases e1:ll T v with
  |true=>
   rw[e1] at hP1
   obtain⟨kk,rfl⟩:∃kk,v= .ref kk:=by cases v<;>first|exact⟨_,rfl⟩|exact dL e1
   obtain⟨q5,q6⟩:=TO.kp kk e1
   have hv2:=br (Ok.hdr x1.ok) q5 hv
   subst hv2
   exact ey G C x1.ok h2 hv .nil q6 hP1
  |false=>
   rw[e1] at hP1
   obtain⟨e2,hP2⟩:Post:=Post.grd hP1
   exact rO G C x1.ok h2 hv e2 hP2
 |mcall h1 h2 h3 h4 h5=>
  refine Ki ?_ (fR h3 (MEs.nStar h2) h4 h5)
  refine Sat.bind (ge h1 st) hk hP fun v st1 ι J1 g1 s1 v' x1 hv hP1=>?_
  obtain⟨⟨f,first⟩,e1,hP2⟩:hP1:=hP1.oget
  refine t6 TO C x1.ok hv e1 fun f' first' tk hf hfs hkp=>?_
  exact ey G C (x1.ok.toks tk) h2 hf hfs hkp (Post.later hP2 (Ext.toks x1.ok tk))
 |len hw h=>exact E0 G C hk hw h hP fun v v' J1 g1 s1 st1 k1 hv hP1=>we C k1 (.cons hv .nil) hP1
 |str hw h=>exact Bq G C hk hw h hP fun v v' J1 g1 s1 st1 k1 hv hP1=>wc k1 (.cons hv .nil) hP1
 |int hw h=>exact Bq G C hk hw h hP fun v v' J1 g1 s1 st1 k1 hv hP1=>wg k1 (.cons hv .nil) hP1
 |isTup hw hw2 h=>
  have hP':Post S cx VR Q E J g s (Ob (d0 F [_] st) fun vs st1=>rE S.toCore T .isTup vs st1):=hP
  rw[il,gX] at hP'
  rw[bX rfl]
  refine ca (cL C hk hw ?_)
  refine H5 ?_ (aL h.nStar) rfl
  refine Hn ?_ (aL h.nStar)
  refine Sat.bind (ge h st) hk hP' fun v st1 ι J1 g1 s1 v' x1 hv hP1=>?_
  refine Hn ?_ rfl
  refine cL C x1.ok hw2 (HK ?_)
  exact rQ C x1.ok (.cons hv .nil) hP1
 | @isExc a y q r p D yy hw h hg=>
  have hP':Post S cx VR Q E J g s (Ob (d0 F [_] st) fun vs st1=>rE S.toCore T (.isExc D) vs st1):=hP
  rw[il,gX] at hP'
  rw[bX rfl]
  refine ca (cL C hk hw ?_)
  refine H5 ?_ (aL h.nStar) rfl
  refine Hn ?_ (aL h.nStar)
  refine Sat.bind (ge h st) hk hP' fun v st1 ι J1 g1 s1 v' x1 hv hP1=>?_
  refine Hn ?_ rfl
  cases hg with
  |glob h1 h2 h3 h4=>
   refine t7 (v:= .ref D) C h1 h2 h3 (fun J hd=>?_) J1 g1 s1 _ E x1.ok fun J2 g2 s2 d x2 hd=>?_
   ·exact⟨_,hd _ (Je.mp h4),rfl⟩
   ·have:=br (Ok.hdr x2.ok) (Je.mp h4) hd
    subst this
    refine HK ?_
    exact rR TO C x2.ok (.cons (hv.le x2.le) .nil) (Post.later hP1 x2)
 | @meth b ty nmm id o es y xs q p hb h1 h2 h3 h4 h5=>
  have hP':Post S cx VR Q E J g s (Ob (F.e o st) fun v st1=>match BH b v st1 with
   |true=>Ob (d0 F es st1) fun vs st2=>rE S.toCore T b (v::vs) st2
   |false=>none):=by
   have q:Bg S.toCore T F (.bcall b (o::es)) st=(match iK b,(o::es:List IE) with
    |some _,o::r=>Ob (F.e o st) fun v st1=>match BH b v st1 with
     |true=>Ob (d0 F r st1) fun vs st2=>rE S.toCore T b (v::vs) st2
     |false=>none
    |some _,[]=>none
    |none,es=>Ob (d0 F es st) fun vs st1=>rE S.toCore T b vs st1):=rfl
   rw[q,hb] at hP
   exact hP
  refine z3 G C hk hb h1 h2 h3 h4 h5 hP' fun v vs v' vs' J1 g1 s1 st1 k1 hv hvs hP1=>?_
  cases b<;>cases hb
  ·exact o7 C k1 (.cons hv hvs) hP1
  ·exact wd C k1 (.cons hv hvs) hP1
  ·exact oZ C k1 (.cons hv hvs) hP1
  ·exact wi k1 (.cons hv hvs) hP1
  ·exact th C k1 (.cons hv hvs) hP1
 |xinit hw h h4 h5=>
  refine Ki ?_ (fR rfl (MEs.nStar h) h4 h5)
  refine cL C hk hw ?_
  obtain⟨m,news,F',N,R,hl⟩:=hk.fr
  refine method_type F' (hk.inG C) (v:= .builtin "Exception.__init__") (by kernel_rfl) (by decide+kernel) ?_ ?_ ?_
  ·exact TO.xin
  ·decide+kernel
  ·have hP':Post S cx VR Q E J g s (Ob (d0 F _ st) fun vs st1=>rE S.toCore T .xinit vs st1):=hP
   cases h with
   |nil=>exact hP'.elim
   |cons h1 r=>
    have hm:All2 (ME S.toCore sc) (_::_) (_::_):= .cons h1 r
    refine KU ?_ (aL h1.nStar) (bS (MEs.nStar r))
    refine Sat.bind (gj G C hm st) (hk.toks _) (Post.later hP' (Ext.toks hk _)) fun vs st2 ι J2 g2 s2 vs' x2 hvs hP2=>?_
    exact rP TO C x2.ok hvs hP2
theorem Bm(G:GoodX S.toCore T F)(TO:TbOk S.toCore T)(C:CxOk S cx sc){ir:IE}{x:Expr}(hm:ME S.toCore sc ir x):Sat S cx VB (Ie x cx.env (eval x cx.env)) st (Fv S.toCore F ir st):=by
 have ge:∀{ir:IE} {x:Expr} (_:ME S.toCore sc ir x) (st:St),Sat S cx VR (eval x cx.env) st (F.e ir st):=fun h st=>G.e S.FN sc cx C _ _ h st
 have gt:∀{ir:IE} {x:Expr} (_:ME S.toCore sc ir x) (st:St),Sat S cx VB (Ie x cx.env (eval x cx.env)) st (F.t ir st):=fun h st=>G.t S.FN sc cx C _ _ h st
 intro J g s Q E hk hP
 have plain:∀{ir:IE} {x:Expr} (hm:ME S.toCore sc ir x),(Ie x cx.env (eval x cx.env)=(do
   let v<-eval x cx.env
   standAt x.pos
   holding [v] (truthy v)))->Post S cx VB Q E J g s (Ob (F.e ir st) fun v st1=>pureO (oS S.toCore st1 v) st1)->fm (model S.prog S.w) cx.A (Ie x cx.env (eval x cx.env)) Q E s:=by
  intro ir x hm he hP
  refine isTrue_plain ?_ he
  refine Sat.bind (ge hm st) hk hP fun v st1 ι J1 g1 s1 v' x1 hv hP1=>?_
  cases z:oS S.toCore st1 v with
  |none=>rw[z] at hP1;exact hP1.elim
  |some c=>rw[z] at hP1;exact gE C x1.ok hv z hP1
 induction hm using ME.casesOn with
 |not_ h=>
  refine isTrue_not ?_
  refine Sat.bind (gt h st) hk hP fun c st1 ι J1 g1 s1 c' x1 hc hP1=>?_
  cases hc
  exact hP1.ret0 x1.ok rfl
 | @and_ _ _ pp h=>
  cases h with
  |nil=>
   have hP':Post S cx VB Q E J g s (some (.ok true,st)):=hP
   exact isTrue_and_nil (hP'.ret0 hk rfl)
  |cons h1 r=>
   refine isTrue_and ?_
   refine Sat.bind (gt h1 st) hk hP fun c st1 ι J1 g1 s1 c' x1 hc hP1=>?_
   subst c'
   cases c with
   |true=>
    rw[if_pos rfl]
    have:=gt (.and_ (p:=pp) r) st1 J1 g1 s1 Q E x1.ok hP1
    exact this
   |false=>exact hP1.ret0 x1.ok rfl
 | @or_ _ _ pp h=>
  cases h with
  |nil=>
   have hP':Post S cx VB Q E J g s (some (.ok false,st)):=hP
   exact Lf (hP'.ret0 hk rfl)
  |cons h1 r=>
   refine KT ?_
   refine Sat.bind (gt h1 st) hk hP fun c st1 ι J1 g1 s1 c' x1 hc hP1=>?_
   subst c'
   cases c with
   |true=>exact hP1.ret0 x1.ok rfl
   |false=>
    have:=gt (.or_ (p:=pp) r) st1 J1 g1 s1 Q E x1.ok hP1
    exact this
 |cmp h1 h2 h3=>
  refine JY ?_ h3
  refine Sat.bind (ge h1 st) hk hP fun v st1 ι J1 g1 s1 v' x1 hv hP1=>?_
  refine Sat.bind (ge h2 st1) x1.ok hP1 fun u st2 ι J2 g2 s2 u' x2 hu hP2=>?_
  cases z:mC S.toCore st2 _ v u with
  |none=>rw[z] at hP2;exact hP2.elim
  |some c=>
   rw[z] at hP2
   refine ta (c:=c) C x2.ok (hv.le x2.le) hu z fun J3 g3 s3 d x3 hd=>?_
   cases hd
   exact I5 (hP2 J3 g3 s3 c x3 rfl)
 |ite h1 h2 h3=>exact hP.elim
 |bad=>exact hP.elim
 |cNone=>exact plain .cNone rfl hP
 |cBool=>exact plain .cBool rfl hP
 |cInt=>exact plain .cInt rfl hP
 |cStr=>exact plain .cStr rfl hP
 |neg=>exact plain .neg rfl hP
 |loc h1 h2=>exact plain (.loc h1 h2) rfl hP
 |cel h1 h2=>exact plain (.cel h1 h2) rfl hP
 |cv h0 h1 h2=>exact plain (.cv h0 h1 h2) rfl hP
 |glob h1 h2 h3 h4=>exact plain (.glob h1 h2 h3 h4) rfl hP
 |attr h h1=>exact plain (.attr h h1) rfl hP
 |tup h=>exact plain (.tup h) rfl hP
 |lst h=>exact plain (.lst h) rfl hP
 |dct0=>exact plain .dct0 rfl hP
 |dct h1 h2=>exact plain (.dct h1 h2) rfl hP
 |tdct h1 h2=>exact plain (.tdct h1 h2) rfl hP
 |slcH h1 h2=>exact plain (.slcH h1 h2) rfl hP
 |comp h1 h2 h3=>exact plain (.comp h1 h2 h3) rfl hP
 |compR h0 h1 h2 h3=>exact plain (.compR h0 h1 h2 h3) rfl hP
 |bin h1 h2=>exact plain (.bin h1 h2) rfl hP
 |idx h1 h2 h3=>exact plain (.idx h1 h2 h3) rfl hP
 |slcA h1 h2 h3=>exact plain (.slcA h1 h2 h3) rfl hP
 |slcB h1 h2=>exact plain (.slcB h1 h2) rfl hP
 |call h1 h2 h3=>exact plain (.call h1 h2 h3) rfl hP
 |mcall h1 h2 h3 h4 h5=>exact plain (.mcall h1 h2 h3 h4 h5) rfl hP
 |len hw h=>exact plain (.len hw h) rfl hP
 |str hw h=>exact plain (.str hw h) rfl hP
 |int hw h=>exact plain (.int hw h) rfl hP
 |isTup hw hw2 h=>exact plain (.isTup hw hw2 h) rfl hP
 |isExc hw h hg=>exact plain (.isExc hw h hg) rfl hP
 |meth hb h1 h2 h3 h4 h5=>exact plain (.meth hb h1 h2 h3 h4 h5) rfl hP
 |xinit hw h h4 h5=>exact plain (.xinit hw h h4 h5) rfl hP
end
noncomputable def jn:List Nat->List Value->Option (List (Nat×Value))
 | [],vs=>grd vs.isEmpty (some [])
 |i::r,vs=>match vs with
  | []=>none
  |v::vs=>oget (jn r vs) fun l=>some ((i,v)::l)
noncomputable def fF:List Nat->Bool
 | []=>true
 |i::r=>!r.contains i&&fF r
noncomputable def gV:List Nat->Nat->List (Nat×Value)->List (Nat×Value)
 | [],_,lo=>lo
 |c::r,n,lo=>(c,.ref n)::gV r (n+1) lo
noncomputable def eN:List Nat->Nat->List (Nat×Value)->List (Nat×AO)
 | [],_,_=> []
 |c::r,n,lo=>(n,.cell (lk lo c))::eN r (n+1) lo
section
variable(T:Tb)(F:Fs)
noncomputable def ap(st0:St)(o:Out AF):Out Value:=oget o fun r=>match r.1 with
 | .err k=>oget (am r.2 k) fun st'=>some (.err k,{st' with lo:=st0.lo,dp:=st0.dp,hd:=st0.hd})
 | .ok f=>match f with
  | .ret v=>some (.ok v,{r.2 with lo:=st0.lo,dp:=st0.dp,hd:=st0.hd})
  | .next=>some (.ok .none,{r.2 with lo:=st0.lo,dp:=st0.dp,hd:=st0.hd})
  | .brk=>none
  | .cont=>none
noncomputable def qz(fi:FnI)(vs:List Value)(st:St):Out Value:=match st.dp with
 |0=>none
 |d+1=>oget (jn fi.pn (vs++fi.dfl)) fun lo=>ap st (F.b fi.body {st with dp:=d,nx:=st.nx+fi.cel.length,led:=eN fi.cel st.nx lo++st.led,lo:=gV fi.cel st.nx lo})
noncomputable def yM(k:Nat)(vs:List Value)(st:St):Out Value:=oget (lk T.fns k) fun fi=>match fi.tag with
 |true=>F.oc k vs st
 |false=>qz F fi vs st
noncomputable def Da(k:Nat)(vs:List Value)(st:St):Out Value:=oget (lk st.led k) fun o=>oget (A6 o) fun p=>oget (lk st.led p.2) fun o2=>oget (yv o2) fun i2=>grd (av i2 p.1) (oget (lk T.dfs p.1) fun fi=>qz F fi vs st)
noncomputable def vC(x:Nat):Out Value->Out Value
 |some (.ok .none,st)=>some (.ok (.ref x),st)
 |some (.err k,st)=>some (.err k,st)
 |_=>none
noncomputable def stC(v:Value)(vs:List Value)(st:St):Out Value:=oget (bL v) fun k=>match lk T.fns k with
  |some _=>yM T F k vs st
  |none=>match lk T.cls k with
   |some f=>vC (st.nx+1) (yM T F f (.ref (st.nx+1)::vs) {st with nx:=st.nx+2,led:=(st.nx+1,.inst k st.nx)::(st.nx,.adict [])::st.led})
   |none=>match grd (gy vs.length 900) (lk T.exs k) with
    |some f=>vC (st.nx+1) (yM T F f (.ref (st.nx+1)::vs) {st with nx:=st.nx+2,led:=(st.nx+1,.exn k st.nx)::(st.nx,.tup vs)::st.led})
    |none=>Da T F k vs st
noncomputable def nK{α:Type}:Out α->Out α
 |some (.err k,st)=>match am st k with
  |some st'=>some (.err k,st')
  |none=>none
 |o=>o
noncomputable def EY(c:IE)(b:List IS)(st:St):Out AF:=Ob (nK (F.t c st)) fun q st1=>match q with
 |true=>Ob (nK (F.b b st1)) fun f st2=>match f with
  | .next=>F.w c b st2
  | .cont=>F.w c b st2
  | .brk=>some (.ok .next,st2)
  | .ret v=>some (.ok (.ret v),st2)
 |false=>some (.ok .next,st1)
end
noncomputable def bR(nm:Nat->Str):List Nat->List Value->List (Str×Value)
 |i::r,v::vs=>(nm i,v)::bR nm r vs
 |_,_=> []
section
variable{S:Sta}
theorem gW{nm:Nat->Str}{i:Nat}{r:List Nat}{v:Value}{vs:List Value}:bR nm (i::r) (v::vs)=(nm i,v)::bR nm r vs:=rfl
theorem cj{pn:List Nat}{vs:List Value}{y:Str×Value}:y∈bR S.nm pn vs->∃i∈pn,y.1=S.nm i:=by
 induction pn generalizing vs with
 |nil=>exact fun h=>nomatch h
 |cons i r ih=>
  cases vs with
  |nil=>exact fun h=>nomatch h
  |cons v vs=>
   intro h
   rcases eq.mp h with h|h
   ·exact⟨i,.head _,by rw[h]⟩
   ·obtain⟨j,hj,e⟩:=ih h;exact⟨j,.tail _ hj,e⟩
theorem g9{i:Nat}{r:List Nat}{v:Value}{vs:List Value}{lo:List (Nat×Value)}(h:jn (i::r) (v::vs)=some lo):∃l,jn r vs=some l/\lo=(i,v)::l:=by
 obtain⟨l,z,e⟩:h:=aC h
 exact⟨l,z,(bd e).symm⟩
theorem kG{pn:List Nat}{vs:List Value}{lo}:jn pn vs=some lo->lo.map (·.1)=pn:=by
 induction pn generalizing vs lo with
 |nil=>cases vs with|nil=>intro h;rw[<-bd h];rfl|cons v vs=>exact fun h=>bn rfl (heq_of_eq h)
 |cons i r ih=>
  cases vs with
  |nil=>exact fun h=>bn rfl (heq_of_eq h)
  |cons v vs=>intro h;obtain⟨l,z,rfl⟩:=g9 h;exact congrArg (i:: ·) (ih z)
theorem sr{pn:List Nat}{vs:List Value}{lo}:jn pn vs=some lo->pn.length=vs.length:=by
 induction pn generalizing vs lo with
 |nil=>cases vs with|nil=>exact fun ι=>rfl|cons v vs=>exact fun h=>bn rfl (heq_of_eq h)
 |cons i r ih=>
  cases vs with
  |nil=>exact fun h=>bn rfl (heq_of_eq h)
  |cons v vs=>intro h;obtain⟨l,z,rfl⟩:=g9 h;exact congrArg (·+1) (ih z)
theorem sV(inj:∀i j,S.nm i=S.nm j->i=j){J:Rho}{pn:List Nat}{vs vs':List Value}{lo}(h:jn pn vs=some lo)(y:All2 (VR J) vs vs'):∀x v,lk lo x=some v->∃v',(bR S.nm pn vs').lookup (S.nm x)=some v'/\VR J v v':=by
 induction y generalizing pn lo with
 |nil=>
  cases pn with
  |nil=>rw[<-bd h];exact fun ι ι e=>bn rfl (heq_of_eq e)
  |cons i r=>exact bn rfl (heq_of_eq h)
 | @cons w w' vs m hw hr ih=>
  cases pn with
  |nil=>exact bn rfl (heq_of_eq h)
  |cons i r=>
   intro x v e
   obtain⟨l,z,rfl⟩:=g9 h
   rw[aR] at e
   rw[gW]
   rw[Hs]
   cases e':av i x with
   |true=>
    rw[e'] at e
    rw[aH e',beq_self_eq_true]
    exact⟨_,rfl,bd e▸hw⟩
   |false=>
    rw[e'] at e
    rw[show(S.nm x==S.nm i)=false from beq_eq_false_iff_ne.mpr fun q=>aY e' (inj _ _ q.symm)]
    exact ih z x v e
theorem cr(inj:∀i j,S.nm i=S.nm j->i=j){pn:List Nat}:∀{vs:List Value},fF pn=true->((bR S.nm pn vs).map (·.1)).Nodup:=by
 induction pn with
 |nil=>exact fun ι=> .nil
 |cons i r ih=>
  intro vs h
  cases vs with
  |nil=>exact .nil
  |cons v vs=>
  have h:(!r.contains i&&fF r)=true:=h
  rw[db] at h
  rw[gW,mo,sB]
  refine⟨fun hm=>?_,ih h.2⟩
  obtain⟨y,hy,e⟩:=re.mp hm
  obtain⟨j,hj,e2⟩:=cj hy
  have:i=j:=inj _ _ (by rw[<-e2];exact e.symm)
  subst this
  simp[hj] at h
end
theorem bq{α:Type}{p:Str×α}{r:List (Str×α)}{y:Str}(h:y≠p.1):(p::r).lookup y=r.lookup y:=by
 rw[Hs,beq_eq_false_iff_ne.mpr h]
theorem cT{α:Type}{p:Str×α}{r:List (Str×α)}{y:Str}(h:y=p.1):(p::r).lookup y=some p.2:=by
 subst h
 rw[Hs,beq_self_eq_true]
theorem bp{α:Type}{l:List (Str×α)}{y:Str}(h:y∉l.map (·.1)):l.lookup y=none:=by
 rw[List.lookup_eq_none_iff]
 exact fun q hq=>bne_iff_ne.mpr fun e=>h (by rw[e];exact nw hq)
theorem vd{k:Str->Option NameKind}{y:Str}{l:List (Str×Value)}:∀{m:Str->Option Value},(l.map (·.1)).Nodup->bindL k l m y=match l.lookup y with
  |some v=>if k y=some .local then some v else m y
  |none=>m y:=by
 induction l with
 |nil=>exact fun ι=>rfl
 |cons p r ih=>
  intro m h
  obtain⟨n,v⟩:=p
  rw[mo,sB] at h
  unfold bindL
  rw[ih h.2]
  by_cases e:y=n
  ·subst e
   rw[cT (p:=(y,v)) rfl,bp h.1]
   dsimp only
   by_cases q:k y=some .local
   ·rw[if_pos q,if_pos q,if_pos rfl]
   ·rw[if_neg q,if_neg q]
  ·rw[bq (p:=(n,v)) e]
   have:(if k n=some .local then fun y=>if y=n then some v else m y else m) y=m y:=by
    split
    ·exact if_neg e
    ·rfl
   rw[this]
theorem ve{k:Str->Option NameKind}{y:Str}{l:List (Str×Value)}:∀{m:Str->Option Value},(l.map (·.1)).Nodup->bindC k l m y=match l.lookup y with
  |some v=>if k y=some .local then m y else some v
  |none=>m y:=by
 induction l with
 |nil=>exact fun ι=>rfl
 |cons p r ih=>
  intro m h
  obtain⟨n,v⟩:=p
  rw[mo,sB] at h
  unfold bindC
  rw[ih h.2]
  by_cases e:y=n
  ·subst e
   rw[cT (p:=(y,v)) rfl,bp h.1]
   dsimp only
   by_cases q:k y=some .local
   ·rw[if_pos q,if_pos q]
   ·rw[if_neg q,if_neg q,if_pos rfl]
  ·rw[bq (p:=(n,v)) e]
   have:(if k n=some .local then m else fun y=>if y=n then some v else m y) y=m y:=by
    split
    ·rfl
    ·exact if_neg e
   rw[this]
theorem jr(ns:List (Str×NameKind)):∀(n:Nat) (acc:List (Str×Addr)),∃l,cellsFrom n ns acc=l++acc/\(∀p∈l,n<=p.2)/\(l.map (·.2)).Nodup:=by
 induction ns with
 |nil=>exact fun n acc=>⟨[],rfl,(fun ι h=>nomatch h),.nil⟩
 |cons p r ih=>
  intro n acc
  obtain⟨x,k⟩:=p
  unfold cellsFrom
  split
  ·obtain⟨l,e,h1,h2⟩:=ih (n+1) ((x,n)::acc)
   refine⟨l++ [(x,n)],by rw[e];simp,fun p hp=>?_,?_⟩
   ·rcases nl.mp hp with hp|hp
    ·exact Hh (h1 p hp)
    ·rcases o0.mp hp with rfl;exact wh _
   ·rw[wE,zs]
    refine⟨h2,by simp,fun a ha b hb e2=>?_⟩
    obtain⟨p,hp,rfl⟩:=re.mp ha
    have hb':b=n:=by simpa using hb
    have:=h1 p hp
    rw[e2,hb'] at this
    exact Kg _ this
  ·exact ih n acc
theorem iJ{cm:Str->Option Value}{cs:List (Str×Addr)}{cells:List (Addr×Obj)}(h:Jy cm cs cells):cells.map (·.1)=cs.map (·.2):=by
 induction h with
 |nil=>rfl
 |cons h r ih=>rw[mo,mo,ih]
theorem pG{α:Type}{l:List (Nat×α)}:∀{k:Nat},lk l k=none->∀p∈l,(p.1=k)=False:=by
 induction l with
 |nil=>intro k h q hq;cases hq
 |cons p r ih=>
  intro k h q hq
  rw[aR] at h
  by_cases e:av p.1 k=true
  ·rw[e] at h;cases h
  ·have e2:av p.1 k=false:=by cases z:av p.1 k with|true=>exact absurd z e|false=>rfl
   rw[e2] at h
   rcases eq.mp hq with rfl|hq
   ·exact eq_false (aY e2)
   ·exact ih h q hq
section
variable{S:Sta}
theorem vb{cm:Str->Option Value}{J':Rho}{lo:List (Nat×Value)}{cs:List (Str×Addr)}{cells:List (Addr×Obj)}{cel:List Nat}{n:Nat}(x:Jy cm cs cells):cs.map (·.1)=cel.map S.nm->
  (∀c∈cel,match lk lo c with|none=>cm (S.nm c)=none|some v=>∃v',cm (S.nm c)=some v'/\VR J' v v')->
  (∀i a,(cs.map (·.2))[i]?=some a->J' (n+i)=some a)->(∀p∈cells,(p.1==sysModules)=false)->All2 (ER S.prog S.w S.nm S.dfi S.FN J') (eN cel n lo) cells:=by
 induction x generalizing cel n with
 |nil=>cases cel with|nil=>exact fun ι ι ι ι=> .nil|cons c r=>exact fun e=>nomatch e
 |cons hd hr ih=>
  cases cel with
  |nil=>exact fun e=>nomatch e
  |cons c r=>
   intro e hv hρ hs
   rw[mo,mo] at e
   injection e with e1 e2
   refine .cons ⟨hρ 0 _ rfl,⟨_,hd,?_⟩,hs _ (.head _)⟩ (ih e2 (fun c hc=>hv c (.tail _ hc)) (fun i b hb=>?_) fun p hp=>hs p (.tail _ hp))
   ·have:=hv c (.head _)
    dsimp only at e1
    rw[<-e1] at this
    revert this
    cases lk lo c with
    |none=>exact id
    |some v=>exact fun⟨v',a,b⟩=>⟨v',a,b⟩
   ·have:=hρ (i+1) b hb
    rwa [<-Nat.add_assoc,Nat.add_right_comm] at this
theorem uk(inj:∀i j,S.nm i=S.nm j->i=j){lo:List (Nat×Value)}{x:Nat}{v:Value}{cs:List (Str×Addr)}:∀{cel:List Nat} {n:Nat},cs.map (·.1)=cel.map S.nm->lk (gV cel n lo) x=some v->
  (∃i a,v= .ref (n+i)/\(cs.map (·.2))[i]?=some a/\cs.lookup (S.nm x)=some a)\/(cs.lookup (S.nm x)=none/\x∉cel/\lk lo x=some v)
 :=by
 induction cs with
 |nil=>
  intro cel n e h
  cases cel with
  |nil=>exact .inr ⟨rfl,(fun h=>nomatch h),h⟩
  |cons _ _=>nomatch e
 |cons p cs ih=>
 intro cel n e h
 cases cel with
 |nil=>nomatch e
 |cons c r=>
  rw[mo,mo] at e
  injection e with e1 e2
  rw[show gV (c::r) n lo=(c,.ref n)::gV r (n+1) lo from rfl,aR] at h
  by_cases q:av c x=true
  ·dsimp only at h
   rw[q] at h
   cases h
   have:=aH q
   subst this
   exact .inl ⟨0,p.2,rfl,rfl,cT e1.symm⟩
  ·have q2:av c x=false:=by cases z:av c x with|true=>exact absurd z q|false=>rfl
   dsimp only at h
   rw[q2] at h
   have hne:S.nm x≠p.1:=fun z=>aY q2 (inj _ _ (by rw[z,e1]))
   rcases ih e2 h with⟨i,a,h1,h2,h3⟩|⟨h1,h2,h3⟩
   ·exact .inl ⟨i+1,a,by rw[h1,show n+1+i=n+(i+1) by omega],by simpa using h2,by rw[bq hne];exact h3⟩
   ·refine .inr ⟨by rw[bq hne];exact h1,fun z=>?_,h3⟩
    rcases eq.mp z with z|z
    ·exact aY q2 z.symm
    ·exact h2 z
noncomputable def Rho.extN(J:Rho)(nx:Nat)(as:List Addr):Rho:=fun k=>if k<nx then J k else as[k-nx]?
theorem Rho.extN_at(J:Rho){nx i:Nat}{as:List Addr}{a:Addr}(h:as[i]?=some a):J.extN nx as (nx+i)=some a:=by
 unfold Rho.extN
 rw[if_neg (by omega),JM]
 exact h
theorem Rho.extN_le{J:Rho}{nx:Nat}{as:List Addr}(hi:∀k,nx<=k->J k=none):J.le (J.extN nx as):=fun k a h=>by
 unfold Rho.extN
 by_cases q:k<nx
 ·rw[if_pos q];exact h
 ·rw[hi k (Nat.le_of_not_lt q)] at h;cases h
theorem sT{J:Rho}{nx:Nat}{led:List (Nat×AO)}{news:Led}{cm:Str->Option Value}{cs:List (Str×Addr)}{cells:Led}{cel:List Nat}{lo:List (Nat×Value)}{g:Heap}{L:Addr}{h:Heap}
  (R:Mine.Rel S.prog S.w S.nm S.dfi S.FN S.HB J nx led news) (Y:Jy cm cs cells) (e:cs.map (·.1)=cel.map S.nm) (hv:∀c∈cel,match lk lo c with|none=>cm (S.nm c)=none|some v=>∃v',cm (S.nm c)=some v'/\VR J v v')
  (hnd:(cs.map (·.2)).Nodup) (hap:∀p∈cells,p.1∉news.map (·.1)) (hs:∀p∈cells,(p.1==sysModules)=false):
  J.le (J.extN nx (cs.map (·.2)))/\Mine.Rel S.prog S.w S.nm S.dfi S.FN S.HB (J.extN nx (cs.map (·.2))) (nx+cel.length) (eN cel nx lo++led) (cells++news):=by
 have hle:J.le (J.extN nx (cs.map (·.2))):=Rho.extN_le R.hi
 have hlen:(cs.map (·.2)).length=cel.length:=by
  have:=congrArg List.length e
  rw[xL,xL] at this
  rw[xL,this]
 refine⟨hle,fun k hk=>hle _ _ (R.hd k hk),na R.hb (Jf _ _),fun k hk=>?_,?_,?_⟩
 ·unfold Rho.extN
  rw[if_neg (by omega)]
  exact Ka (by rw[hlen];omega)
 ·rw[wE,zs]
  refine⟨by rw[iJ Y];exact hnd,R.nd,fun a ha b hb e2=>?_⟩
  obtain⟨p,hp,rfl⟩:=re.mp ha
  exact hap p hp (by rw[e2];exact hb)
 ·refine(vb Y e (fun c hc=>?_) (fun i a ha=>Rho.extN_at J ha) hs).append (ERs.le _ _ _ _ _ hle R.er)
  have:=hv c hc
  revert this
  cases lk lo c with
  |none=>exact id
  |some v=>exact fun⟨v',a,b⟩=>⟨v',a,b.le hle⟩
end
noncomputable def bY(x:Expr):Bool:=!Nat.beq (D4 x) 5
noncomputable def zu:Expr->Bool
 | .Tuple vs _ _=>vs.all (foldedForSure 8)
 |_=>true
section
variable(S:Core)(sc:Scope)
inductive MT:IT->Expr->Prop
 |loc {x p}:ae sc (S.nm x)->MT (.loc x) (.Name (S.nm x) p)
 |attr {o x i p}:ME S sc o x->MT (.attr o i) (.Attribute x (S.nm i) p)
noncomputable def vN(x:Nat)(C:Nat):Prop:=sc.names.lookup (S.nm x)=some .globalImplicit/\(S.nm x==("__debug__":Str))=false/\nsIn S.K mainGlobals (S.nm x)=some (some (.ref C))/\cI S.K C=true
inductive CodeK(K:Frag)(c P:Addr):Prop
 |mk (o:Obj) (vs:Array Value) (file:Str) (tf:Tok) (flags:Int) (tg:Tok) (inF:Bool) (text:Int) (tt:Tok) (h1:K.lookup c=some o) (h2:o.cls= .type "code") (h3:o.data= .fields vs) (h4:vs[11]?=some (.ref P)) (h5:vs.getD 11 .none= .ref P) (h6:vs.getD 18 .none= .str file tf)
  (h7:vs.getD 7 .none= .int flags tg) (h8:vs.getD 9 .none= .bool inF) (h9:vs.getD 10 .none= .int text tt) (h10:c≠P):CodeK K c P
inductive MS:IS->Stmt->Prop
 |asg {y e x p' p}:ME S sc e x->bY x=true->ae sc (S.nm y)->MS (.asg y e) (.Assign [.Name (S.nm y) p'] x p)
 |asgC {y e x p' p}:ME S sc e x->bY x=true->sc.names.lookup (S.nm y)=some .cell->MS (.asgC y e) (.Assign [.Name (S.nm y) p'] x p)
 |asgL {y x it k i elt px scope pos q r py p}:bV S sc "range" (.type "range")->ME S sc it i->CompSc S sc scope x->S.ce (aT scope sc) k elt->ae sc (S.nm y)->(py.line==pos.line)=true->(scope.names.any fun z=>z.1==S.nm y&&(z.2== .local||z.2== .cell))=false->
   MS (.asgL y x it k) (.Assign [.Name (S.nm y) py] (.ListComp elt [⟨.Name (S.nm x) px,.Call (.Name (ag "range") q) [i] [] r,[],0⟩] scope pos) p)
 |asgA {o a e x y p' p}:ME S sc e x->bY x=true->ME S sc o y->MS (.asgA o a e) (.Assign [.Attribute y (S.nm a) p'] x p)
 |asgI {o i e x y z p' p}:ME S sc e x->bY x=true->ME S sc o y->ME S sc i z->cJ z=true->MS (.asgI o i e) (.Assign [.Subscript y z p'] x p)
 |asgT {ts e xs x k p' p}:ME S sc e x->bY x=true->zu x=true->All2 (MT S sc) ts xs->MS (.asgT ts e) (.Assign [.Tuple xs k p'] x p)
 |aug {y op e x p' p}:ME S sc e x->ae sc (S.nm y)->(S.nm y==("__debug__":Str))=false->MS (.aug y op e) (.AugAssign (.Name (S.nm y) p') op x p)
 |augA {o a op e x y p' p}:ME S sc o y->ME S sc e x->MS (.augA o a op e) (.AugAssign (.Attribute y (S.nm a) p') op x p)
 |augI {o i op e x y z p' p}:ME S sc o y->ME S sc i z->cJ z=true->ME S sc e x->MS (.augI o i op e) (.AugAssign (.Subscript y z p') op x p)
 |if_ {c a b x y z p}:ME S sc c x->All2 MS a y->All2 MS b z->MS (.if_ c a b) (.If x y z p)
 |while_ {c b x y p}:ME S sc c x->All2 MS b y->MS (.while_ c b) (.While x y [] p)
 |for_ {n it b x y p' p}:ME S sc it x->bY x=true->All2 MS b y->ae sc (S.nm n)->MS (.for_ n it b) (.For (.Name (S.nm n) p') x y [] p)
 |forR {n it b x y p' q r p}:bV S sc "range" (.type "range")->ME S sc it x->All2 MS b y->ae sc (S.nm n)->MS (.forR n it b) (.For (.Name (S.nm n) p') (.Call (.Name (ag "range") q) [x] [] r) y [] p)
 |ret {e x p}:ME S sc e x->MS (.ret e) (.Return (some x) p)
 |ret0 {p}:MS .ret0 (.Return none p)
 |raise {e x p}:ME S sc e x->MS (.raise e) (.Raise (some x) none p)
 |raiseN {n p' p}:ae sc (S.nm n)->(S.nm n==("__debug__":Str))=false->MS (.raiseN n) (.Raise (some (.Name (S.nm n) p')) none p)
 |try_ {b C n h y z hd p' p'' p x}:All2 MS b y->vN S sc x C->ae sc (S.nm n)->All2 MS h (hd::z)->MS (.try_ b C n h) (.Try y [.ExceptHandler (some (.Name (S.nm x) p')) (some (S.nm n)) (hd::z) p''] [] [] p)
 |expr {e x p}:ME S sc e x->bY x=true->MS (.expr e) (.Expr x p)
 |fdef {x i P c q params body scope pos}:S.nest sc=some (c,P,q)->CodeK S.K c P->P<S.HB->ae sc (S.nm x)->params.defaults= []->params.kw_defaults= []->(∀env,annTrees params none env= [])->(∀y∈scope.names,y.2≠.free)->S.dfi.d i=⟨S.nm x,q++S.nm x,params,body,scope⟩->
   MS (.fdef x i P pos.line pos.col) (.FunctionDef (S.nm x) params body [] none [] scope none (S.nm x) pos)
 |pass {p}:MS .pass (.Pass p)
 |bad {x}:MS .bad x
 |orc {k s x}:MS s x->MS (.orc k s) x
end
noncomputable def HG(S:Core)(sc:Scope)(P:Stmt->Prop):IS->Prop
 | .asg y e=>∀{x p' p},ME S sc e x->bY x=true->ae sc (S.nm y)->P (.Assign [.Name (S.nm y) p'] x p)
 | .asgC y e=>∀{x p' p},ME S sc e x->bY x=true->sc.names.lookup (S.nm y)=some .cell->P (.Assign [.Name (S.nm y) p'] x p)
 | .asgL y x it k=>∀{i elt px scope pos q r py p},bV S sc "range" (.type "range")->ME S sc it i->CompSc S sc scope x->S.ce (aT scope sc) k elt->ae sc (S.nm y)->(py.line==pos.line)=true->(scope.names.any fun z=>z.1==S.nm y&&(z.2== .local||z.2== .cell))=false->
   P (.Assign [.Name (S.nm y) py] (.ListComp elt [⟨.Name (S.nm x) px,.Call (.Name (ag "range") q) [i] [] r,[],0⟩] scope pos) p)
 | .if_ c a b=>∀{x y z p},ME S sc c x->All2 (MS S sc) a y->All2 (MS S sc) b z->P (.If x y z p)
 | .while_ c b=>∀{x y p},ME S sc c x->All2 (MS S sc) b y->P (.While x y [] p)
 | .for_ n it b=>∀{x y p' p},ME S sc it x->bY x=true->All2 (MS S sc) b y->ae sc (S.nm n)->P (.For (.Name (S.nm n) p') x y [] p)
 | .forR n it b=>∀{x y p' q r p},bV S sc "range" (.type "range")->ME S sc it x->All2 (MS S sc) b y->ae sc (S.nm n)->P (.For (.Name (S.nm n) p') (.Call (.Name (ag "range") q) [x] [] r) y [] p)
 | .ret e=>∀{x p},ME S sc e x->P (.Return (some x) p)
 | .try_ b C n h=>∀{y z hd p' p'' p x},All2 (MS S sc) b y->vN S sc x C->ae sc (S.nm n)->All2 (MS S sc) h (hd::z)->P (.Try y [.ExceptHandler (some (.Name (S.nm x) p')) (some (S.nm n)) (hd::z) p''] [] [] p)
 | .expr e=>∀{x p},ME S sc e x->bY x=true->P (.Expr x p)
 |_=>∀x,P x
theorem MS.on{S:Core}{sc:Scope}{e:IS}{P:Stmt->Prop}{x:Stmt}(h:MS S sc e x)(k:HG S sc P e):P x:=by
 induction h using MS.casesOn with
 |asg h1 h2 h3=>exact k h1 h2 h3
 |asgC h1 h2 h3=>exact k h1 h2 h3
 |asgL h1 h2 h3 h4 h5 h6 h7=>exact k h1 h2 h3 h4 h5 h6 h7
 |if_ h1 h2 h3=>exact k h1 h2 h3
 |while_ h1 h2=>exact k h1 h2
 |for_ h1 h2 h3 h4=>exact k h1 h2 h3 h4
 |forR h1 h2 h3 h4=>exact k h1 h2 h3 h4
 |ret h1=>exact k h1
 |try_ h1 h2 h3 h4=>exact k h1 h2 h3 h4
 |expr h1 h2=>exact k h1 h2
 |_=>exact k _
structure FnB(S:Core)(fi:FnI)(name qual:Str)(params:Arguments)(body:List Stmt)(scope:Scope)(dV kV doc pm cdv ct:Value)(an:Option Addr)(dM:List Value):Prop where
 bind:∀(vs:List Value) (s:Shared),S.K.In s.heap->(vs++dM).length=fi.pn.length->Lv s (fnOf name qual params body scope dV kV doc pm an cdv ct) ⟨vs,[]⟩ (bR S.nm fi.pn (vs++dM))
 dr:∀J:Rho,(∀k,k<S.HB->J k=some k)->All2 (VR J) fi.dfl dM
 pn:fF fi.pn=true
 loc:∀i∈fi.pn,scope.names.lookup (S.nm i)=some .local\/scope.names.lookup (S.nm i)=some .cell
 fs:nX scope=false
 cel:(cellsFrom 0 scope.names []).map (·.1)=fi.cel.map S.nm
 cnd:(fi.cel.map S.nm).Nodup
 cok:∀c∈fi.cel,scope.names.lookup (S.nm c)=some .cell
 ms:All2 (MS S scope) fi.body body
 co:scope.isCoroutine=false
 gen:scope.isGenerator=false
 kind:scope.kind= .function
 nest:∀c P q,S.nest scope=some (c,P,q)->cdv= .ref c/\qual++".<locals>."=q
inductive FnAt(S:Core)(f:Nat)(fi:FnI):Prop
 |mk (name qual:Str) (params:Arguments) (body:List Stmt) (scope:Scope) (dV kV doc pm cdv ct oc:Value) (an od:Option Addr) (osl:Array (Option Value)) (dM:List Value) (h1:S.K.lookup f=some ⟨oc,od,.func (fnOf name qual params body scope dV kV doc pm an cdv ct),osl⟩) (h2:codeIn S.K cdv qual=true) (h3:FnB S fi name qual params body scope dV kV doc pm cdv ct an dM):FnAt S f fi
structure FnsOk(S:Core)(T:Tb):Prop where
 fn:∀f fi,lk T.fns f=some fi->FnAt S f fi
 hb:∀f fi,lk T.fns f=some fi->f<S.HB
 df:∀i fi,lk T.dfs i=some fi->∀doc pm c' ctv,FnB S fi (S.dfi.d i).name (S.dfi.d i).qual (S.dfi.d i).params (S.dfi.d i).body (S.dfi.d i).scope .none .none doc pm (.ref c') ctv none []
noncomputable def CallSat(S:Core)(k:Nat)(vs:List Value)(st:St)(o:Out Value):Prop:=∀FN sc cx,CxOk ⟨S,FN⟩ cx sc->∀J g s,Ok ⟨S,FN⟩ cx g s J st->∀A:Around,A.frames=cx.A.frames->A.handled=cx.A.handled->A.depth<=cx.A.depth+2->A.units<=cx.A.units+10->
 ∀vs',All2 (VR J) vs vs'->∀R:Hp->Shared->Prop,Post ⟨S,FN⟩ cx VR (fun v s'=>R (.ok (.ret v)) s') (fun e s'=>R (.error e) s') J g s o->Hj (model S.prog S.w) A (.call (.ref k) ⟨vs',[]⟩) R s
noncomputable def JB(S:Core)(ir:List IS)(st:St)(o:Out AF):Prop:=∀FN sc cx,CxOk ⟨S,FN⟩ cx sc->∀x,All2 (MS S sc) ir x->Sat ⟨S,FN⟩ cx VF (execs x cx.env) st o
noncomputable def bE{α:Type}(B:List (Nat×AO)):Out α->Out α
 |some (r,st)=>some (r,{st with led:=st.led++B})
 |none=>none
theorem fQ{α:Type}(o:Out α):bE [] o=o:=by
 match o with
 |none=>rfl
 |some (r,st)=>show some (r,{st with led:=st.led++ []})=_;rw[wT]
inductive A2S{α β:Type}(R:α->β->Prop)(a b:List α)(m:List β):Prop
 |mk (ma mb:List β) (e:m=ma++mb) (h1:All2 R a ma) (h2:All2 R b mb):A2S R a b m
theorem d7{α β:Type}{R:α->β->Prop}{a b:List α}{m:List β}(x:All2 R (a++b) m):A2S R a b m:=by
 induction a generalizing m with
 |nil=>exact⟨[],m,rfl,.nil,x⟩
 |cons _ _ ih=>obtain⟨y,m,rfl,h,r⟩:=x.consL;obtain⟨ma,mb,e,h1,h2⟩:=ih r;exact⟨y::ma,mb,by rw[e];rfl,.cons h h1,h2⟩
structure Good(S:Core)(T:Tb)(F:Fs):Prop extends GoodX S T F where
 b:∀FN sc cx,CxOk ⟨S,FN⟩ cx sc->∀ir x,All2 (MS S sc) ir x->∀st,Sat ⟨S,FN⟩ cx VF (execs x cx.env) st (F.b ir st)
 o:∀FN sc cx,CxOk ⟨S,FN⟩ cx sc->∀k i x,MS S sc (.orc k i) x->∀st,Sat ⟨S,FN⟩ cx VF (exec x cx.env) st (F.o k i st)
 oc:∀k vs st,CallSat S k vs st (F.oc k vs st)
section
variable{S:Sta}{T:Tb}{F:Fs}{cx:Cx}{sc:Scope}{st:St}
variable{J:Rho}{g:Heap}{s:Shared}{Q:Value->Shared->Prop}{E:Value->Shared->Prop}{QU:Unit->Shared->Prop}{QB:Bool->Shared->Prop}
theorem kb{st0 st':St}{o:Out AF}{r:Res Value}(e:ap st0 o=some (r,st')):st'.lo=st0.lo/\st'.dp=st0.dp/\st'.hd=st0.hd:=by
 obtain⟨⟨o,st1⟩,h1,e⟩:e:=aC e
 cases o with
 |err k=>obtain⟨st2,h2,e⟩:e:=aC e;cases e;exact⟨rfl,rfl,rfl⟩
 |ok f=>
  cases f with
  |ret v=>cases e;exact⟨rfl,rfl,rfl⟩
  |next=>cases e;exact⟨rfl,rfl,rfl⟩
  |brk=>cases e
  |cont=>cases e
theorem Ok.hd_le{st':St}(hk:Ok S cx g s J st){J':Rho}(hle:J.le J'){A:Around}(hA:A.handled=cx.A.handled)(e:st'.hd=st.hd):match st'.hd with|none=>A.handled=none|some k=>∃e,J' k=some e/\A.handled=some (.ref e):=by
 have:=hk.hd
 rw[e,hA]
 revert this
 cases st.hd with
 |none=>exact id
 |some k=>exact fun⟨e,a,b⟩=>⟨e,hle _ _ a,b⟩
theorem qy{A1:Around}{envs:List Env}(CS:StaOk S.toCore){k:Addr}{vs vs':List Value}{fi:FnI}{name qual:Str}{params:Arguments}{body:List Stmt}{scope:Scope}{dV kV doc pm cdv ct:Value}{an:Option Addr}{dM:List Value}(O:FnB S.toCore fi name qual params body scope dV kV doc pm cdv ct an dM)
  {base g1:Heap} {s1:Shared} {L':Addr} {h₁:Heap} {tk d:Nat} {cells newsA:Led} {LA:List (Nat×AO)} {lo:List (Nat×Value)} {ob:Out AF} (hA1:A1.frames=some envs) (B1:H2 A1 base envs g1) (XB1:S.K.In base) (TB1:Lh S.p S.loose S.mean S.mg S.mb base) (X1:S.K.In g1)
  (F1:Fr g1 L' h₁ (bindL (envOfC qual scope L' k cdv).kindOf (bR S.nm fi.pn (vs'++dM)) fun ι=>none)) (N1:News g1 L' h₁ (cells++newsA)) (Y1:Jy (bindC (envOfC qual scope L' k cdv).kindOf (bR S.nm fi.pn (vs'++dM)) fun ι=>none) (cellsFrom (L'+1) scope.names []) cells) (A1':∀p∈newsA,p.1<L')
  (R':Mine.Rel S.prog S.w S.nm S.dfi S.FN S.HB J st.nx LA newsA) (hva:All2 (VR J) (vs++fi.dfl) (vs'++dM)) (e3:jn fi.pn (vs++fi.dfl)=some lo) (hhd:∀J',J.le J'->match st.hd with|none=>A1.handled=none|some k=>∃e,J' k=some e/\A1.handled=some (.ref e))
  (hdp:A1.depth+1+4*d<recursionLimit) (hun:A1.units+3+20*d<cLine) (hJ:JB S.toCore fi.body {st with dp:=d,nx:=st.nx+fi.cel.length,led:=eN fi.cel st.nx lo++LA,lo:=gV fi.cel st.nx lo} ob) {Q:Flow->Shared->Prop} {E:Value->Shared->Prop}
  (hP:∀cx J1,cx.A=A1.deeper (envOfC qual scope L' k cdv)->cx.outer=envs->CxOk S cx scope->cx.env=envOfC qual scope L' k cdv->J.le J1->Post S cx VF Q E J1 g1 {s1 with heap:=h₁,toks:=tk} ob):
  fm (model S.prog S.w) (A1.deeper (envOfC qual scope L' k cdv)) (execs body (envOfC qual scope L' k cdv)) Q E {s1 with heap:=h₁,toks:=tk}:=by
 have hnd:=cr (S:=S) CS.inj (vs:=vs'++dM) O.pn
 have hcs:(cellsFrom (L'+1) scope.names []).map (·.1)=fi.cel.map S.nm:=(Jj scope.names (L'+1) 0 [] [] rfl).trans O.cel
 obtain⟨cl,ecl,hge,hdis⟩:=jr scope.names (L'+1) []
 rw[wT] at ecl
 have hN1:∀p∈cells,p∈cells++newsA:=fun p hp=>r6 _ hp
 have hres:∀x,scope.names.lookup x=some .local->(cellsFrom (L'+1) scope.names []).lookup x=none:=fun x hx=>by
  refine bp fun hm=>?_
  rw[hcs] at hm
  obtain⟨c,hc,rfl⟩:=re.mp hm
  rw[O.cok c hc] at hx
  cases hx
 have cxo:CxOk S ⟨A1.deeper (envOfC qual scope L' k cdv),A1,base,envOfC qual scope L' k cdv,envs,L',envOfC qual scope L' k cdv,fun x=>(cellsFrom (L'+1) scope.names []).lookup x⟩ scope:=
  {hA:=Kn hA1,hAA:=rfl,ff:=rfl,fk:=O.kind,ef:=rfl,nf:=fun ι=>rfl,hsc:=rfl,gl:=rfl,bi:=rfl,hk:=O.kind,lo:=fun ι=>⟨rfl,hres⟩,en:=fun ι=>rfl,cv:=fun z=>(by rw[O.fs] at z;cases z),nest:=fun c P q z=>O.nest c P q z
   ce:=fun x hx=>by
    have:=K4 (x:=x) scope.names (L'+1) [] (.inl hx)
    obtain⟨a,ha⟩:=kt.mp this
    exact⟨a,ha,ha⟩
   XB:=XB1,TB:=TB1,S:=CS}
 have hbl:=sV (S:=S) CS.inj e3 hva
 have hkc:∀c∈fi.cel,¬(envOfC qual scope L' k cdv).kindOf (S.nm c)=some .local:=fun c hc z=>by
  have z':scope.names.lookup (S.nm c)=some .local:=z
  rw[O.cok c hc] at z'
  cases z'
 have hbn:∀c,lk lo c=none->(bR S.nm fi.pn (vs'++dM)).lookup (S.nm c)=none:=fun c hc=>bp fun hm=>by
  obtain⟨y,hy,e5⟩:=re.mp hm
  obtain⟨i,hi,e6⟩:=cj hy
  have:c=i:=CS.inj _ _ (by rw[<-e6];exact e5.symm)
  subst this
  rw[<-kG e3] at hi
  obtain⟨z,hz,e7⟩:=re.mp hi
  rw[pG hc z hz] at e7
  exact e7
 obtain⟨hle,RC⟩:=sT (lo:=lo) (cel:=fi.cel) (g:=g1) (L:=L') (h:=h₁) R' Y1 hcs (fun c hc=>by
  rw[ve hnd]
  cases z:lk lo c with
  |none=>rw[hbn c z]
  |some v=>
   obtain⟨v',hv',hr⟩:=hbl c v z
   rw[hv']
   dsimp only
   rw[if_neg (hkc c hc)]
   exact⟨v',rfl,hr⟩) (by rw[ecl];exact hdis) (fun p hp hm=>by
    have hm1:p.1∈(cellsFrom (L'+1) scope.names []).map (·.2):=by rw[<-iJ Y1];exact nw hp
    rw[ecl] at hm1
    obtain⟨z,hz,e5⟩:=re.mp hm1
    have h1:=hge z hz
    obtain⟨z2,hz2,e6⟩:=re.mp hm
    have h2:=A1' z2 hz2
    rw[e6] at h2
    rw[e5] at h1
    exact JG _ (sw h2 (Hh h1))) (fun p hp=>cM CS.sm X1 N1 (hN1 p hp))
 have hok:Ok S ⟨A1.deeper (envOfC qual scope L' k cdv),A1,base,envOfC qual scope L' k cdv,envs,L',envOfC qual scope L' k cdv,fun x=>(cellsFrom (L'+1) scope.names []).lookup x⟩ g1 {s1 with heap:=h₁,toks:=tk} (J.extN st.nx ((cellsFrom (L'+1) scope.names []).map (·.2)))
   {st with dp:=d,nx:=st.nx+fi.cel.length,led:=eN fi.cel st.nx lo++LA,lo:=gV fi.cel st.nx lo}:=by
  refine⟨B1,⟨_,_,F1,N1,RC,fun x v e=>?_⟩,hhd _ hle,?_,?_⟩
  ·dsimp only
   unfold seen
   rcases uk (S:=S) CS.inj hcs e with⟨i,a,rfl,h1,h2⟩|⟨h1,h2,h3⟩
   ·dsimp only
    rw[h2]
    exact⟨_,rfl,a,Rho.extN_at J h1,rfl⟩
   ·dsimp only
    rw[h1]
    dsimp only
    rw[vd hnd]
    obtain⟨v',hv',hr⟩:=hbl x v h3
    rw[hv']
    dsimp only
    have hx:x∈fi.pn:=by rw[<-kG e3];exact nw (az h3)
    have hkx:(envOfC qual scope L' k cdv).kindOf (S.nm x)=some .local:=by
     rcases O.loc x hx with q|q
     ·exact q
     ·exfalso
      have:=K4 (x:=S.nm x) scope.names (L'+1) [] (.inl q)
      rw[h1] at this
      cases this
    rw[if_pos hkx]
    exact⟨v',rfl,hr.le hle⟩
  ·exact hdp
  ·exact hun
 exact hJ S.FN scope _ cxo _ O.ms _ g1 _ _ _ hok (hP _ _ rfl rfl cxo rfl hle)
inductive RetP(S:Sta)(J:Rho)(o:Out Value)(r:Value)(new:Led):Prop
 |mk (J':Rho) (v:Value) (st':St) (e:o=some (.ok v,st')) (hle:J.le J') (R:S.Rel J' st' new) (hv:VR J' v r):RetP S J o r new
inductive RetX(S:Sta)(J:Rho)(o:Out Value)(e:Addr)(new:Led):Prop
 |mk (J':Rho) (j:Nat) (st':St) (e1:o=some (.err j,st')) (hle:J.le J') (R:S.Rel J' st' new) (hv:J' j=some e):RetX S J o e new
theorem qN(C:CxOk S cx sc)(hk:Ok S cx g s J st){A:Around}(hA:A.frames=cx.A.frames)(hh:A.handled=cx.A.handled)(hd:A.depth<=cx.A.depth+2)(hu:A.units<=cx.A.units+10){k:Addr}{vs vs':List Value}(hv:All2 (VR J) vs vs'){fi:FnI}
  {name qual:Str} {params:Arguments} {body:List Stmt} {scope:Scope} {dV kV doc pm cdv ct:Value} {an:Option Addr} {dM:List Value} (O:FnB S.toCore fi name qual params body scope dV kV doc pm cdv ct an dM)
  {LA LB:List (Nat×AO)} (hof:∀(news:Led) (s':Shared),News g cx.L s.heap news->All2 (ER S.prog S.w S.nm S.dfi S.FN J) LA news->S.K.In s'.heap->(∀q∈news,s'.heap.get? q.1=some q.2)->FnHere s'.heap k (fnOf name qual params body scope dV kV doc pm an cdv ct) cdv qual) {R:Hp->Shared->Prop} {d:Nat} {lo:List (Nat×Value)} {ob:Out AF} (hled:st.led=LA++LB) (e2:st.dp=d+1) (e3:jn fi.pn (vs++fi.dfl)=some lo)
  (hJ:JB S.toCore fi.body {st with dp:=d,nx:=st.nx+fi.cel.length,led:=eN fi.cel st.nx lo++LA,lo:=gV fi.cel st.nx lo} ob)
  (hP:Post S cx VR (fun v s'=>R (.ok (.ret v)) s') (fun e s'=>R (.error e) s') J g s (bE LB (ap st ob))):Hj (model S.prog S.w) A (.call (.ref k) ⟨vs',[]⟩) R s:=by
 obtain⟨m,news,F',N,R0,hl⟩:=hk.fr
 have hsplit:=R0.er
 rw[hled] at hsplit
 obtain⟨newsA,newsB,hnews,erA,erB⟩:=d7 hsplit
 have hnd0:=R0.nd
 rw[hnews,wE,zs] at hnd0
 have hdisj:∀q∈newsB,q.1∉newsA.map (·.1):=fun q hq z=>hnd0.2.2 _ z _ (nw hq) rfl
 have R':Mine.Rel S.prog S.w S.nm S.dfi S.FN S.HB J st.nx LA newsA:=⟨R0.hd,R0.hb,R0.hi,hnd0.1,erA⟩
 have N0:News g cx.L s.heap newsA:=fun q hq=>N q (by rw[hnews];exact r6 _ hq)
 have join:∀{J':Rho} {st':St} {new:Led},J.le J'->S.Rel J' st' new->(∀q∈newsB,q.1∉new.map (·.1))->S.Rel J' {st' with led:=st'.led++LB} (new++newsB):=fun hle R2 h7=>
  ⟨R2.hd,R2.hb,R2.hi,by
   rw[wE,zs]
   refine⟨R2.nd,hnd0.2.1,fun a ha b hb e=>?_⟩
   obtain⟨q,hq,rfl⟩:=re.mp hb
   exact h7 q hq (by rw[<-e];exact ha),R2.er.append (ERs.le _ _ _ _ _ hle erB)⟩
 have hdp:=hk.dp
 have hun:=hk.un
 rw[e2] at hdp hun
 obtain⟨hf,hke⟩:=j7 C
 have hlen:=sr e3
 have hdr:=O.dr J R'.hd
 have hva:All2 (VR J) (vs++fi.dfl) (vs'++dM):=hv.append hdr
 have hlen':(vs'++dM).length=fi.pn.length:=by rw[<-hva.length];exact hlen.symm
 refine Dk (prog:=S.prog) (w:=S.w) (K:=S.K) (p:=S.p) (loose:=S.loose) (mean:=S.mean) (mg:=S.mg) (mb:=S.mb) (hdl:=A.handled) (f:=k) (vs:=vs') (mu:=newsA) (rest:=newsB) (dN:=4*d+1) (uN:=20*d+3)
  (P:=RetP S J (ap st ob))
  (X:=RetX S J (ap st ob))
  ?_ hk.B C.XB C.TB F' N (hA.trans C.hA) hf hke rfl (by omega) (by omega) (fun q hq=>by rw[hnews];exact r6 _ hq) (fun q hq=>⟨by rw[hnews];exact ev _ hq,fun z hz e=>hdisj q hq (by rw[e];exact nw hz)⟩) ?_ ?_
 ·--the body
  have hnd:=cr (S:=S) C.S.inj (vs:=vs'++dM) O.pn
  refine pB (fun s' Xs hn=>hof newsA s' N0 erA Xs hn) (fun s Xs=>O.bind vs' s Xs hlen') (eg.mpr fun y hy=>?_) (by rw[O.cel];exact O.cnd) (fun dp un gd env outer base g1 s1 R1 L' h₁ tk cells q1 q2 B1 XB1 TB1 X1 T1 F1 N1 Y1 O1 A1=>?_) O.co O.gen O.kind
  ·obtain⟨i,hi,e⟩:=cj hy
   rw[e]
   rcases O.loc i hi with q|q<;>rw[q]<;>rfl
  ·refine qy (st:=st) C.S O rfl B1 XB1 TB1 X1 F1 N1 Y1 A1 R' hva e3 (fun J' hle=>hk.hd_le hle hh rfl) (by show dp+1+4*d<recursionLimit;omega) (by show un+3+20*d<cLine;omega) hJ fun cx1 J1 eA eO cxo eE hle=>?_
   obtain⟨A2,A3,base2,env2,outer2,L2,fe2,res2⟩:=cx1
   dsimp only at eA eO eE
   subst eA eO eE
   have eta:∀{s':Shared},Same {s1 with heap:=h₁,toks:=tk} s'->s'={s1 with heap:=s'.heap,toks:=s'.toks}:=by
    intro s' hs
    obtain⟨a,b,c⟩:=hs
    cases s'
    simp only at a b c
    subst a b c
    rfl
   cases ob with
   |none=>exact hP.elim
   |some o=>
    obtain⟨o,st2⟩:=o
    cases o with
    |ok f=>
     intro J2 g2 s2 f' x2 hf2
     obtain⟨m2,news2,F2,N2,R2,hl2⟩:=x2.ok.fr
     rw[eta x2.same]
     induction hf2 using VF.casesOn with
     |next=>exact O1.ok _ news2 _ _ g2 _ _ x2.turn F2 N2 ⟨J2,.none,{st2 with lo:=st.lo,dp:=st.dp,hd:=st.hd},rfl,Rho.le_trans hle x2.le,R2,rfl⟩
     |brk=>exact hP.elim
     |cont=>exact hP.elim
     |ret hv2=>exact O1.ok _ news2 _ _ g2 _ _ x2.turn F2 N2 ⟨J2,_,{st2 with lo:=st.lo,dp:=st.dp,hd:=st.hd},rfl,Rho.le_trans hle x2.le,R2,hv2⟩
    |err j=>
     intro J2 g2 s2 a x2 ha
     cases e4:am st2 j with
     |none=>
      have hP2:Post S cx VR (fun v s'=>R (.ok (.ret v)) s') (fun e s'=>R (.error e) s') J g s (bE LB (oget (am st2 j) fun st'=>some (.err j,{st' with lo:=st.lo,dp:=st.dp,hd:=st.hd}))):=hP
      rw[e4] at hP2
      exact hP2.elim
     |some st3=>
      refine wb cxo x2.ok ha e4 fun J3 g3 s3 x3 ha3=>?_
      obtain⟨m3,news3,F3,N3,R3,hl3⟩:=x3.ok.fr
      have xx:=x2.trans x3
      rw[eta xx.same]
      refine O1.err a news3 _ _ g3 _ _ xx.turn F3 N3 ⟨J3,j,{st3 with lo:=st.lo,dp:=st.dp,hd:=st.hd},?_,Rho.le_trans hle xx.le,R3,ha3⟩
      show oget (am st2 j) _=_
      rw[e4]
      rfl
 ·intro r new h' tk' g' tt B' F2 N2 h7 hPr
  obtain⟨J',v,st',e5,hle,R2,hv2⟩:=hPr
  rw[e5] at hP
  have hst:=kb e5
  exact hP J' g' _ r ⟨hle,tt,⟨rfl,rfl,rfl⟩,⟨B',⟨m,_,F2,N2,join hle R2 h7,by dsimp only;rw[hst.1];exact hl.le hle⟩,hk.hd_le hle rfl hst.2.2,by dsimp only;rw[hst.2.1];exact hk.dp,by dsimp only;rw[hst.2.1];exact hk.un⟩⟩ hv2
 ·intro e new h' tk' g' tt B' F2 N2 h7 hPr
  obtain⟨J',j,st',e5,hle,R2,hv2⟩:=hPr
  rw[e5] at hP
  have hst:=kb e5
  exact hP J' g' _ e ⟨hle,tt,⟨rfl,rfl,rfl⟩,⟨B',⟨m,_,F2,N2,join hle R2 h7,by dsimp only;rw[hst.1];exact hl.le hle⟩,hk.hd_le hle rfl hst.2.2,by dsimp only;rw[hst.2.1];exact hk.dp,by dsimp only;rw[hst.2.1];exact hk.un⟩⟩ hv2
theorem td(G:Good S.toCore T F)(C:CxOk S cx sc)(hk:Ok S cx g s J st){A:Around}(hA:A.frames=cx.A.frames)(hh:A.handled=cx.A.handled)(hd:A.depth<=cx.A.depth+2)(hu:A.units<=cx.A.units+10){k:Addr}{vs vs':List Value}(hv:All2 (VR J) vs vs'){fi:FnI}
  {name qual:Str} {params:Arguments} {body:List Stmt} {scope:Scope} {dV kV doc pm cdv ct:Value} {an:Option Addr} {dM:List Value} (O:FnB S.toCore fi name qual params body scope dV kV doc pm cdv ct an dM)
  (hof:∀(news:Led) (s':Shared),News g cx.L s.heap news->All2 (ER S.prog S.w S.nm S.dfi S.FN J) st.led news->S.K.In s'.heap->(∀q∈news,s'.heap.get? q.1=some q.2)->FnHere s'.heap k (fnOf name qual params body scope dV kV doc pm an cdv ct) cdv qual) {R:Hp->Shared->Prop}
  (hP1:Post S cx VR (fun v s'=>R (.ok (.ret v)) s') (fun e s'=>R (.error e) s') J g s (qz F fi vs st)):Hj (model S.prog S.w) A (.call (.ref k) ⟨vs',[]⟩) R s:=by
 unfold qz at hP1
 cases e2:st.dp with
 |zero=>rw[e2] at hP1;exact hP1.elim
 |succ d=>
  rw[e2] at hP1
  obtain⟨lo,e3,hP⟩:Post:=Post.oget hP1
  exact qN C hk hA hh hd hu hv O hof (wT _).symm e2 e3 (fun FN sc cx C' x hm=>G.b FN sc cx C' _ _ hm _) (by rw[fQ];exact hP)
theorem t8(G:Good S.toCore T F)(FO:FnsOk S.toCore T)(C:CxOk S cx sc)(hk:Ok S cx g s J st){A:Around}(hA:A.frames=cx.A.frames)(hh:A.handled=cx.A.handled)(hd:A.depth<=cx.A.depth+2)(hu:A.units<=cx.A.units+10){k:Nat}{vs vs':List Value}(hv:All2 (VR J) vs vs'){R:Hp->Shared->Prop}
  (hP0:Post S cx VR (fun v s'=>R (.ok (.ret v)) s') (fun e s'=>R (.error e) s') J g s (yM T F k vs st)):Hj (model S.prog S.w) A (.call (.ref k) ⟨vs',[]⟩) R s:=by
 obtain⟨fi,e1,hP1⟩:Post:=Post.oget hP0
 cases ht:fi.tag with
 |true=>rw[ht] at hP1;exact G.oc k vs st S.FN sc cx C J g s hk A hA hh hd hu vs' hv R hP1
 |false=>
  rw[ht] at hP1
  obtain⟨name,qual,params,body,scope,dV,kV,doc,pm,cdv,ct,oc,an,od,osl,dM,hl,hc,O⟩:=FO.fn _ _ e1
  exact td G C hk hA hh hd hu hv O (fun news s' ι ι Xs ι=>⟨oc,od,osl,Xs _ _ hl,Kx Xs hc⟩) hP1
theorem Bt(G:Good S.toCore T F)(FO:FnsOk S.toCore T)(C:CxOk S cx sc)(hk:Ok S cx g s J st){A:Around}(hA:A.frames=cx.A.frames)(hh:A.handled=cx.A.handled)(hd:A.depth<=cx.A.depth+2)(hu:A.units<=cx.A.units+10){k:Nat}{a:Addr}(hka:J k=some a){vs vs':List Value}(hv:All2 (VR J) vs vs'){R:Hp->Shared->Prop}
  (hP0:Post S cx VR (fun v s'=>R (.ok (.ret v)) s') (fun e s'=>R (.error e) s') J g s (Da T F k vs st)):Hj (model S.prog S.w) A (.call (.ref a) ⟨vs',[]⟩) R s:=by
 obtain⟨o,e1,hP1⟩:Post:=Post.oget hP0
 obtain⟨⟨i,tc⟩,e2,hP2⟩:hP1:=hP1.oget
 obtain⟨o2,e3,hP3⟩:hP2:=hP2.oget
 obtain⟨i2,e4,hP4⟩:hP3:=hP3.oget
 obtain⟨e5,hP5⟩:hP4:=hP4.grd
 obtain⟨fi,e6,hP6⟩:hP5:=hP5.oget
 cases qr e2
 cases va e4
 cases aH e5
 obtain⟨m,news0,F0,N0,R0,hl0⟩:=hk.fr
 obtain⟨ob,h2,⟨c',doc,pm,ctv,h5,rfl⟩,h4⟩:=ER.findA R0.er e1 hka
 refine td G C hk hA hh hd hu hv (FO.df _ _ e6 doc pm c' ctv) (fun news s' N R Xs hn=>?_) hP6
 obtain⟨ob2,g2,⟨c2,doc2,pm2,ctv2,g5,rfl⟩,g4⟩:=ER.findA R e1 hka
 have q1:=(N0 _ h2).1
 have q2:=(N _ g2).1
 dsimp only at q1 q2
 rw[q1] at q2
 have q3:=bd q2
 obtain⟨ob3,k2,⟨vs3,t3,k3,k4⟩,k6⟩:=ER.findA R e3 h5
 exact⟨_,_,_,(hn _ g2).trans (congrArg some q3.symm),⟨c',ob3,vs3,t3,rfl,hn _ k2,k3,k4⟩⟩
end
section
variable{S:Sta}{T:Tb}{F:Fs}{cx:Cx}{sc:Scope}{st:St}
variable{J:Rho}{g:Heap}{s:Shared}{Q:Value->Shared->Prop}{E:Value->Shared->Prop}{QU:Unit->Shared->Prop}{QB:Bool->Shared->Prop}
theorem Ok.new2(C:CxOk S cx sc)(hk:Ok S cx g s J st){m:Str->Option Value}{news:Led}(R:S.Rel J st news)(hl:Locs S J st.lo (seen cx.res m)){a b:Addr}{oa ob:Obj}{xa xb:AO}{h':Heap}{tk:Nat}
  (F':Fr g cx.L h' m) (N':News g cx.L h' ((b,ob)::(a,oa)::news)) (l1:∀q∈news,q.1<a) (l2:a<b) (ha:OR S.prog S.w S.nm S.dfi (fun ι=>S.FN st.nx) (J.ext st.nx a) xa oa) (hb:OR S.prog S.w S.nm S.dfi (fun ι=>S.FN (st.nx+1)) ((J.ext st.nx a).ext (st.nx+1) b) xb ob):
  Ext S cx J g s ((J.ext st.nx a).ext (st.nx+1) b) g {s with heap:=h',toks:=tk} {st with nx:=st.nx+2,led:=(st.nx+1,xb)::(st.nx,xa)::st.led}:=by
 have X:=hk.inG C
 have R1:=R.grow (x:=xa) (o:=oa) l1 (cM C.S.sm X N' (.tail _ (.head _))) ha
 have R2:=R1.grow (x:=xb) (o:=ob) (a:=b) (fun q hq=>by
  rcases eq.mp hq with rfl|hq
  ·exact l2
  ·exact Hk (l1 q hq) l2) (cM C.S.sm X N' (.head _)) hb
 have hle:=Rho.le_trans (R.grow_le a) (R1.grow_le b)
 exact⟨hle,Cn,⟨rfl,rfl,rfl⟩,hk.heap F' N' R2 (hl.le hle) rfl rfl hle⟩
theorem jW{x:Nat}{o:Out Value}{a:Addr}(hP:Post S cx VR Q E J g s (vC x o))(ha:J x=some a):
  Post S cx VR (fun v s'=>Lc a (fun r s'=>match r with| .ok (.ret v)=>Q v s'| .ok _=>False| .error e=>E e s') (.ok (.ret v)) s') (fun e s'=>Lc a (fun r s'=>match r with| .ok (.ret v)=>Q v s'| .ok _=>False| .error e=>E e s') (.error e) s') J g s o:=by
 cases o with
 |none=>exact hP.elim
 |some o=>
  obtain⟨o,st⟩:=o
  cases o with
  |err k=>exact fun J' g' s' a x1 ha=>hP J' g' s' a x1 ha
  |ok v=>
   cases v with
   |none=>
    intro J' g' s' v' x1 hv
    cases hv
    exact⟨rfl,hP J' g' s' _ x1 ⟨a,x1.le _ _ ha,rfl⟩⟩
   |_=>exact hP.elim
set_option tactic.hygienic true in
theorem Bo(G:Good S.toCore T F)(TO:TbOk S.toCore T)(FO:FnsOk S.toCore T)(C:CxOk S cx sc){v:Value}{vs:List Value}(hk:Ok S cx g s J st){v':Value}{vs':List Value}(hv:VR J v v')(hvs:All2 (VR J) vs vs')
  (hP:Post S cx VR Q E J g s (stC T F v vs st)):fm (model S.prog S.w) cx.A (call v' vs') Q E s:=by
 obtain⟨k,e,hP1⟩:hP:=hP.oget
 cases aQ e
 cases e1:lk T.fns k with
 |some fi=>
   rw[e1] at hP1
   have:=br (Ok.hdr hk) (FO.hb _ _ e1) hv
   subst this
   refine HS ?_
   exact t8 G FO C hk rfl rfl (by omega) (by omega) hvs hP1
 |none=>
   rw[e1] at hP1
   cases e1:lk T.cls k with
   |some f=>
    rw[e1] at hP1
    obtain⟨m,news,F',N,R,hl⟩:=hk.fr
    obtain⟨q1,q2,q3⟩:=TO.cls _ _ e1
    have hkk:k<S.HB:=(TO.kp k (by unfold ll;simp[e1])).1
    have:=br (Ok.hdr hk) hkk hv
    subst this
    unfold gz at q2
    rw[db,beq_iff_eq] at q2
    refine call_cls F' (hk.inG C) N q1 q2.1 q2.2 fun x dx h' F2 N2 l1 l2=>?_
    have xx:=hk.new2 (tk:=s.toks) C R hl F2 N2 l1 l2 (xa:= .adict []) (xb:= .inst k st.nx) ⟨[],0,rfl,.nil⟩ ⟨dx,Rho.ext_le _ (by
     unfold Rho.ext
     rw[if_neg (KX _)]
     exact R.hi _ (Kh _)) _ _ (Rho.ext_at _ _ _),rfl⟩
    have hx:(((J.ext st.nx dx).ext (st.nx+1) x) (st.nx+1))=some x:=Rho.ext_at _ _ _
    have hx2:VR ((J.ext st.nx dx).ext (st.nx+1) x) (.ref (st.nx+1)) (.ref x):=⟨x,hx,rfl⟩
    exact t8 (A:=cx.A.under (.builtin "type.__call__" ⟨.ref k::vs',[]⟩)) G FO C xx.ok rfl rfl (by show cx.A.depth+1<=_;omega) (by show cx.A.units+1<=_;omega) (All2.cons hx2 (VRs.le xx.le hvs)) (jW (Post.later hP1 xx) hx)
   |none=>
    rw[e1] at hP1
    cases e:grd (gy vs.length 900) (lk T.exs k) with
    |some f=>
     rw[e] at hP1
     obtain⟨e2,e1⟩:e:=aM e
     obtain⟨m,news,F',N,R,hl⟩:=hk.fr
     obtain⟨q1,q2,q3⟩:=TO.exs _ _ e1
     have hkk:k<S.HB:=(TO.kp k (by unfold ll;simp[e1])).1
     have:=br (Ok.hdr hk) hkk hv
     subst this
     unfold gz at q2
     rw[db,beq_iff_eq] at q2
     refine call_exc F' (hk.inG C) N q1 q2.1 q2.2 (by rw[<-hvs.length];exact na (al e2) (by decide)) fun x t h' F2 N2 l1 l2=>?_
     have xx:=hk.new2 (tk:=s.toks) C R hl F2 N2 l1 l2 (xa:= .tup vs) (xb:= .exn k st.nx) ⟨vs',rfl,VRs.le (R.grow_le t) hvs⟩ ⟨t,Rho.ext_le _ (by
      unfold Rho.ext
      rw[if_neg (KX _)]
      exact R.hi _ (Kh _)) _ _ (Rho.ext_at _ _ _),rfl⟩
     have hx:(((J.ext st.nx t).ext (st.nx+1) x) (st.nx+1))=some x:=Rho.ext_at _ _ _
     have hx2:VR ((J.ext st.nx t).ext (st.nx+1) x) (.ref (st.nx+1)) (.ref x):=⟨x,hx,rfl⟩
     exact t8 (A:=cx.A.under (.builtin "type.__call__" ⟨.ref k::vs',[]⟩)) G FO C xx.ok rfl rfl (by show cx.A.depth+1<=_;omega) (by show cx.A.units+1<=_;omega) (All2.cons hx2 (VRs.le xx.le hvs)) (jW (Post.later hP1 xx) hx)
    |none=>
     rw[e] at hP1
     obtain⟨a,hka,rfl⟩:=hv
     refine HS ?_
     exact Bt G FO C hk rfl rfl (by omega) (by omega) hka hvs hP1
end
theorem bG{value:Expr}(h:bY value=true)(t:Option Expr)(l:Nat)(env:Env):swapsWith value t l env=pure false:=by
 cases value<;>first|rfl|exact dL h|cases h
theorem ux{α:Type}{c:Prop} [Decidable c]{a b:α}(h:b=a):(if c then a else b)=a:=by
 split
 ·rfl
 ·exact h
theorem ow{value:Expr}(h:zu value=true)(elts:List Expr)(k:Nat)(tpos:Pos)(env:Env):swappedStores [.Tuple elts k tpos] value env=pure none:=by
 cases value<;>first|rfl|skip
 exact ux (ux (ux (if_pos h)))
theorem rt{p:Nat×Value}{r:List (Nat×Value)}{x:Nat}{v:Value}:bI (p::r) x v=match av p.1 x with
  |true=>(x,v)::r
  |false=>p::bI r x v:=rfl
theorem rx{p:Nat×Value}{r:List (Nat×Value)}{x:Nat}:gJ (p::r) x=match av p.1 x with
  |true=>gJ r x
  |false=>p::gJ r x:=rfl
theorem l7(lo:List (Nat×Value)):∀(x:Nat) (v:Value) (y:Nat),lk (bI lo x v) y=if av x y=true then some v else lk lo y:=by
 induction lo with
 |nil=>
  intro x v y
  rw[show bI [] x v= [(x,v)] from rfl,aR]
  cases av x y<;>rfl
 |cons p r ih=>
  intro x v y
  rw[rt]
  cases e:av p.1 x with
  |true=>
   dsimp only
   rw[aR,aR,aH e]
   cases av x y<;>rfl
  |false=>
   dsimp only
   rw[aR,aR,ih x v y]
   cases e2:av p.1 y with
   |true=>
    have:av x y=false:=by
     rw[<-aH e2]
     cases z:av x p.1 with
     |true=>exact absurd (aH z).symm (aY e)
     |false=>rfl
    rw[this];rfl
   |false=>rfl
theorem qh(lo:List (Nat×Value)):∀(x y:Nat),lk (gJ lo x) y=if av x y=true then none else lk lo y:=by
 induction lo with
 |nil=>intro x y;cases av x y<;>rfl
 |cons p r ih=>
  intro x y
  rw[rx]
  cases e:av p.1 x with
  |true=>
   dsimp only
   rw[ih x y,aR,aH e]
   cases av x y<;>rfl
  |false=>
   dsimp only
   rw[aR,aR,ih x y]
   cases e2:av p.1 y with
   |true=>
    have:av x y=false:=by
     rw[<-aH e2]
     cases z:av x p.1 with
     |true=>exact absurd (aH z).symm (aY e)
     |false=>rfl
    rw[this];rfl
   |false=>rfl
section
variable(S:Core)(T:Tb)(F:Fs)
noncomputable def asgL:List IT->List Value->St->Out Unit
 | [],[],st=>some (.ok (),st)
 | .loc x::r,v::vs,st=>asgL r vs {st with lo:=bI st.lo x v}
 | .attr o a::r,v::vs,st=>Ob (F.e o st) fun ov st1=>Ob (tV T st1 ov a v) fun ι st2=>asgL r vs st2
 |_,_,_=>none
noncomputable def zc(Tab:Tb)(st:St)(k:Nat):Option St:=oget (lk st.led k) fun x=>oget (lu x) fun p=>grd (!p.1) (grd (oU st p.2.2.2) (grd (!Nat.beq p.2.2.2 k) (grd (lk Tab.exs p.2.1).isSome (some {st with led:=(p.2.2.2,.tb)::(k,.exc p.2.1 p.2.2.1 p.2.2.2)::del (del st.led k) p.2.2.2}))))
inductive ReS(Tab:Tb)(st:St)(k:Nat):St->Prop
 |mk (C d T:Nat) (e1:lk st.led k=some (.exc C d T)) (e2:lk st.led T=some .tb) (e3:av T k=false) (e4:(lk Tab.exs C).isSome=true):ReS Tab st k {st with led:=(T,.tb)::(k,.exc C d T)::del (del st.led k) T}
theorem wr{Tab:Tb}{st st':St}{k:Nat}(e:zc Tab st k=some st'):ReS Tab st k st':=by
 obtain⟨x,e1,e⟩:e:=aC e
 obtain⟨p,e2,e⟩:e:=aC e
 obtain⟨e3,e⟩:e:=aM e
 obtain⟨e4,e⟩:e:=aM e
 obtain⟨e5,e⟩:e:=aM e
 obtain⟨e6,e⟩:e:=aM e
 cases e
 induction dZ e2 using ExcA.casesOn with
 |exd C d t=>cases e3
 |exc C d t=>exact .mk C d t e1 (lB e4) (Ca e5) e6
end
noncomputable def nq(o:Out AF):Out AF:=oget o fun r=>match r.1 with
 | .ok f=>some (.ok f,r.2)
 | .err k=>grd (da r.2 k) (some (.err k,r.2))
noncomputable def chars:List Nat->List Value
 | []=> []
 |c::r=> .str ⟨#[c]⟩ 0::chars r
section
variable(S:Core)(T:Tb)(F:Fs)
noncomputable def turns(j:Nat)(x:Nat)(b:List IS)(get:Nat->St->Option (Option Value)):Nat->Nat->St->Out AF
 |0,_,_=>none
 |f+1,i,st=>grd (aa j st.led) (oget (get i st) fun r=>match r with
  |none=>some (.ok .next,st)
  |some v=>oget (F.b b {st with lo:=bI st.lo x v}) fun o=>match o.1 with
   | .err _=>none
   | .ok g=>match g with
    | .next=>turns j x b get f (i+1) o.2
    | .cont=>turns j x b get f (i+1) o.2
    | .brk=>some (.ok .next,o.2)
    | .ret v=>some (.ok (.ret v),o.2))
noncomputable def qW(j:Nat)(o:Out AF):Out AF:=oget o fun r=>match r.1 with
 | .ok f=>grd (aa j r.2.led) (some (.ok f,{r.2 with led:=del r.2.led j}))
 | .err _=>none
noncomputable def nE(st:St):St:={st with nx:=st.nx+1,led:=(st.nx,.fn)::st.led}
noncomputable def pinned(st:St)(go:Nat->St->Out AF):Out AF:=qW st.nx (go st.nx (nE st))
noncomputable def Ec:AO->Option (List (Str×Value))
 | .pdict es=>some es
 |_=>none
noncomputable def gQ(k:Nat)(es:List (Str×Value))(i:Nat)(st:St):Option (Option Value):=oget (lk st.led k) fun o=>oget (Ec o) fun ι=>grd (gy i es.length) (some ((es[i]?).map fun p=> .str p.1 0))
noncomputable def tG(k:Nat)(o:Out AF):Out AF:=oget o fun r=>match r.1 with
 | .ok f=>oget (lk r.2.led k) fun o=>oget (Ec o) fun es2=>some (.ok f,{r.2 with led:=up r.2.led k (.sdict es2)})
 | .err _=>none
noncomputable def DV(x:Nat)(b:List IS)(v:Value)(st:St):Out AF:=grd st.hd.isNone (match v with
  | .str t _=>pinned st (fun j=>turns F j x b (fun i ι=>match gy i t.cps.size with|true=>some (chars t.cps.toList)[i]?|false=>none) 60 0)
  | .ref k=>oget (rd S st k) fun o=>match eD o with
   |some _=>pinned st (fun j=>turns F j x b (bu S k) 60 0)
   |none=>oget (lk st.led k) fun o=>oget (w7 o) fun es=>tG k (pinned {st with led:=up st.led k (.pdict es)} (fun j=>turns F j x b (gQ k es) 60 0))
  |_=>none)
noncomputable def tp(x:Nat)(b:List IS)(v:Value)(st:St):Out AF:=grd st.hd.isNone (oget (de v) fun n=>grd (ay n) (grd (Ij 0 n) (pinned st (fun j=>turns F j x b (aU n.toNat) 1100 0))))
noncomputable def tryO(c:Nat)(n:Nat)(h:List IS)(st0:St)(o:Out AF):Out AF:=oget o fun r=>match r.1 with
 | .ok f=>some (.ok f,r.2)
 | .err k=>oget (lk r.2.led k) fun x=>oget (lu x) fun p=>oget (am r.2 k) fun st1=>handO p.2.1 k st1
where
 handO (C k:Nat) (st1:St):Out AF:=grd ((lk T.exs C).isSome&&(fO T.cat C c&&st0.hd.isNone)) (oget (F.b h {st1 with hd:=some k,lo:=bI st1.lo n (.ref k)}) fun o=>match o.1 with
  | .ok f=>some (.ok f,{o.2 with hd:=none,lo:=gJ o.2.lo n})
  | .err j=>oget (am o.2 j) fun st3=>oget (am {st3 with lo:=gJ st3.lo n} j) fun st4=>some (.err j,{st4 with hd:=none}))
noncomputable def jY(l c:Nat):List (Nat×Nat)->Bool
 | []=>true
 |p::r=>!(av p.1 l&&av p.2 c)&&jY l c r
noncomputable def vB:AO->Option (Option Value)
 | .cell v=>some v
 |_=>none
noncomputable def fc:IS->St->Out AF
 | .asg x e,st=>Ob (F.e e st) fun v st1=>some (.ok .next,{st1 with lo:=bI st1.lo x v})
 | .asgL ..,st=>none
 | .asgC x e,st=>Ob (F.e e st) fun v st1=>oget (lk st1.lo x) fun w=>oget (bL w) fun k=>oget (lk st1.led k) fun o=>oget (vB o) fun ι=>some (.ok .next,{st1 with led:=up st1.led k (.cell (some v))})
 | .asgA o a e,st=>Ob (F.e e st) fun v st1=>Ob (F.e o st1) fun ov st2=>Ob (tV T st2 ov a v) fun ι st3=>some (.ok .next,st3)
 | .asgI o i e,st=>Ob (F.e e st) fun v st1=>Ob (F.e o st1) fun ov st2=>Ob (F.e i st2) fun iv st3=>Ob (wY st3 ov iv v) fun ι st4=>some (.ok .next,st4)
 | .asgT ts e,st=>Ob (F.e e st) fun v st1=>oget (bL v) fun k=>grd st1.hd.isNone (oget (rd S st1 k) fun o=>oget (oX o) fun p=>grd (!p.1&&av ts.length p.2.length) (Ob (asgL T F ts p.2 st1) fun ι st2=>some (.ok .next,st2)))
 | .aug x op e,st=>oget (lk st.lo x) fun old=>Ob (F.e e st) fun v st1=>oget (xo op old v) fun r=>some (.ok .next,{st1 with lo:=bI st1.lo x r})
 | .augA o a op e,st=>Ob (F.e o st) fun ov st1=>oget (rA T st1 ov a) fun old=>Ob (F.e e st1) fun v st2=>oget (xo op old v) fun r=>Ob (tV T st2 ov a r) fun ι st3=>some (.ok .next,st3)
 | .augI o i op e,st=>Ob (F.e o st) fun ov st1=>Ob (F.e i st1) fun iv st2=>oget (pL S st2 ov iv) fun old=>Ob (F.e e st2) fun v st3=>oget (xo op old v) fun r=>Ob (wY st3 ov iv r) fun ι st4=>some (.ok .next,st4)
 | .if_ c a b,st=>Ob (F.t c st) fun q st1=>match q with
  |true=>F.b a st1
  |false=>F.b b st1
 | .while_ c b,st=>nq (F.w c b st)
 | .for_ x it b,st=>Ob (F.e it st) fun v st1=>DV S F x b v st1
 | .forR x it b,st=>Ob (F.e it st) fun v st1=>tp F x b v st1
 | .orc k s,st=>F.o k s st
 | .fdef x i P l c,st=>oget (lk st.led P) fun o=>oget (yY o) fun ps=>grd (jY l c ps) (some (.ok .next,{st with nx:=st.nx+2,led:=(st.nx+1,.dfn i st.nx)::(st.nx,.code i)::up st.led P (.tabl (ps++ [(l,c)])),lo:=bI st.lo x (.ref (st.nx+1))}))
 | .ret e,st=>Ob (F.e e st) fun v st1=>some (.ok (.ret v),st1)
 | .ret0,st=>some (.ok (.ret .none),st)
 | .raise e,st=>Ob (F.e e st) fun v st1=>oget (bL v) fun k=>grd st1.hd.isNone (oget (lk st1.led k) fun o=>oget (lu o) fun p=>grd p.1 (grd (lk T.exs p.2.1).isSome (some (.err k,st1))))
 | .raiseN x,st=>oget (lk st.lo x) fun v=>oget (bL v) fun k=>oget st.hd fun j=>grd (av k j) (oget (zc T st k) fun st1=>some (.err k,st1))
 | .try_ b c n h,st=>tryO T F c n h st (F.b b st)
 | .expr e,st=>Ob (F.e e st) fun ι st1=>some (.ok .next,st1)
 | .pass,st=>some (.ok .next,st)
 | .bad,st=>none
noncomputable def Fw:List IS->St->Out AF
 | [],st=>some (.ok .next,st)
 |s::r,st=>Ob (fc S T F s st) fun f st1=>match f with
  | .next=>F.b r st1
  |f=>some (.ok f,st1)
noncomputable def step:Fs where
 e:=Bg S T F
 t:=Fv S F
 b:=Fw S T F
 w:=EY F
 c:=stC T F
 o:=F.o
 oc:=F.oc
structure Orc where
 o:Nat->IS->St->Out AF
 oc:Nat->List Value->St->Out Value
noncomputable def HD(O:Orc):Fs:=⟨fun ι ι=>none,fun ι ι=>none,fun ι ι=>none,fun ι ι ι=>none,fun ι ι ι=>none,O.o,O.oc⟩
noncomputable def run(O:Orc):Nat->Fs
 |0=>HD O
 |n+1=>step S T (run O n)
end
section
variable{S:Sta}{T:Tb}{F:Fs}{cx:Cx}{sc:Scope}{st:St}
variable{J:Rho}{g:Heap}{s:Shared}{Q:Value->Shared->Prop}{E:Value->Shared->Prop}{QU:Unit->Shared->Prop}{QB:Bool->Shared->Prop}{QF:Flow->Shared->Prop}
theorem Post.bind{α β γ δ:Type}{VV:Rho->α->β->Prop}{VV':Rho->γ->δ->Prop}{o:Out α}{f:α->St->Out γ}{Q:δ->Shared->Prop}{Q1:β->Shared->Prop}(hP:Post S cx VV' Q E J g s (Ob o f))
  (hk:∀v st',o=some (.ok v,st')->∀J' g' s' v',Ext S cx J g s J' g' s' st'->VV J' v v'->Post S cx VV' Q E J' g' s' (f v st')->Q1 v' s'):Post S cx VV Q1 E J g s o:=by
 cases o with
 |none=>exact hP.elim
 |some o=>
  obtain⟨o,st2⟩:=o
  cases o with
  |ok v=>exact fun J2 g2 s2 v' y hv=>hk v st2 rfl J2 g2 s2 v' y hv (Post.later (o:=f v st2) hP y)
  |err k=>exact fun J2 g2 s2 a y hv=>hP J2 g2 s2 a y hv
theorem lJ{res:Str->Option Addr}{m:Str->Option Value}{x y:Str}{v:Option Value}(h:y≠x):seen res (fun z=>if z=x then v else m z) y=seen res m y:=by
 unfold seen
 cases res y with
 |some _=>rfl
 |none=>exact if_neg h
theorem dQ(C:CxOk S cx sc)(hk:Ok S cx g s J st){x:Nat}{v v':Value}(h1:ae sc (S.nm x))(hv:VR J v v')(hQ:∀s',Ext S cx J g s J g s' {st with lo:=bI st.lo x v}->QU () s'):
  fm (model S.prog S.w) cx.A (storeName cx.env (S.nm x) v') QU E s:=by
 obtain⟨m,news,F',N,R,hl⟩:=hk.fr
 obtain⟨hloc,hres⟩:=C.lo h1.2
 refine IG (C.kd h1.1) (hloc▸F'.ns) (fun h' hn hs=>?_) (by rw[C.K];rfl)
 rw[hloc] at hn hs
 refine hQ _ ⟨Rho.le_refl _,Cn,⟨rfl,rfl,rfl⟩,hk.heap (F'.set hn hs) (N.set hs) R (fun y w e=>?_) rfl rfl (Rho.le_refl _)⟩
 rw[l7] at e
 by_cases hxy:av x y=true
 ·rw[if_pos hxy] at e
  cases e
  refine⟨v',?_,hv⟩
  rw[<-aH hxy]
  unfold seen
  rw[hres _ h1.1]
  exact if_pos rfl
 ·rw[if_neg hxy] at e
  obtain⟨w',hw,hr⟩:=hl y w e
  refine⟨w',?_,hr⟩
  rw[lJ (fun q=>hxy (by rw[C.S.inj _ _ q];exact Hu _))]
  exact hw
theorem nW{o:AO}{v:Option Value}(h:vB o=some v):o= .cell v:=by cases o<;>first|exact bn rfl (heq_of_eq h)|(cases h;rfl)
theorem nF(C:CxOk S cx sc)(hk:Ok S cx g s J st){x k:Nat}{v v':Value}{u:Option Value}(h1:sc.names.lookup (S.nm x)=some .cell)(h3:lk st.lo x=some (.ref k))(h4:lk st.led k=some (.cell u))(hv:VR J v v')
  (hQ:∀s',Ext S cx J g s J g s' {st with led:=up st.led k (.cell (some v))}->QU () s'):
  fm (model S.prog S.w) cx.A (storeName cx.env (S.nm x) v') QU E s:=by
 obtain⟨m,news,F',N,R,hl⟩:=hk.fr
 obtain⟨w,hm,a,hka,rfl⟩:=hl x _ h3
 obtain⟨b,hb,hc⟩:=C.ce _ h1
 unfold seen at hm
 rw[hb] at hm
 cases hm
 obtain⟨o,e2,⟨vo,e3,-⟩,e5⟩:=ER.findA R.er h4 hka
 have hmem:=N _ e2
 refine wpAny_storeName_cell C.K (C.kd h1) hc ⟨o,hmem.1,e3⟩ fun h' hv' hs=>?_
 obtain⟨o',ho',hd'⟩:=hv'
 obtain⟨news',U,hr,hm⟩:=ER.upd R.er R.nd h4 hka e2 (x':= .cell (some v)) (o':=o') ⟨some v',hd',v',rfl,hv⟩
 obtain⟨pre,post,q1,q2,n1,n2⟩:=U.split
 subst q1
 have N2:=N.setAt n1 n2 hs ho'
 rw[<-q2] at N2
 have F2:Fr g cx.L h' m:=⟨F'.ns.sameBut hs (Jo hmem.2.1),fun b ob e=>(hs.2 b (fun q=>by rw[q,hmem.2.2] at e;cases e)).trans (F'.keep b ob e),F'.above⟩
 exact hQ _ (hk.chg (tk:=s.toks) F2 N2 R hl hr hm)
theorem dv(C:CxOk S cx sc)(hk:Ok S cx g s J st){x:Nat}{v v':Value}(h1:ae sc (S.nm x))(hv:VR J v v')(hP:Post S cx VF QF E J g s (some (.ok .next,{st with lo:=bI st.lo x v}))):
  fm (model S.prog S.w) cx.A (storeName cx.env (S.nm x) v') (fun ι=>QF .next) E s:=dQ C hk h1 hv fun s' x1=>hP _ _ _ _ x1 .next
theorem z7(G:GoodX S.toCore T F)(TO:TbOk S.toCore T)(C:CxOk S cx sc){ts:List IT}{xs:List Expr}(hm:All2 (MT S.toCore sc) ts xs):∀{vs vs':List Value} {st:St} {J g s},Ok S cx g s J st->All2 (VR J) vs vs'->Post S cx VU QU E J g s (asgL T F ts vs st)->
  fm (model S.prog S.w) cx.A (assignInOrder ((assignEach xs cx.env).map (·.2)) vs') QU E s:=by
 induction hm with
 |nil=>
  intro vs vs' st J g s hk hv hP
  cases hv with
  |nil=>exact assignInOrder_nil (hP.ret0 hk trivial)
  |cons=>exact hP.elim
 |cons h r ih=>
  intro vs vs' st J g s hk hv hP
  cases hv with
  |nil=>cases h<;>exact hP.elim
  |cons hv hvs=>
   cases h with
   |loc h1=>
    refine Kz ?_
    refine Ho ?_
    exact dQ C hk h1 hv fun s' x1=>ih x1.ok hvs (Post.later hP x1)
   |attr h1=>
    refine Kz ?_
    refine kas_attr ?_
    refine Sat.bind (G.e S.FN sc cx C _ _ h1 _) hk hP fun ov st1 ι J1 g1 s1 ov' x1 hov hP1=>?_
    refine oY TO C x1.ok hov (hv.le x1.le) (Post.bind hP1 fun ι st2 ι J2 g2 s2 ι x2 ι hP2=>?_)
    exact ih x2.ok (VRs.le x2.le (VRs.le x1.le hvs)) hP2
theorem pj{xs:List Expr}{env:Env}:∀{ts:List IT},All2 (MT S.toCore sc) ts xs->(assignEach xs env).length=ts.length/\JI (fun x=>x.1) (assignEach xs env)=none:=by
 intro ts h
 induction h with
 |nil=>exact⟨rfl,rfl⟩
 |cons a r ih=>
  cases a with
  |loc=>exact⟨congrArg (·+1) ih.1,by show JI (fun x=>x.1) ((false,_)::_)=none;rw[KC];simp[ih.2]⟩
  |attr=>exact⟨congrArg (·+1) ih.1,by show JI (fun x=>x.1) ((false,_)::_)=none;rw[KC];simp[ih.2]⟩
structure Good2(S:Core)(T:Tb)(F:Fs):Prop extends Good S T F where
 w:∀FN sc cx,CxOk ⟨S,FN⟩ cx sc->∀c x,ME S sc c x->∀b y,All2 (MS S sc) b y->∀st J g s R,Ok ⟨S,FN⟩ cx g s J st->Post ⟨S,FN⟩ cx VF (fun f s'=>R (.ok f) s') (fun e s'=>R (.error e) s') J g s (F.w c b st)->Hj (model S.prog S.w) cx.A (.whileLoop x y [] cx.env) R s
theorem fN(C:CxOk S cx sc)(hk:Ok S cx g s J st){k:Nat}{a:Addr}(hka:J k=some a)(e:da st k=true)(hE:∀s',Ext S cx J g s J g s' st->E (.ref a) s'):cameBackBy (model S.prog S.w) cx.A cx.env E (.ref a) s:=by
 obtain⟨c,d,T',e1,e2⟩:=n5 e
 exact z6 C hk hka e1 e2 hE
end
theorem pV{env:Env}(ns:List (Str×NameKind)):∀(acc:List (Str×Addr)),(∀y∈ns,y.2= .free->∃a,env.cells.lookup y.1=some a)->
  ∃cl,forIn (m:=Jv) ns acc (fun(x:Str×NameKind) r=>do
   if(x.2== .free)=true then
    let c<-cellOf env x.1
    pure (IF ((x.1,c)::r))
   else pure (IF r))=pure cl/\(∀y,(y,HP)∈ns\/(∃a,acc.lookup y=some a/\env.cells.lookup y=some a)->∃a,cl.lookup y=some a/\env.cells.lookup y=some a):=by
 induction ns with
 |nil=>exact fun acc ι=>⟨acc,by rw[Jx],fun y h=>h.elim (fun z=>nomatch z) id⟩
 |cons p r ih=>
  intro acc h
  obtain⟨n,k⟩:=p
  by_cases hk:(k== .free)=true
  ·have hk':k= .free:=by simpa using hk
   subst hk'
   obtain⟨a,ha⟩:=h _ (.head _) rfl
   obtain⟨cl,e,hc⟩:=ih ((n,a)::acc) fun y hy=>h y (.tail _ hy)
   refine⟨cl,?_,fun y hy=>hc y ?_⟩
   ·rw[IC]
    dsimp only
    rw[if_pos hk]
    unfold cellOf
    dsimp only at ha
    rw[ha]
    exact e
   ·by_cases hyn:y=n
    ·subst hyn
     exact .inr ⟨a,by rw[Hs,beq_self_eq_true],ha⟩
    ·have hl:((n,a)::acc).lookup y=acc.lookup y:=by rw[Hs,beq_eq_false_iff_ne.mpr hyn]
     rcases hy with hy|hy
     ·rcases eq.mp hy with hy|hy
      ·exact absurd (congrArg K9 hy) hyn
      ·exact .inl hy
     ·exact .inr (by rw[hl];exact hy)
  ·obtain⟨cl,e,hc⟩:=ih acc fun y hy=>h y (.tail _ hy)
   refine⟨cl,?_,fun y hy=>hc y ?_⟩
   ·rw[IC]
    dsimp only
    rw[if_neg hk]
    exact e
   ·rcases hy with hy|hy
    ·rcases eq.mp hy with hy|hy
     ·have:=congrArg K8 hy
      dsimp only at this
      rw[<-this] at hk
      exact absurd rfl hk
     ·exact .inl hy
    ·exact .inr hy
theorem ni{env:Env}{scope:Scope}(h:∀y∈scope.names,y.2≠.free):closureFor scope env=pure []:=by
 have key:∀(ns:List (Str×NameKind)) (acc:List (Str×Addr)),(∀y∈ns,y.2≠.free)->forIn (m:=Jv) ns acc (fun(x:Str×NameKind) r=>do
   if(x.2== .free)=true then
    let c<-cellOf env x.1
    pure (IF ((x.1,c)::r))
   else pure (IF r))=pure acc:=by
  intro ns
  induction ns with
  |nil=>intro acc _;rw[Jx]
  |cons p r ih=>
   intro acc h
   rw[IC]
   rw[if_neg (fun z=>h p (.head _) (by simpa using z))]
   exact ih acc fun y hy=>h y (.tail _ hy)
 unfold closureFor
 refine Km ?_ (key scope.names [] h)
 rw[bind_pure]
theorem fu:∀(ps:List (Nat×Nat)) (cs:List Addr),TriplesOk (lC ps cs)
 | [],_=>trivial
 |_::_,[]=>trivial
 |p::r,a::as=>fu r as
set_option tactic.hygienic true in
theorem oV{pos:Pos}{ps:List (Nat×Nat)}:∀{cs:List Addr},jY pos.line pos.col ps=true->codeAmong pos (lC ps cs)=none:=by
 induction ps with
 |nil=>exact fun ι=>rfl
 |cons p r ih=>
  intro cs h
  cases cs with
  |nil=>rfl
  |cons a as=>
  have h:(!(av p.1 pos.line&&av p.2 pos.col)&&jY pos.line pos.col r)=true:=h
  rw[db] at h
  show(if(((p.1:Int)==(pos.line:Int))&&((p.2:Int)==(pos.col:Int)))=true then some (pf a) else codeAmong pos (lC r as))=none
  rw[if_neg,ih h.2]
  intro z
  rw[db,beq_iff_eq,beq_iff_eq] at z
  rw[show p.1=pos.line from Lk z.1,show p.2=pos.col from Lk z.2,Hu,Hu] at h
  cases h.1
theorem kJ{l c:Nat}{a:Addr}:∀{ps:List (Nat×Nat)} {cs:List Addr},cs.length=ps.length->lC (ps++ [(l,c)]) (cs++ [a])=lC ps cs++ [rawInt l,rawInt c,.ref a]
 | [],[],_=>rfl
 |p::r,b::bs,h=>by
  show rawInt p.1::rawInt p.2::pf b::lC (r++ [(l,c)]) (bs++ [a])=_
  rw[kJ (by simpa using h)]
  rfl
 | [],_::_,h=>nomatch h
 |_::_,[],h=>nomatch h
section
variable{S:Sta}{T:Tb}{F:Fs}{cx:Cx}{sc:Scope}{st:St}
variable{J:Rho}{g:Heap}{s:Shared}{Q:Value->Shared->Prop}{E:Value->Shared->Prop}{QU:Unit->Shared->Prop}{QB:Bool->Shared->Prop}{QF:Flow->Shared->Prop}
theorem uJ(C:CxOk S cx sc)(hk:Ok S cx g s J st){i P c:Nat}{q name:Str}{params:Arguments}{body:List Stmt}{scope:Scope}{pos:Pos}{ps:List (Nat×Nat)}(hn:S.nest sc=some (c,P,q))(hc:CodeK S.K c P)(hPH:P<S.HB)(hfree:∀y∈scope.names,y.2≠.free)(hdf:S.dfi.d i=⟨name,q++name,params,body,scope⟩)
  (hloc:ae sc name) (e1:lk st.led P=some (.tabl ps)) (e2:jY pos.line pos.col ps=true)
  (hQ:∀J' s' v',Ext S cx J g s J' g s' {st with nx:=st.nx+2,led:=(st.nx+1,.dfn i st.nx)::(st.nx,.code i)::up st.led P (.tabl (ps++ [(pos.line,pos.col)]))}->VR J' (.ref (st.nx+1)) v'->Q v' s'):
  fm (model S.prog S.w) cx.A (makeFunction name (qualnameIn cx.env name name) params (.stmts body) scope cx.env [] [] [] pos pos.line) Q E s:=by
 obtain⟨m,news,F',N,R,hl⟩:=hk.fr
 obtain⟨hcode,hqual⟩:=C.nest _ _ _ hn
 have hq:qualnameIn cx.env name name=q++name:=by
  unfold qualnameIn
  rw[C.kd hloc.1,hqual,if_neg (by decide)]
 rw[hq]
 have T:=hk.topG C
 have hgs:=(I1 T).g.keeps F'.keep
 obtain⟨a,o,h1,h2,⟨cs,h3,rfl⟩,h4⟩:=ER.find R.er e1
 rw[R.hd P hPH] at h1
 cases h1
 have hm:=N _ h2
 obtain⟨bm,ob,b1,b2,b3,b4,b5,b6⟩:=T.bmain
 have hgP:mainGlobals≠P:=fun q=>by
  obtain⟨o,es,ep,e,hd,_⟩:=hgs
  rw[q,hm.1] at e;cases e;cases hd
 have hbP:bm≠P:=fun q=>by
  have e:=F'.keep _ _ b3
  rw[q,hm.1] at e;cases e;cases b4
 have hbG:bm≠mainGlobals:=fun q=>by
  obtain⟨o,es,ep,e,hd,_⟩:=T.g
  rw[q,e] at b3;cases b3;rw[hd] at b6;cases b6
 have X:=hk.inG C
 have CH:CodeHd g c P:=by
  obtain⟨o,vs,file,tf,flags,tg,inF,text,tt,k1,k2,k3,k4,k5,k6,k7,k8,k9,k10⟩:=hc
  exact⟨o,vs,file,tf,flags,tg,inF,text,tt,X _ _ k1,k2,k3,k4,k5,k6,k7,k8,k9,k10⟩
 refine makeFunction_K (mg:=S.mg) (ni hfree) C.gl hgs hcode (CH.keeps F'.keep) hm.1 (fu _ _) (oV e2) hgP ⟨bm,ob,b1,b2,hbG,hbP,F'.keep _ _ b3,b4,b5,b6⟩ fun c' ctv doc h' tk hx hge hlt hrec htb=>?_
 obtain⟨c₂,oc,vs,t,k2,hoc,hd,hv⟩:=hrec
 cases k2
 have hLs:cx.L<s.heap.objs.size:=F'.ns.lt
 have hLc:cx.L<c':=sw hLs hge
 have old:∀b o,g.get? b=some o->h'.get? b=some o:=fun b o e=>hx b o (fun q=>by rw[q,hm.2.2] at e;cases e) (F'.keep b o e)
 have fresh:∀b,cx.L<b->g.get? b=none:=fun b hb=>Kl (na F'.above (Iz hb))
 have F2:Fr g cx.L h' m:=⟨F'.ns.extBut hx hm.2.1.symm,old,F'.above⟩
 obtain⟨news',U,hr,hmm⟩:=ER.upd R.er R.nd e1 (R.hd P hPH) h2 (x':= .tabl (ps++ [(pos.line,pos.col)])) (o':=tabObj ((lC ps cs).toArray++ #[rawInt pos.line,rawInt pos.col,.ref c'])) ⟨cs++ [c'],by simp[h3],by rw[kJ h3];simp⟩
 obtain⟨pre,post,q1,q2,n1,n2⟩:=U.split
 subst q1
 have N2:News g cx.L h' news':=fun z hz=>by
  rw[q2] at hz
  rcases nl.mp hz with hz|hz
  ·have n:=N z (r6 _ hz)
   exact⟨hx _ _ (n1 z hz) n.1,n.2⟩
  ·rcases eq.mp hz with rfl|hz
   ·exact⟨htb,hm.2⟩
   ·have n:=N z (ev _ (.tail _ hz))
    exact⟨hx _ _ (n2 z hz) n.1,n.2⟩
 have R2:S.Rel J {st with led:=up st.led P (.tabl (ps++ [(pos.line,pos.col)]))} news':=⟨R.hd,R.hb,R.hi,by rw[hmm];exact R.nd,hr⟩
 have lt2:∀z∈news',z.1<c':=fun z hz=>by
  have:z.1∈news'.map (·.1):=nw hz
  rw[hmm] at this
  obtain⟨y,hy,e⟩:=re.mp this
  rw[<-e]
  exact sw (r7 (N y hy).1) hge
 have N3:News g cx.L h' ((c',oc)::news'):=fun z hz=>by
  rcases eq.mp hz with rfl|hz
  ·exact⟨hoc,Ig hLc,fresh _ hLc⟩
  ·exact N2 z hz
 have ok2:Ok S cx g {s with heap:=h'} J {st with led:=up st.led P (.tabl (ps++ [(pos.line,pos.col)]))}:=hk.heap (tk:=s.toks) F2 N2 R2 hl rfl rfl (Rho.le_refl _)
 have x2:Ext S cx J g s J g {s with heap:=h'} {st with led:=up st.led P (.tabl (ps++ [(pos.line,pos.col)]))}:=⟨Rho.le_refl _,Cn,⟨rfl,rfl,rfl⟩,ok2⟩
 have x3:=ok2.new C F2 R2 hl F2 N3 lt2 (x:= .code i) (tk:=s.toks) ⟨vs,t,hd,by rw[hdf];exact hv⟩ (cM C.S.sm X N3 (.head _))
 obtain⟨m3,news3,F3,N3',R3,hl3⟩:=x3.ok.fr
 have N4:=N3'.push F3 (fnMade name (q++name) params body scope [] doc ((S.mg "__name__").getD .none) c' ctv)
 have x4:=x3.ok.new C F3 R3 hl3 (F3.push _) N4 (fun z hz=>r7 (N3' z hz).1) (x:= .dfn i st.nx) (tk:=tk) ⟨c',doc,_,ctv,Rho.ext_le _ (R3.hi _ (wh _)) _ _ (Rho.ext_at _ _ _),by rw[hdf]⟩ (cM C.S.sm X N4 (.head _))
 exact hQ _ _ _ ((x2.trans x3).trans x4) VR.new
end
section
variable{S:Sta}{T:Tb}{F:Fs}{cx:Cx}{sc:Scope}{st:St}
variable{J:Rho}{g:Heap}{s:Shared}{Q:Value->Shared->Prop}{E:Value->Shared->Prop}{QU:Unit->Shared->Prop}{QB:Bool->Shared->Prop}{QF:Flow->Shared->Prop}
theorem zb(C:CxOk S cx sc)(TO:TbOk S.toCore T)(hk:Ok S cx g s J st){k:Nat}{a:Addr}{st':St}(hka:J k=some a)(e:zc T st k=some st')(hh:cx.A.handled=some (.ref a))(hE:∀J' s',Ext S cx J g s J' g s' st'->J' k=some a->E (.ref a) s'):
  RaiseA cx.A S.K E (.ref a) s:=by
 induction wr e using ReS.casesOn with
 |mk Cc d Tt e1 e2 e3 e4=>
  obtain⟨m,news,F',N,R,hl⟩:=hk.fr
  obtain⟨o,h2,⟨tx,dx,Tx,h5,h6,rfl⟩,h4⟩:=ER.findA R.er e1 hka
  obtain⟨o2,g2,⟨ts,rfl,g3⟩,g4⟩:=ER.findA R.er e2 h6
  obtain⟨rest,s1,s2,s3⟩:=ER.del R.er R.nd e1 hka
  obtain⟨rest2,r1,r2,r3⟩:=ER.del s2 (cR s1 R.nd) (by rw[l8 e3];exact e2) h6
  obtain⟨fI,hx⟩:=kt.mp e4
  refine rV hh (hk.inG C) F' N h2 g2 g3 (part_of (rest:=rest2) (r1.trans s1) fun p hp q hq=>?_) (TO.exs _ _ hx).1 fun h' ts' F2 N2 l3=>?_
  ·rcases eq.mp hq with rfl|hq
   ·exact s3 p (r1.subset hp)
   ·rcases o0.mp hq with rfl;exact r3 p hp
  ·refine hE J _ ⟨Rho.le_refl _,Cn,⟨rfl,rfl,rfl⟩,hk.heap (tk:=s.toks) F2 N2 ⟨R.hd,R.hb,R.hi,?_,?_⟩ hl rfl rfl (Rho.le_refl _)⟩ hka
   ·rw[mo,mo,sB,sB]
    have hTa:Tx≠a:=by
     intro q
     have q1:=(N _ h2).1
     have q2:=(N _ g2).1
     rw[q] at q2
     rw[q1] at q2
     have:=congrArg Lq (bd q2)
     cases this
    refine⟨fun z=>?_,fun z=>?_,cR (r1.trans s1) R.nd⟩
    ·rcases eq.mp z with z|z
     ·exact hTa z
     ·obtain⟨q,hq,e⟩:=re.mp z;exact r3 q hq e
    ·obtain⟨q,hq,e⟩:=re.mp z;exact s3 q (r1.subset hq) e
   ·exact .cons ⟨h6,⟨ts',rfl,l3⟩,g4⟩ (.cons ⟨hka,⟨tx,dx,Tx,h5,h6,rfl⟩,h4⟩ r2)
theorem oD{i:Expr}(h:cJ i=true)(ov iv new:Value):augStore i ov iv new=(do
  holding [new,ov,iv] (setItem ov iv new)
  release [new,ov,iv] []
  pure .next):=by
 cases i<;>first|rfl|exact dL h|cases h
structure ForTry(S:Core)(T:Tb)(F:Fs):Prop where
 f:∀FN sc cx,CxOk ⟨S,FN⟩ cx sc->∀n it b x y p' p,ME S sc it x->bY x=true->All2 (MS S sc) b y->ae sc (S.nm n)->∀st,Sat ⟨S,FN⟩ cx VF (exec (.For (.Name (S.nm n) p') x y [] p) cx.env) st (fc S T F (.for_ n it b) st)
 r:∀FN sc cx,CxOk ⟨S,FN⟩ cx sc->∀n it b x y p' q r p,bV S sc "range" (.type "range")->ME S sc it x->All2 (MS S sc) b y->ae sc (S.nm n)->∀st,Sat ⟨S,FN⟩ cx VF (exec (.For (.Name (S.nm n) p') (.Call (.Name (ag "range") q) [x] [] r) y [] p) cx.env) st (fc S T F (.forR n it b) st)
 t:∀FN sc cx,CxOk ⟨S,FN⟩ cx sc->∀b C n h y z hd p' p'' p x,All2 (MS S sc) b y->vN S sc x C->ae sc (S.nm n)->All2 (MS S sc) h (hd::z)->∀st,Sat ⟨S,FN⟩ cx VF (exec (.Try y [.ExceptHandler (some (.Name (S.nm x) p')) (some (S.nm n)) (hd::z) p''] [] [] p) cx.env) st (fc S T F (.try_ b C n h) st)
theorem y5(G:Good2 S.toCore T F)(TO:TbOk S.toCore T)(FT:ForTry S.toCore T F)(C:CxOk S cx sc){ir:IS}{x:Stmt}(hm:MS S.toCore sc ir x):Sat S cx VF (exec x cx.env) st (fc S.toCore T F ir st):=by
 have ge:∀{ir:IE} {x:Expr} (_:ME S.toCore sc ir x) (st:St),Sat S cx VR (eval x cx.env) st (F.e ir st):=fun h st=>G.e S.FN sc cx C _ _ h st
 intro J g s Q E hk hP
 induction hm using MS.casesOn with
 |asg h h1 h2=>
  refine Im ?_ (bG h1 _ _ _)
  refine Sat.bind (ge h st) hk hP fun v st1 ι J1 g1 s1 v' x1 hv hP1=>?_
  exact dv C x1.ok h2 hv hP1
 |asgL h0 h1 h2 h3 h4 h5 h6=>exact hP.elim
 |asgC h h1 h2=>
  refine Im ?_ (bG h1 _ _ _)
  refine Sat.bind (ge h st) hk hP fun v st1 ι J1 g1 s1 v' x1 hv hP1=>?_
  obtain⟨w,e1,hP2⟩:hP1:=hP1.oget
  obtain⟨k,e2,hP3⟩:hP2:=hP2.oget
  obtain⟨o,e3,hP4⟩:hP3:=hP3.oget
  obtain⟨u,e4,hP5⟩:hP4:=hP4.oget
  cases aQ e2
  cases nW e4
  exact nF C x1.ok h2 e1 e3 hv fun s' x2=>hP5 _ _ _ _ x2 .next
 | @fdef x i P c q params body scope pos hn hc hPH hlo hd0 hk0 ha hfree hdf=>
  obtain⟨o,e1,hP1⟩:Post:=Post.oget hP
  obtain⟨ps,e2,hP2⟩:hP1:=hP1.oget
  obtain⟨e3,hP3⟩:hP2:=hP2.grd
  cases tK e2
  refine nestDef_K hd0 hk0 (ha _) ?_
  refine uJ C hk hn hc hPH hfree hdf hlo e1 e3 fun J1 s1 v1 x1 hv1=>?_
  exact dQ C x1.ok hlo hv1 fun s2 x2=>hP3 _ _ _ _ (x1.trans x2) .next
 |orc h=>exact G.o S.FN sc cx C _ _ _ (.orc h) st J g s Q E hk hP
 |forR h1 h2 h3 h4=>exact FT.r S.FN sc cx C _ _ _ _ _ _ _ _ _ h1 h2 h3 h4 st J g s Q E hk hP
 |asgA h h1 h2=>
  refine plainObj_wpAny_Assign_Attribute ?_ (bG h1 _ _ _)
  refine Sat.bind (ge h st) hk hP fun v st1 ι J1 g1 s1 v' x1 hv hP1=>?_
  refine Sat.bind (ge h2 st1) x1.ok hP1 fun ov st2 ι J2 g2 s2 ov' x2 hov hP2=>?_
  exact oY TO C x2.ok hov (hv.le x2.le) (Post.bind hP2 fun ι st3 ι J3 g3 s3 ι x3 ι hP3=>hP3.ret0 x3.ok .next)
 |asgI h h1 h2 h3 h4=>
  refine wpAny_Assign_Subscript ?_ (bG h1 _ _ _)
  refine Sat.bind (ge h st) hk hP fun v st1 ι J1 g1 s1 v' x1 hv hP1=>?_
  refine Sat.bind (ge h2 st1) x1.ok hP1 fun ov st2 ι J2 g2 s2 ov' x2 hov hP2=>?_
  refine Sat.bind (ge h3 st2) x2.ok hP2 fun iv st3 ι J3 g3 s3 iv' x3 hiv hP3=>?_
  exact tY C x3.ok (hov.le x3.le) hiv ((hv.le x2.le).le x3.le) (Post.bind hP3 fun ι st4 ι J4 g4 s4 ι x4 ι hP4=>hP4.ret0 x4.ok .next)
 |asgT h h1 h2 h3=>
  refine Assign_Tuple ?_ (by unfold swapsWithSole;exact bG h1 _ _ _) (ow h2 _ _ _ _)
  refine Sat.bind (ge h st) hk hP fun v st1 hz J1 g1 s1 v' x1 hv hP1=>?_
  clear hz
  obtain⟨k,k0,hP2⟩:hP1:=hP1.oget
  obtain⟨e0,hP3⟩:hP2:=hP2.grd
  obtain⟨o,e1,hP4⟩:hP3:=hP3.oget
  obtain⟨p,e3,hP5⟩:hP4:=hP4.oget
  obtain⟨e2,hP6⟩:hP5:=hP5.grd
  cases aQ k0
  have e0:=pt.mp e0
  rw[db] at e2
  induction dP e3 using SeqD.casesOn with
  |lst=>cases e2.1
  |tup vs=>
   obtain⟨a,hka,rfl⟩:=hv
   obtain⟨o,q2,⟨vs',rfl,hvs⟩,q4⟩:=bN C x1.ok e1 hka
   obtain⟨m,news,F',N,R,hl⟩:=x1.ok.fr
   have hh:=x1.ok.hd
   rw[e0] at hh
   have la:=pj (env:=cx.env) h3
   refine unpackN_ F' N (cW q2) hh (by rw[la.1,pr,<-hvs.length];exact aH e2.2) la.2 fun h' F2 N2=>?_
   have x2:Ext S cx J1 g1 s1 J1 g1 {s1 with heap:=h'} st1:=⟨Rho.le_refl _,Cn,⟨rfl,rfl,rfl⟩,x1.ok.heap (tk:=s1.toks) F2 N2 R hl rfl rfl (Rho.le_refl _)⟩
   exact z7 G.toGoodX TO C h3 x2.ok hvs (Post.bind (Post.later hP6 x2) fun ι st3 ι J3 g3 s3 ι x3 ι hP3=>hP3.ret0 x3.ok .next)
 | @aug y op e x p' p h h1 h2=>
  refine wpAny_AugAssign_Name ?_
  obtain⟨old,z,hP2⟩:Post:=Post.oget hP
  refine y8 C hk h1 z fun old' q2=>?_
  refine Sat.bind (ge h st) hk hP2 fun w st1 ι J1 g1 s1 w' x1 hw hP3=>?_
  obtain⟨r,e1,hP4⟩:hP3:=hP3.oget
  refine uL x1.ok (q2.le x1.le) hw e1 fun J2 g2 s2 r' x2 hr=>?_
  exact dv C x2.ok h1 hr (Post.later hP4 x2)
 |augA h1 h2=>
  refine wpAny_AugAssign_AttributeAny ?_
  refine Sat.bind (ge h1 st) hk hP fun ov st1 ι J1 g1 s1 ov' x1 hov hP1=>?_
  obtain⟨old,e1,hP2⟩:hP1:=hP1.oget
  refine te TO C x1.ok hov ?_
  rw[e1]
  refine fun J2 g2 s2 old' x2 hold=>?_
  refine Sat.bind (ge h2 st1) x2.ok (Post.later hP2 x2) fun v st3 ι J3 g3 s3 v' x3 hv hP3=>?_
  obtain⟨r,e2,hP4⟩:hP3:=hP3.oget
  refine uL x3.ok (hold.le x3.le) hv e2 fun J4 g4 s4 r' x4 hr=>?_
  exact oY TO C x4.ok (((hov.le x2.le).le x3.le).le x4.le) hr (Post.bind (Post.later hP4 x4) fun ι st5 ι J5 g5 s5 ι x5 ι hP5=>hP5.ret0 x5.ok .next)
 |augI h1 h2 h3 h4=>
  refine wpAny_AugAssign_SubscriptAny ?_ ?_
  ·refine Sat.bind (ge h1 st) hk hP fun ov st1 ι J1 g1 s1 ov' x1 hov hP1=>?_
   refine Sat.bind (ge h2 st1) x1.ok hP1 fun iv st2 ι J2 g2 s2 iv' x2 hiv hP2=>?_
   obtain⟨old,e1,hP3⟩:hP2:=hP2.oget
   refine z4 C x2.ok (hov.le x2.le) hiv ?_
   rw[e1]
   refine fun J3 g3 s3 old' x3 hold=>?_
   refine Sat.bind (ge h4 st2) x3.ok (Post.later hP3 x3) fun v st4 ι J4 g4 s4 v' x4 hv hP4=>?_
   obtain⟨r,e2,hP5⟩:hP4:=hP4.oget
   refine uL x4.ok (hold.le x4.le) hv e2 fun J5 g5 s5 r' x5 hr=>?_
   exact tY C x5.ok ((((hov.le x2.le).le x3.le).le x4.le).le x5.le) (((hiv.le x3.le).le x4.le).le x5.le) hr (Post.bind (Post.later hP5 x5) fun ι st6 ι J6 g6 s6 ι x6 ι hP6=>hP6.ret0 x6.ok .next)
  ·exact fun ov iv new=>oD h3 ov iv new
 |if_ h1 h2 h3=>
  refine wpAny_If ?_
  refine Sat.bind (G.t S.FN sc cx C _ _ h1 st) hk hP fun c st1 ι J1 g1 s1 c' x1 hc hP1=>?_
  subst c'
  cases c with
  |true=>exact G.b S.FN sc cx C _ _ h2 st1 J1 g1 s1 Q E x1.ok hP1
  |false=>exact G.b S.FN sc cx C _ _ h3 st1 J1 g1 s1 Q E x1.ok hP1
 | @while_ c b x y p h1 h2=>
  refine Lw ?_
  have hP':Post S cx VF Q E J g s (nq (F.w c b st)):=hP
  refine G.w S.FN sc cx C _ _ h1 _ _ h2 st J g s _ hk ?_
  cases z:F.w c b st with
  |none=>rw[z] at hP';exact hP'.elim
  |some o=>
   obtain⟨o,st1⟩:=o
   rw[z] at hP'
   cases o with
   |ok f=>exact hP'
   |err k=>
    obtain⟨e1,hP2⟩:Post:=Post.grd (show Post S cx VF Q E J g s (grd (da st1 k) (some (.err k,st1))) from hP')
    intro J1 g1 s1 a x1 ha
    exact fN C x1.ok ha e1 fun s' x2=>hP2 J1 g1 s' a (x1.trans x2) ha
 |for_ h1 h2 h3 h4=>exact FT.f S.FN sc cx C _ _ _ _ _ _ _ h1 h2 h3 h4 st J g s Q E hk hP
 |ret h=>
  refine KL ?_
  refine Sat.bind (ge h st) hk hP fun v st1 ι J1 g1 s1 v' x1 hv hP1=>?_
  exact hP1.ret0 x1.ok (.ret hv)
 |ret0=>exact wpAny_Return_none (hP.ret0 hk (.ret rfl))
 |raise h=>
  refine rT (hk.inG C) ?_
  refine Sat.bind (ge h st) hk hP fun v st1 hz J1 g1 s1 v' x1 hv hP1=>?_
  clear hz
  obtain⟨k,k0,hP2⟩:hP1:=hP1.oget
  obtain⟨e0,hP3⟩:hP2:=hP2.grd
  obtain⟨o,e1,hP4⟩:hP3:=hP3.oget
  obtain⟨p,e3,hP5⟩:hP4:=hP4.oget
  obtain⟨e4,hP6⟩:hP5:=hP5.grd
  obtain⟨e2,hP7⟩:hP6:=hP6.grd
  cases aQ k0
  induction dZ e3 using ExcA.casesOn with
  |exc=>cases e4
  |exd Cc d t=>
   obtain⟨a,hka,rfl⟩:=hv
   obtain⟨m,news,F',N,R,hl⟩:=x1.ok.fr
   obtain⟨o,q2,⟨tx,dx,q5,q6,rfl⟩,q4⟩:=ER.findA R.er e1 hka
   obtain⟨fI,hx⟩:=kt.mp e2
   have hh:=x1.ok.hd
   rw[pt.mp e0] at hh
   exact rU hh (x1.ok.inG C) F' N q2 (TO.exs _ _ hx).1 (hP7 J1 g1 s1 a (Ext.rfl' x1.ok) hka)
 | @raiseN n p' p h1 h2=>
  refine nC (hk.inG C) ?_
  obtain⟨v,e0,hP1⟩:Post:=Post.oget hP
  obtain⟨k,k0,hP2⟩:hP1:=hP1.oget
  obtain⟨j,e1,hP3⟩:hP2:=hP2.oget
  obtain⟨e2,hP4⟩:hP3:=hP3.grd
  obtain⟨st1,e3,hP5⟩:hP4:=hP4.oget
  cases aQ k0
  have hkj:=aH e2
  subst hkj
  have hh:=hk.hd
  rw[e1] at hh
  obtain⟨e,hke,hha⟩:=hh
  refine y7 C h1 h2 e0 J g s _ E hk fun J2 g2 s2 v' x2 hv=>?_
  obtain⟨a,hka,rfl⟩:=hv
  have:a=e:=by have:=x2.le _ _ hke;rw[hka] at this;exact bd this
  subst this
  exact zb C TO x2.ok hka e3 hha fun J3 s3 x3 ha=>hP5 J3 g2 s3 a (x2.trans x3) ha
 |try_ h1 h2 h3 h4=>exact FT.t S.FN sc cx C _ _ _ _ _ _ _ _ _ _ _ h1 h2 h3 h4 st J g s Q E hk hP
 |expr h h1=>
  refine wpAny_Expr_any ?_ ?_ (bG h1 _ _ _)
  ·refine Sat.bind (ge h st) hk hP fun v st1 ι J1 g1 s1 v' x1 hv hP1=>?_
   exact hP1.ret0 x1.ok .next
  ·show(cx.env.scope.kind== .module&&_)=false
   rw[C.K]
   rfl
 |bad=>exact hP.elim
 |pass=>exact wpAny_Pass (hP.ret0 hk .next)
end
end Mine
end
section
open PySem PySem.W PySem.Spec PySem.Calls PyProof.Rows
open Sem (wp)
namespace Mine
section
variable{prog:Program}{w:World}{A₀ A:Around}{E:Value->Shared->Prop}{s:Shared}{base g:Heap}{outer:List Env}{L a e C C':Addr}{m:Str->Option Value}{name:Str}{scope:Scope}{cd:Value}
 {news rest:Led} {dd:Option Addr} {a0 a1 a2 a3 a4 a5:Value} {sl:Array (Option Value)} {KF:Frag} {p:Program} {loose:List Str} {mean:H8->Option Value} {mg mb:Str->Option Value} {x n:Str} {b₀:Stmt} {suite:List Stmt} {pos np:Pos} {hrest:List ExceptHandler}
theorem sU{Q:Flow->Shared->Prop}{env:Env}(K:H2 A₀ base outer g)(F:Fr g L s.heap m)(N:News g L s.heap news)(XB:KF.In base)(TB:Lh p loose mean mg mb base){tl:Led}(hx':(e,eJ C dd #[a0,a1,a2,a3,a4,a5] sl)∈news)
  (h1:(a1= .none/\tl= [])\/∃T₀ ts₀,a1= .ref T₀/\tl= [(T₀,et ts₀)]/\(T₀,et ts₀)∈news/\3<ts₀.size)
  (hp:Part ((e,eJ C dd #[a0,a1,a2,a3,a4,a5] sl)::tl) news rest)
  (ex:nsIn KF mainGlobals x=some (some (.ref C'))) (hm:cI KF C=true) (hm':cI KF C'=true) (hb:mroIn KF C (.ref C')=some true)
  (k:∀h' T ts g' tk,Hd (outer.filterMap (·.frame)) g g'->H2 A₀ base outer g'->KF.In g'->Lh p loose mean mg mb g'->Fr g' L h' (fun y=>if y=n then some (.ref e) else m y)->
   News g' L h' ((T,et ts)::(e,eJ C dd #[a0,.ref T,a2,a3,a4,a5] sl)::rest)->3<ts.size->T≠e->(∀p∈rest,p.1≠T)->
   fm (model prog w) ((A₀.deeper env).mark (some (.ref e))) (execs (b₀::suite) env)
    (fun f s₄=>fm (model prog w) (A₀.deeper env) (do bindName env n .none;unbindBehindTheSuite env n pos) (fun ι s₅=>Q f s₅) E s₄)
    (AsSuiteRaised (model prog w) ((A₀.deeper env).mark (some (.ref e))) env n pos (notedBy (model prog w) ((A₀.deeper env).mark (some (.ref e))) env (cameBackBy (model prog w) (A₀.deeper env) env E)))
    {s with heap:=h',toks:=tk})
  (hf:env.frame=some L) (hk:env.scope.kind= .function) (hlc:env.locals=L) (hgl:env.globals=mainGlobals) (hlo:env.kindOf n=some .local) (hx:env.kindOf x=some .globalImplicit) (hd:(x==("__debug__":Str))=false):
  fm (model prog w) (A₀.deeper env) (noteFrame (.ref e) env)
   (fun ι s₂=>fm (model prog w) (A₀.deeper env) (setFlight (.ref e) none) (fun ι s₃=>
    fm (model prog w) (A₀.deeper env) (handleBy (.ref e) env (.ExceptHandler (some (.Name x np)) (some n) (b₀::suite) pos::hrest)) Q E s₃) E s₂) E s:=by
 refine gn K F N hx' h1 hp (fun h₂ T ts g' t B' F' N' l3 ne hr=>?_) hf hk
 refine eb (s:={s with heap:=h₂}) F' N' l3 ne hr fun h₃ ts₃ F₃ N₃ l₃ ι=>?_
 have X₃:KF.In g':=XB.keeps B'.stays
 have T₃:=TB.keeps B'.stays
 refine wpAny_handleBy_cons (codeAny_handlers_test (IP (s:={s with heap:=h₃}) hk hx (KM (mg:=mg) (by rw[hgl];exact(I1 T₃).g.keeps F₃.keep) (mg_of X₃ (I1 T₃).g ex) ?_) hd)) (by intro q;cases q)
 refine n9 (s:={s with heap:=h₃}) (b:=true) (X₃.keeps F₃.keep) hm hm' (N₃ _ (.tail _ (.head _))).1 rfl hb ?_
 refine codeAny_handlers_suite_as ?_
 refine eb (s:={s with heap:=h₃}) F₃ N₃ l₃ ne hr fun h₄ ts₄ F₄ N₄ l₄ ι=>?_
 refine IG (s:={s with heap:=h₄}) hlo (hlc▸F₄.ns) (fun h₅ hn hs=>?_) (by rw[hk];rfl)
 rw[hlc] at hn hs
 exact k h₅ T ts₄ g' _ t B' X₃ T₃ (F₄.set hn hs) (N₄.set hs) l₄ ne hr
end
section
variable{S:Sta}{T:Tb}{F:Fs}{cx:Cx}{sc:Scope}{st:St}
variable{J:Rho}{g:Heap}{s:Shared}{Q:Value->Shared->Prop}{E:Value->Shared->Prop}{QU:Unit->Shared->Prop}{QB:Bool->Shared->Prop}{QF:Flow->Shared->Prop}
theorem kT(hk:Ok S cx g s J st){k:Nat}{a:Addr}{st':St}(hka:J k=some a)(e:am st k=some st'):da st' k=true:=by
 obtain⟨m,news,F',N,R,hl⟩:=hk.fr
 have hn:av st.nx k=false:=by
  cases z:av st.nx k with
  |false=>rfl
  |true=>have:=R.hi st.nx (wh _);rw[aH z,hka] at this;cases this
 have a1:∀X l,lk ((st.nx,AO.tb)::(k,X)::l) k=some X:=fun X l=>by
  rw[aR,hn]
  show lk ((k,X)::l) k=_
  rw[aR,Hu]
 have a2:∀l,lk ((st.nx,AO.tb)::l) st.nx=some .tb:=fun l=>by rw[aR,Hu]
 cases gp e<;>exact vG (a1 _ _) (a2 _)
theorem mx(C:CxOk S cx sc)(hk:Ok S cx g s J st){α:Type}{env:Env}{k:Nat}{a:Addr}{what:String}(hka:J k=some a)(e:da st k=true){N:Value->Shared->Prop}(hE:∀s',Ext S cx J g s J g s' st->N (.ref a) s'):
  fm (model S.prog S.w) cx.A (Lp what (.ref a) env:Jv α) (fun ι ι=>False) N s:=by
 obtain⟨c,d,Tt,e1,e2⟩:=n5 e
 obtain⟨m,news,F,N',R,hl⟩:=hk.fr
 obtain⟨o,h2,⟨tx,dx,Tx,h5,h6,rfl⟩,h4⟩:=ER.findA R.er e1 hka
 obtain⟨o2,g2,⟨ts,rfl,g3⟩,g4⟩:=ER.findA R.er e2 h6
 have he:=(N' _ h2).1
 have hT:=(N' _ g2).1
 obtain⟨news',U,hr,hm⟩:=ER.upd R.er R.nd e2 h6 g2 (x':= .tb) (o':=et (ts.setIfInBounds 3 ((env.frame).elim zn fun f=>rawInt f))) ⟨_,rfl,by simpa using g3⟩
 obtain⟨pre,post,q1,q2,n1,n2⟩:=U.split
 subst q1
 obtain⟨F2,N2⟩:=IK (f:=Hy (·.setIfInBounds 3 ((env.frame).elim zn fun f=>rawInt f))) (o':=et (ts.setIfInBounds 3 ((env.frame).elim zn fun f=>rawInt f))) F N' n1 n2 rfl rfl
 rw[<-q2] at N2
 unfold Lp
 refine ca (HI he rfl (x:= .ref Tx) rfl ?_)
 rw[if_neg (show¬(pf Tx==zn)=true from by simp)]
 refine ca ?_
 unfold setFlight
 refine ca (HI he rfl (x:= .ref Tx) rfl ?_)
 rw[if_pos (show(pf Tx !=zn)=true from by simp)]
 refine HY hT rfl g3 ?_
 refine II (hE _ ?_)
 have X:=hk.chg (tk:=s.toks) F2 N2 R hl hr hm
 rw[lA e2] at X
 exact X
theorem mw(C:CxOk S cx sc)(hk:Ok S cx g s J st){n:Nat}{pos:Pos}(h1:ae sc (S.nm n))(A:Around)(hQ:∀s',Ext S cx J g s J g s' {st with lo:=gJ st.lo n}->QU () s'):
  fm (model S.prog S.w) A (do bindName cx.env (S.nm n) .none;unbindBehindTheSuite cx.env (S.nm n) pos) QU E s:=by
 obtain⟨m,news,F',N,R,hl⟩:=hk.fr
 obtain⟨hloc,hres⟩:=C.lo h1.2
 refine wpAny_nameGoes_keeps (C.kd h1.1) (hloc▸F'.ns) (by rw[C.K];rfl) (fun h' v hn hs=>?_)
 rw[hloc] at hn hs
 refine hQ _ ⟨Rho.le_refl _,Cn,⟨rfl,rfl,rfl⟩,hk.heap (F'.set hn hs) (N.set hs) R (fun y w e=>?_) rfl rfl (Rho.le_refl _)⟩
 have e':lk (gJ st.lo n) y=some w:=e
 rw[qh] at e'
 by_cases hxy:av n y=true
 ·rw[if_pos hxy] at e';cases e'
 ·rw[if_neg hxy] at e'
  obtain⟨w',hw,hr⟩:=hl y w e'
  refine⟨w',?_,hr⟩
  rw[lJ (fun q=>hxy (by rw[C.S.inj _ _ q];exact Hu _))]
  exact hw
noncomputable abbrev Cx.held(cx:Cx)(e:Addr):Cx:={cx with A:=cx.A.mark (some (.ref e)),A₀:=cx.A₀.mark (some (.ref e))}
theorem CxOk.held(C:CxOk S cx sc)(e:Addr):CxOk S (cx.held e) sc:={C with hAA:=by show cx.A.mark _=_;rw[C.hAA];rfl}
theorem Ok.unheld(hk:Ok S (cx.held a) g s J st)(hh:cx.A.handled=none):Ok S cx g s J {st with hd:=none}:=
 ⟨⟨hk.B.stack,hk.B.stays,hk.B.frames⟩,(let⟨m,n,a,b,c,d⟩:=hk.fr;⟨m,n,a,b,c,d⟩),hh,hk.dp,hk.un⟩
theorem mt(G:Good S.toCore T F)(TO:TbOk S.toCore T)(C:CxOk S cx sc){ob:Out AF}{Cc n:Nat}{h:List IS}{y z:List Stmt}{hd:Stmt}{p' p'' p:Pos}{x:Nat}(hb:Sat S cx VF (execs y cx.env) st ob)(hx:vN S.toCore sc x Cc)(hn:ae sc (S.nm n))(hh:All2 (MS S.toCore sc) h (hd::z)):
  Sat S cx VF (exec (.Try y [.ExceptHandler (some (.Name (S.nm x) p')) (some (S.nm n)) (hd::z) p''] [] [] p) cx.env) st (tryO T F Cc n h st ob):=by
 intro J g s Q E hk hP'
 refine wpAny_Try_except ?_
 refine hb J g s _ _ hk ?_
 cases ob with
 |none=>exact hP'.elim
 |some o=>
  obtain⟨o,st1⟩:=o
  cases o with
  |ok f=>
   intro J1 g1 s1 f' x1 hf
   have:=hP' J1 g1 s1 f' x1 hf
   induction hf using VF.casesOn with
   |next=>exact HQ this
   |brk=>exact this
   |cont=>exact this
   |ret hv=>exact this
  |err k=>
   intro J1 g1 s1 a x1 hka
   have main:∀C0 st2,(∃d t,lk st1.led k=some (.exd C0 d t)\/lk st1.led k=some (.exc C0 d t))->am st1 k=some st2->Post S cx VF Q E J g s (tryO.handO T F Cc n h st C0 k st2)->
     fm (model S.prog S.w) cx.A (noteFrame (.ref a) cx.env) (fun ι s₂=>fm (model S.prog S.w) cx.A (setFlight (.ref a) none) (fun ι s₃=>fm (model S.prog S.w) cx.A (handleBy (.ref a) cx.env [.ExceptHandler (some (.Name (S.nm x) p')) (some (S.nm n)) (hd::z) p'']) Q E s₃) E s₂) E s1:=by
    intro C0 st2 hc0 en hPh
    obtain⟨i0,hPh⟩:Post:=Post.grd hPh
    rw[db,db] at i0
    obtain⟨i1,i2,i3⟩:=i0
    ·have i3:st.hd=none:=pt.mp i3
     have hnone:cx.A.handled=none:=by have:=hk.hd;rw[i3] at this;exact this
     obtain⟨m,news,C1,dd,a0,a1,tl,rest,F',N,hl,hxe,h1,hp,hCC,fin⟩:=jI C x1.ok hka en
     have hC01:C0=C1:=by
      obtain⟨d,t,hc⟩:=hc0
      obtain⟨C',d',t',hc'|hc'⟩:=hCC
      ·rcases hc with hc|hc
       ·rw[hc'.1] at hc;cases hc;exact hc'.2
       ·rw[hc'.1] at hc;cases hc
      ·rcases hc with hc|hc
       ·rw[hc'.1] at hc;cases hc
       ·rw[hc'.1] at hc;cases hc;exact hc'.2
     subst hC01
     obtain⟨fI,hex⟩:=kt.mp i1
     obtain⟨hx1,hx2,hx3,hx4⟩:=hx
     obtain⟨hloc,hres⟩:=C.lo hn.2
     have goalA:=C.hAA
     rw[C.en hn.2] at goalA
     rw[goalA]
     refine sU (KF:=S.K) x1.ok.B F' N C.XB C.TB hxe h1 hp hx3 (TO.exs _ _ hex).1 hx4 (TO.cat _ _ i2) (fun h' Tt ts g' tk tt B' X' T' F2 N2 l3 ne hr=>?_) C.ef C.K hloc C.gl (C.kd hn.1) (C.kd hx1) hx2
     rw[<-goalA] at*
     have Ch:=C.held a
     have hle:J1.le (J1.ext st1.nx Tt):=by
      obtain⟨_,_,_,_,R,_⟩:=x1.ok.fr
      exact R.grow_le Tt
     have x2:=fin h' Tt ts g' tk _ (bI st1.lo n (.ref k)) tt B' F2 N2 l3 ne hr (fun y w e=>by
      rw[l7] at e
      by_cases hxy:av n y=true
      ·rw[if_pos hxy] at e
       cases e
       refine⟨.ref a,?_,⟨a,hle _ _ hka,rfl⟩⟩
       rw[<-aH hxy]
       unfold seen
       rw[hres _ hn.1]
       exact if_pos rfl
      ·rw[if_neg hxy] at e
       obtain⟨w',hw,hr⟩:=hl.le hle y w e
       refine⟨w',?_,hr⟩
       rw[lJ (fun q=>hxy (by rw[C.S.inj _ _ q];exact Hu _))]
       exact hw)
     have hka2:=hle _ _ hka
     have lo1:=(gq en).1
     have okh:Ok S (cx.held a) g' {s1 with heap:=h',toks:=tk} (J1.ext st1.nx Tt) {st2 with hd:=some k,lo:=bI st2.lo n (.ref k)}:=by
      rw[lo1]
      exact⟨⟨x2.ok.B.stack,x2.ok.B.stays,x2.ok.B.frames⟩,(let⟨m,n,a,b,c,d⟩:=x2.ok.fr;⟨m,n,a,b,c,d⟩),⟨a,hka2,rfl⟩,x2.ok.dp,x2.ok.un⟩
     refine G.b S.FN sc (cx.held a) Ch _ _ hh _ _ g' _ _ _ okh ?_
     have x12:=x1.trans x2
     cases e4:F.b h {st2 with hd:=some k,lo:=bI st2.lo n (.ref k)} with
     |none=>rw[e4] at hPh;exact hPh.elim
     |some o=>
      obtain⟨o,st3⟩:=o
      rw[e4] at hPh
      cases o with
      |ok f=>
       intro J3 g3 s3 f' x3 hf
       have ok3:=x3.ok.unheld hnone
       refine mw C ok3 hn _ fun s4 x4=>?_
       exact hPh J3 g3 s4 f' ⟨Rho.le_trans x12.le x3.le,Go x12.turn x3.turn,(x12.same.trans x3.same).trans x4.same,x4.ok⟩ hf
      |err j=>
       have hPh:Post S cx VF Q E J g s (oget (am st3 j) fun st3=>oget (am {st3 with lo:=gJ st3.lo n} j) fun st4=>some (.err j,{st4 with hd:=none})):=hPh
       obtain⟨st4,e5,hPh⟩:hPh:=hPh.oget
       ·obtain⟨st5,e6,hPh⟩:hPh:=hPh.oget
        ·skip
         intro J3 g3 s3 aj x3 hj
         show fm _ (cx.held a).A (noteFrame _ (cx.held a).env) _ _ _
         refine gi Ch x3.ok hj e5 fun J4 g4 s4 x4 hj4=>?_
         have tb4:da st4 j=true:=kT x3.ok hj e5
         refine mw Ch x4.ok hn _ fun s5 x5=>?_
         refine mx Ch x5.ok hj4 tb4 fun s6 x6=>?_
         show fm _ (cx.held a).A (noteFrame _ (cx.held a).env) _ _ _
         refine gi Ch x6.ok hj4 e6 fun J7 g7 s7 x7 hj7=>?_
         have tb7:da st5 j=true:=kT x6.ok hj4 e6
         have xx:=(((x3.trans x4).trans x5).trans x6).trans x7
         have ok7:=xx.ok.unheld hnone
         refine fN (st:={st5 with hd:=none}) C ok7 hj7 tb7 fun s8 x8=>?_
         exact hPh J7 g7 s8 aj ⟨Rho.le_trans x12.le xx.le,Go x12.turn xx.turn,(x12.same.trans xx.same).trans x8.same,x8.ok⟩ hj7
   obtain⟨x,e1,hP1⟩:Post:=Post.oget (show Post S cx VF Q E J g s (oget (lk st1.led k) fun x=>oget (lu x) fun p=>oget (am st1 k) fun st2=>tryO.handO T F Cc n h st p.2.1 k st2) from hP')
   obtain⟨p,e3,hP2⟩:hP1:=hP1.oget
   obtain⟨st2,e2,hP3⟩:hP2:=hP2.oget
   induction dZ e3 using ExcA.casesOn with
   |exd C0 d t=>exact main C0 st2 ⟨d,t,.inl e1⟩ e2 hP3
   |exc C0 d t=>exact main C0 st2 ⟨d,t,.inr e1⟩ e2 hP3
theorem w8(G:Good S.toCore T F)(TO:TbOk S.toCore T)(C:CxOk S cx sc){b:List IS}{Cc n:Nat}{h:List IS}{y z:List Stmt}{hd:Stmt}{p' p'' p:Pos}{x:Nat}(hb:All2 (MS S.toCore sc) b y)(hx:vN S.toCore sc x Cc)(hn:ae sc (S.nm n))(hh:All2 (MS S.toCore sc) h (hd::z)):
  Sat S cx VF (exec (.Try y [.ExceptHandler (some (.Name (S.nm x) p')) (some (S.nm n)) (hd::z) p''] [] [] p) cx.env) st (fc S.toCore T F (.try_ b Cc n h) st):=
 mt G TO C (G.b S.FN sc cx C _ _ hb st) hx hn hh
end
end Mine
end
section
open PySem PySem.W PySem.Spec PySem.Calls PyProof.Rows
namespace Mine
noncomputable abbrev Sta.pin(S:Sta)(j:Nat)(o:Obj):Sta:=⟨S.toCore,fun i o'=>if i=j then o'=o else S.FN i o'⟩
section
variable{S:Sta}{T:Tb}{F:Fs}{cx:Cx}{sc:Scope}{st:St}
variable{J:Rho}{g:Heap}{s:Shared}{Q:Value->Shared->Prop}{E:Value->Shared->Prop}{QU:Unit->Shared->Prop}{QB:Bool->Shared->Prop}{QF:Flow->Shared->Prop}
theorem gT{FN FN':Nat->Obj->Prop}{j:Nat}(h:∀i,i≠j->FN i=FN' i){led:List (Nat×AO)}{news:Led}(hp:∀p∈led,p.1≠j)(x:All2 (ER S.prog S.w S.nm S.dfi FN J) led news):All2 (ER S.prog S.w S.nm S.dfi FN' J) led news:=by
 induction x with
 |nil=>exact .nil
 |cons a _ ih=>exact .cons ⟨a.1,OR.key (fun ι=>by rw[h _ (hp _ (.head _))]) a.2.1,a.2.2⟩ (ih fun p hq=>hp p (.tail _ hq))
theorem gC{FN:Nat->Obj->Prop}{j:Nat}{o:Obj}:∀i,i≠j->(fun i o₂=>if i=j then o₂=o else FN i o₂) i=FN i:=fun i hi=>by
 funext o₂
 dsimp only
 rw[if_neg hi]
theorem ER.split{FN:Nat->Obj->Prop}{led:List (Nat×AO)}{news:Led}{k:Nat}{x:AO}(h:All2 (ER S.prog S.w S.nm S.dfi FN J) led news)(e:lk led k=some x):
  ∃l1 l2 n1 n2 a o,led=l1++(k,x)::l2/\Mine.del led k=l1++l2/\news=n1++(a,o)::n2/\All2 (ER S.prog S.w S.nm S.dfi FN J) l1 n1/\All2 (ER S.prog S.w S.nm S.dfi FN J) l2 n2/\ER S.prog S.w S.nm S.dfi FN J (k,x) (a,o):=
 let⟨l1,l2,n1,n2,q,h1,h2,_,h4,h5,h6,h7⟩:=h.cut e
 ⟨l1,l2,n1,n2,q.1,q.2,h1,h4,h2,h5,h6,h7⟩
theorem uF{j:Nat}{led:List (Nat×AO)}(h:aa j led=true):lk led j=some .fn:=by
 unfold aa at h
 cases e:lk led j with
 |none=>rw[e] at h;cases h
 |some x=>rw[e] at h;cases x<;>first|rfl|exact dL h
theorem ie{FN:Nat->Obj->Prop}{j:Nat}{a:Addr}(hj:J j=some a):∀{l:List (Nat×AO)} {n:Led},All2 (ER S.prog S.w S.nm S.dfi FN J) l n->(∀z∈n,z.1≠a)->∀p∈l,p.1≠j
 |_,_,h,hn,p,hp,e=>by
  obtain⟨q,hq,r⟩:=h.mem hp
  refine hn q hq ?_
  have:=r.1
  rw[e,hj] at this
  exact(bd this).symm
inductive PinS(S:Sta)(J:Rho)(st:St)(j:Nat)(o:Obj)(news:Led):Prop
 |mk (l1 l2:List (Nat×AO)) (n1 n2:Led) (I:Addr) (h:J j=some I) (e:st.led=l1++(j,.fn)::l2) (d:Mine.del st.led j=l1++l2) (en:news=n1++(I,o)::n2) (n:(I==sysModules)=false) (m1:∀z∈n1,z.1≠I) (m2:∀z∈n2,z.1≠I)
  (r:∀FN':Nat->Obj->Prop,(∀i,i≠j->FN' i=S.FN i)->All2 (ER S.prog S.w S.nm S.dfi FN' J) l1 n1/\All2 (ER S.prog S.w S.nm S.dfi FN' J) l2 n2):PinS S J st j o news
theorem gm{j:Nat}{o:Obj}{news:Led}(R:(S.pin j o).Rel J st news)(hp:aa j st.led=true):PinS S J st j o news:=by
 obtain⟨l1,l2,n1,n2,a,oo,q1,q2,q3,q4,q5,q6⟩:=ER.split (S:=S) R.er (uF hp)
 obtain⟨hne1,hne2⟩:=gr (q3▸R.nd)
 have h3:(if j=j then oo=o else S.FN j oo):=q6.2.1
 rw[if_pos rfl] at h3
 subst h3
 refine⟨l1,l2,n1,n2,a,q6.1,q1,q2,q3,q6.2.2,hne1,hne2,fun FN' h=>⟨gT (S:=S) (fun i hi=>?_) (ie (S:=S) q6.1 q4 hne1) q4,gT (S:=S) (fun i hi=>?_) (ie (S:=S) q6.1 q5 hne2) q5⟩⟩
 all_goals rw[h i hi];exact gC i hi
theorem mem_mid{α:Type}{a:α}{n1 n2:List α}{z:α}(h:z∈n1++n2):z∈n1++a::n2:=by
 rcases nl.mp h with h|h
 ·exact r6 _ h
 ·exact ev _ (.tail _ h)
theorem jZ{g:Heap}{L:Addr}{h h':Heap}{m:Str->Option Value}{I:Addr}(F':Fr g L h m)(hL:I≠L)(hg:g.get? I=none)(keep:∀b q,b≠I->h.get? b=some q->h'.get? b=some q):Fr g L h' m:=by
 obtain⟨oL,es,ep,hL',r⟩:=F'.ns
 exact⟨⟨oL,es,ep,keep _ _ (Jo hL) hL',r⟩,fun b q e=>keep b q (fun z=>by rw[z,hg] at e;cases e) (F'.keep b q e),F'.above⟩
theorem Ok.move{j:Nat}{o o':Obj}{I:Addr}{h':Heap}{tk:Nat}(hk:Ok (S.pin j o) cx g s J st)(hI:J j=some I)(hp:aa j st.led=true)(hL:I≠cx.L)(hg:g.get? I=none)(ho:h'.get? I=some o')(keep:∀b q,b≠I->s.heap.get? b=some q->h'.get? b=some q):
  Ok (S.pin j o') cx g {s with heap:=h',toks:=tk} J st:=by
 obtain⟨m,news,F',N,R,hl⟩:=hk.fr
 obtain⟨l1,l2,n1,n2,a,q0,q1,q2,q3,q4,hne1,hne2,q5⟩:=gm R hp
 rw[hI] at q0
 cases q0
 obtain⟨q6,q7⟩:=q5 (S.pin j o').FN fun i hi=>gC i hi
 have nd:=R.nd
 rw[q3,wE,mo] at nd
 refine⟨hk.B,⟨m,n1++(I,o')::n2,jZ F' hL hg keep,fun q hq=>?_,⟨R.hd,R.hb,R.hi,by rw[wE,mo];exact nd,?_⟩,hl⟩,hk.hd,hk.dp,hk.un⟩
 ·rcases nl.mp hq with hq|hq
  ·have:=N q (by rw[q3];exact mem_mid (r6 _ hq))
   exact⟨keep _ _ (hne1 q hq) this.1,this.2⟩
  ·rcases eq.mp hq with rfl|hq
   ·exact⟨ho,hL,hg⟩
   ·have:=N q (by rw[q3];exact mem_mid (ev _ hq))
    exact⟨keep _ _ (hne2 q hq) this.1,this.2⟩
 ·rw[q1]
  exact q6.append (.cons ⟨hI,(by show(if j=j then o'=o' else S.FN j o');rw[if_pos rfl]),q4⟩ q7)
theorem Ok.pin_at{j:Nat}{o:Obj}(hk:Ok (S.pin j o) cx g s J st)(hp:aa j st.led=true):∃I,J j=some I/\s.heap.get? I=some o/\I≠cx.L/\g.get? I=none:=by
 obtain⟨m,news,F',N,R,hl⟩:=hk.fr
 obtain⟨l1,l2,n1,n2,I,q0,q1,q2,q3,q4⟩:=gm R hp
 exact⟨I,q0,N (I,o) (by rw[q3];simp)⟩
theorem Ok.drop{j:Nat}{o:Obj}{I:Addr}{h':Heap}{tk:Nat}(hk:Ok (S.pin j o) cx g s J st)(hI:J j=some I)(hp:aa j st.led=true)(hL:I≠cx.L)(hg:g.get? I=none)(keep:∀b q,b≠I->s.heap.get? b=some q->h'.get? b=some q):
  Ok S cx g {s with heap:=h',toks:=tk} J {st with led:=Mine.del st.led j}:=by
 obtain⟨m,news,F',N,R,hl⟩:=hk.fr
 obtain⟨l1,l2,n1,n2,a,q0,q1,q2,q3,q4,hne1,hne2,q5⟩:=gm R hp
 rw[hI] at q0
 cases q0
 obtain⟨q6,q7⟩:=q5 S.FN fun i hi=>rfl
 have sub:Ih (n1++n2) news:=by
  rw[q3]
  exact Kq (KQ n1) (IA _ _)
 refine⟨hk.B,⟨m,n1++n2,jZ F' hL hg keep,fun q hq=>?_,⟨R.hd,R.hb,R.hi,cR sub R.nd,by show All2 _ (Mine.del st.led j) _;rw[q2];exact q6.append q7⟩,hl⟩,hk.hd,hk.dp,hk.un⟩
 have:=N q (sub.subset hq)
 refine⟨keep _ _ ?_ this.1,this.2⟩
 rcases nl.mp hq with hq|hq
 ·exact hne1 q hq
 ·exact hne2 q hq
theorem Ok.unpin{j:Nat}{o:Obj}(hk:Ok (S.pin j o) cx g s J st)(hp:aa j st.led=true):Ok S cx g s J {st with led:=Mine.del st.led j}:=by
 obtain⟨I,h1,h2,h3,h4⟩:=hk.pin_at hp
 exact hk.drop (h':=s.heap) (tk:=s.toks) h1 hp h3 h4 fun b q ι e=>e
theorem Ok.setPin(C:CxOk S cx sc)(hk:Ok S cx g s J st){I:Addr}{o:Obj}{h':Heap}{tk:Nat}{m:Str->Option Value}{news:Led}(R:S.Rel J st news)(hl:Locs S J st.lo (seen cx.res m))(F':Fr g cx.L h' m)(N':News g cx.L h' ((I,o)::news))(l:∀q∈news,q.1<I):
  Ok (S.pin st.nx o) cx g {s with heap:=h',toks:=tk} (J.ext st.nx I) (nE st):=by
 have R1:(S.pin st.nx o).Rel J st news:=⟨R.hd,R.hb,R.hi,R.nd,gT (S:=S) (fun i hi=>(gC i hi).symm) (fun p hp e=>by
  obtain⟨q,hq,r⟩:=R.er.mem hp
  have:=r.1
  rw[e,R.hi _ (wh _)] at this
  cases this) R.er⟩
 have R2:=R1.grow (x:= .fn) (o:=o) l (cM C.S.sm (hk.inG C) N' (.head _)) (by show(if st.nx=st.nx then o=o else _);rw[if_pos rfl])
 have hle:J.le (J.ext st.nx I):=R.grow_le I
 refine⟨hk.B,⟨m,_,F',N',R2,fun y v e=>let⟨v',a,b⟩:=hl y v e;⟨v',a,b.le hle⟩⟩,?_,hk.dp,hk.un⟩
 have:=hk.hd
 revert this
 show(match st.hd with|none=>_|some k=>_)->(match st.hd with|none=>_|some k=>_)
 cases st.hd with
 |none=>exact id
 |some k=>exact fun⟨e,a,b⟩=>⟨e,hle _ _ a,b⟩
end
section
variable{S:Sta}{T:Tb}{F:Fs}{cx:Cx}{sc:Scope}{st:St}
variable{J:Rho}{g:Heap}{s:Shared}{Q:Value->Shared->Prop}{E:Value->Shared->Prop}{QU:Unit->Shared->Prop}{QB:Bool->Shared->Prop}{QF:Flow->Shared->Prop}
theorem CxOk.pin(C:CxOk S cx sc)(j:Nat)(o:Obj):CxOk (S.pin j o) cx sc:={C with}
structure NextA(S:Sta)(cx:Cx)(I:Addr)(ItO:Nat->Obj->Prop)(get:Nat->St->Option (Option Value))(i:Nat)(J:Rho)(s:Shared)(st:St):Prop where
 item:∀(Q:Option Value->Shared->Prop) (E:Value->Shared->Prop) v,get i st=some (some v)->(∀v' h' tk o',VR J v v'->h'.get? I=some o'->ItO (i+1) o'->(∀b q,b≠I->s.heap.get? b=some q->h'.get? b=some q)->Q (some v') {s with heap:=h',toks:=tk})->fm (model S.prog S.w) cx.A (pyNext (.ref I)) Q E s
 stop:∀(Q:Option Value->Shared->Prop) (E:Value->Shared->Prop),get i st=some none->(∀h' tk,(∀b q,b≠I->s.heap.get? b=some q->h'.get? b=some q)->Q none {s with heap:=h',toks:=tk})->fm (model S.prog S.w) cx.A (pyNext (.ref I)) Q E s
noncomputable def eS(S:Sta)(cx:Cx)(J0:Rho)(j:Nat)(I:Addr)(ItO:Nat->Obj->Prop)(get:Nat->St->Option (Option Value)):Prop:=
 ∀i J g s st o,J0.le J->Ok (S.pin j o) cx g s J st->J j=some I->aa j st.led=true->s.heap.get? I=some o->ItO i o->NextA S cx I ItO get i J s st
inductive FT(S:Core)(j x:Nat)(b:List IS)(get:Nat->St->Option (Option Value))(n0:Nat):Nat->Nat->St->AF->St->Prop
 |done {n i st}:aa j st.led=true->get i st=some none->FT S j x b get n0 (n+1) i st .next st
 |next {n i st v fl st2 f st3 r st'}:aa j st.led=true->get i st=some (some v)->JB S b {st with lo:=bI st.lo x v} (some (.ok fl,st2))->(fl= .next\/fl= .cont)->Weak S f st2 st3->(∀k,k<n0->f k=k)->FT S j x b get n0 n (i+1) st3 r st'->FT S j x b get n0 (n+1) i st r st'
 |brk {n i st v st2}:aa j st.led=true->get i st=some (some v)->JB S b {st with lo:=bI st.lo x v} (some (.ok .brk,st2))->FT S j x b get n0 (n+1) i st .next st2
 |ret {n i st v w st2}:aa j st.led=true->get i st=some (some v)->JB S b {st with lo:=bI st.lo x v} (some (.ok (.ret w),st2))->FT S j x b get n0 (n+1) i st (.ret w) st2
theorem FT.pin{S:Core}{j x:Nat}{b:List IS}{get:Nat->St->Option (Option Value)}{n0 n i:Nat}{st st':St}{r:AF}(h:FT S j x b get n0 n i st r st'):aa j st.led=true:=by induction h using FT.casesOn<;>assumption
theorem qo(G:Good S.toCore T F){j x:Nat}{b:List IS}{get:Nat->St->Option (Option Value)}{n0:Nat}{n:Nat}:∀{i:Nat} {st st':St} {r:AF},turns F j x b get n i st=some (.ok r,st')->FT S.toCore j x b get n0 n i st r st':=by
 induction n with
 |zero=>intro i st st' r h;cases h
 |succ n ih=>
  intro i st st' r h
  obtain⟨e1,h1⟩:h:=aM h
  obtain⟨rr,e2,h2⟩:h1:=aC h1
  cases rr with
  |none=>cases h2;exact .done e1 e2
  |some v=>
   obtain⟨o,e3,h3⟩:h2:=aC h2
   have jb:JB S.toCore b {st with lo:=bI st.lo x v} (some o):=fun FN sc cx C y hb=>by rw[<-e3];exact G.b FN sc cx C _ _ hb _
   obtain⟨o,st2⟩:=o
   cases o with
   |err k=>cases h3
   |ok g=>
    cases g with
    |next=>exact .next e1 e2 jb (.inl rfl) Weak.refl (fun ι ι=>rfl) (ih h3)
    |cont=>exact .next e1 e2 jb (.inr rfl) Weak.refl (fun ι ι=>rfl) (ih h3)
    |brk=>cases h3;exact .brk e1 e2 jb
    |ret w=>cases h3;exact .ret e1 e2 jb
theorem fJ{J0 J1:Rho}{n0:Nat}{f:Nat->Nat}(hlow:∀k,n0<=k->J0 k=none)(h:J0.le J1)(hf:∀k,k<n0->f k=k):J0.le (fun k=>J1 (f k)):=by
 intro k a e
 have:k<n0:=KZ fun z=>by rw[hlow k z] at e;cases e
 show J1 (f k)=some a
 rw[hf k this]
 exact h _ _ e
noncomputable def Fe(S:Sta)(cx:Cx)(j:Nat)(R:Hp->Shared->Prop)(Js:Rho)(g:Heap)(s:Shared)(f:AF)(st':St):Prop:=
 ∀J' g' s' fl,Js.le J'->Hd (cx.outer.filterMap (·.frame)) g g'->Same s s'->Ok S cx g' s' J' {st' with led:=Mine.del st'.led j}->VF J' f fl->R (.ok fl) s'
inductive FInv(S:Sta)(cx:Cx)(x:Nat)(b:List IS)(j:Nat)(get:Nat->St->Option (Option Value))(n0:Nat)(ItO:Nat->Obj->Prop)(I:Addr)(f:AF)(st':St)(Js:Rho)(g:Heap)(s:Shared)(n:Nat)(s1:Shared):Prop
 |mk (i:Nat) (J1:Rho) (g1:Heap) (st1:St) (o:Obj) (hle:Js.le J1) (ht:Hd (cx.outer.filterMap (·.frame)) g g1) (hs:Same s s1) (hk:Ok (S.pin j o) cx g1 s1 J1 st1) (ho:s1.heap.get? I=some o) (hit:ItO i o) (e:FT S.toCore j x b get n0 n i st1 f st'):FInv S cx x b j get n0 ItO I f st' Js g s n s1
theorem wa(C:CxOk S cx sc){x:Nat}{b:List IS}{y:List Stmt}{p':Pos}(hx:ae sc (S.nm x))(hb:All2 (MS S.toCore sc) b y){j:Nat}{I:Addr}{ItO:Nat->Obj->Prop}{get:Nat->St->Option (Option Value)}{J0:Rho}(hn:eS S cx J0 j I ItO get){R:Hp->Shared->Prop}
  {n0 n i:Nat} {o:Obj} {f:AF} {st':St} {Js:Rho} (h0:J0.le Js) (hlow:∀k,n0<=k->Js k=none) (hJs:Js.le J) (hk:Ok (S.pin j o) cx g s J st) (hI:Js j=some I) (hit:ItO i o) (ho:s.heap.get? I=some o) (e:FT S.toCore j x b get n0 n i st f st') (hp':aa j st'.led=true)
  (hR:Fe S cx j R Js g s f st'):
  Hj (model S.prog S.w) cx.A (.forLoop (.Name (S.nm x) p') (.ref I) y [] cx.env) R s:=by
 refine codeAny_forLoop (FInv S cx x b j get n0 ItO I f st' Js g s) ?_ n ⟨i,J,g,st,o,hJs,Cn,Same.rfl' _,hk,ho,hit,e⟩ (by intro v;rfl)
 rintro n s1 ⟨i,J1,g1,st1,o,hle,ht,hs,hk,ho,hit,e⟩
 have hpin:=e.pin
 have hI1:=hle _ _ hI
 obtain⟨I2,hI2,ho2,hIL,hIg⟩:=hk.pin_at hpin
 rw[hI1] at hI2
 cases hI2
 have hnx:=hn i J1 g1 s1 st1 o (Rho.le_trans h0 hle) hk hI1 hpin ho hit
 induction e with
 |done e1 e2=>
  refine hnx.stop _ _ e2 fun h' tk keep=>?_
  dsimp only
  refine HQ ?_
  exact hR J1 g1 _ .next hle ht ⟨hs.gens,hs.drawn,hs.os⟩ (hk.drop hI1 hpin hIL hIg keep) .next
 |next e1 e2 hJ hfl W hf hT ih=>
  refine hnx.item _ _ _ e2 fun v' h' tk o' hv ho' hit' keep=>?_
  have hk1:=hk.move (tk:=tk) hI1 hpin hIL hIg ho' keep
  refine Ho ?_
  refine dQ (C.pin j o') hk1 hx hv fun s2 x2=>?_
  refine hJ (S.pin j o').FN sc cx (C.pin j o') _ hb J1 g1 s2 _ _ x2.ok fun J3 g3 s3 fl x3 hf3=>?_
  have hle3:=fJ hlow (Rho.le_trans hle x3.le) hf
  have hk3:=x3.ok.weak W
  obtain⟨I3,q1,q2,_⟩:=hk3.pin_at hT.pin
  cases (hle3 _ _ hI).symm.trans q1
  have fin:=(⟨_,Db _,_,_,g3,_,o',hle3,Go ht x3.turn,(hs.trans ((show Same s1 {s1 with heap:=h',toks:=tk} from⟨rfl,rfl,rfl⟩).trans x2.same)).trans x3.same,hk3,q2,hit',hT⟩:∃m,m<_+1/\FInv S cx x b j get n0 ItO I _ _ Js g s m s3)
  rcases hfl with rfl|rfl<;>cases hf3<;>exact fin
 |brk e1 e2 hJ=>
  refine hnx.item _ _ _ e2 fun v' h' tk o' hv ho' hit' keep=>?_
  have hk1:=hk.move (tk:=tk) hI1 hpin hIL hIg ho' keep
  refine Ho ?_
  refine dQ (C.pin j o') hk1 hx hv fun s2 x2=>?_
  refine hJ (S.pin j o').FN sc cx (C.pin j o') _ hb J1 g1 s2 _ _ x2.ok fun J3 g3 s3 fl x3 hf3=>?_
  cases hf3
  exact hR J3 g3 s3 .next (Rho.le_trans hle x3.le) (Go ht x3.turn) ((hs.trans ((show Same s1 {s1 with heap:=h',toks:=tk} from⟨rfl,rfl,rfl⟩).trans x2.same)).trans x3.same) (x3.ok.unpin hp') .next
 |ret e1 e2 hJ=>
  refine hnx.item _ _ _ e2 fun v' h' tk o' hv ho' hit' keep=>?_
  have hk1:=hk.move (tk:=tk) hI1 hpin hIL hIg ho' keep
  refine Ho ?_
  refine dQ (C.pin j o') hk1 hx hv fun s2 x2=>?_
  refine hJ (S.pin j o').FN sc cx (C.pin j o') _ hb J1 g1 s2 _ _ x2.ok fun J3 g3 s3 fl x3 hf3=>?_
  cases hf3 with
  |ret hw=>exact hR J3 g3 s3 _ (Rho.le_trans hle x3.le) (Go ht x3.turn) ((hs.trans ((show Same s1 {s1 with heap:=h',toks:=tk} from⟨rfl,rfl,rfl⟩).trans x2.same)).trans x3.same) (x3.ok.unpin hp') (.ret hw)
theorem dw(C:CxOk S cx sc){x:Nat}{b:List IS}{y:List Stmt}{p':Pos}(hx:ae sc (S.nm x))(hb:All2 (MS S.toCore sc) b y){ItO:Nat->Obj->Prop}{get:Nat->St->Option (Option Value)}{n:Nat}{f:AF}{st2:St}
  (hk:Ok S cx g s J st) {o:Obj} {h':Heap} {m:Str->Option Value} {news:Led} (R:S.Rel J st news) (hl:Locs S J st.lo (seen cx.res m)) {I:Addr} (F':Fr g cx.L h' m) (N':News g cx.L h' ((I,o)::news)) (l:∀q∈news,q.1<I) (hit:ItO 0 o) (hn:eS S cx J st.nx I ItO get)
  {f0:Nat->Nat} {sta:St} (W0:Weak S.toCore f0 (nE st) sta) (hf0:∀k,k<st.nx+1->f0 k=k) (e:FT S.toCore st.nx x b get (st.nx+1) n 0 sta f st2) (hp:aa st.nx st2.led=true) (hP:Post S cx VF QF E J g s (some (.ok f,{st2 with led:=Mine.del st2.led st.nx}))):
  Hj (model S.prog S.w) cx.A (.forLoop (.Name (S.nm x) p') (.ref I) y [] cx.env) (fun r s'=>match r with| .ok f=>QF f s'| .error e=>cameBackBy (model S.prog S.w) cx.A cx.env E e s') {s with heap:=h'}:=by
 have hk1:=hk.setPin (tk:=s.toks) C R hl F' N' l
 have hle0:J.le (J.ext st.nx I):=R.grow_le I
 have hlow0:∀k,st.nx+1<=k->J.ext st.nx I k=none:=fun k hk=>by
  unfold Rho.ext
  rw[if_neg (Ig hk)]
  exact R.hi k (Hh hk)
 have hle1:=fJ hlow0 (Rho.le_refl _) hf0
 refine wa C hx hb hn hle0 hlow0 hle1 (hk1.weak W0) (Rho.ext_at _ _ _) hit (N' _ (.head _)).1 e hp fun J' g' s' fl q1 q2 q3 q4 q5=>?_
 exact hP J' g' s' fl ⟨Rho.le_trans hle0 q1,q2,(show Same s {s with heap:=h'} from⟨rfl,rfl,rfl⟩).trans q3,q4⟩ q5
set_option tactic.hygienic true in
theorem kW(C:CxOk S cx sc)(hh:cx.A.handled=none){j k:Nat}{I ax:Addr}(hne:ax≠I)(hax:J k=some ax):
  eS S cx J j I (fun i o=>∀h:Heap,h.get? I=some o->h.IsListIter I ax i) (bu S.toCore k):=by
 intro i J1 g1 s1 st1 o hle hk hI hp ho hit
 have main:∀r,bu S.toCore k i st1=some r->∃vs vs',rd S.toCore st1 k=some (.lst vs)/\i<=vs.length/\r=vs[i]?/\s1.heap.IsList ax vs'.toArray/\All2 (VR J1) vs vs':=by
  intro r hr
  obtain⟨x,e1,hr1⟩:hr:=aC hr
  obtain⟨vs,e3,hr2⟩:hr1:=aC hr1
  obtain⟨e2,hr3⟩:hr2:=aM hr2
  cases b7 e3
  cases hr3
  obtain⟨a,q,h1,h2,⟨vs',n,rfl,hvs⟩,h4⟩:=tn (S:=S.pin j o) (C.pin j o) hk e1
  have:a=ax:=by have:=hle _ _ hax;rw[h1] at this;exact bd this
  subst this
  exact⟨vs,vs',e1,al e2,rfl,⟨_,h2,rfl,n,rfl⟩,hvs⟩
 refine⟨fun Q E=>?_,fun Q E=>?_⟩
 ·intro v hv hQ
  obtain⟨vs,vs',e1,e2,e3,hl,hvs⟩:=main _ hv
  obtain⟨v',hv',hr⟩:=hvs.get e3.symm
  have hi:i<vs'.toArray.size:=by
   rw[pr]
   exact(He.mp hv').1
  refine(KB (prog:=S.prog) (w:=S.w) hh I ax hne vs'.toArray).item i s1 Q E hi ⟨hit _ ho,hl⟩ fun w h' tk hw st' keep=>?_
  have:w=v':=by
   have hw:vs'.toArray[i]?=some w:=hw
   rw[List.getElem?_toArray,hv'] at hw
   exact(bd hw).symm
  subst this
  obtain⟨o',ho',r1,r2⟩:=st'.1
  exact hQ w h' tk o' hr ho' (fun h2 e=>⟨o',e,r1,r2⟩) fun b q hb=>keep b q (by simpa using hb)
 ·intro hv hQ
  obtain⟨vs,vs',e1,e2,e3,hl,hvs⟩:=main _ hv
  have hi:i=vs'.toArray.size:=by
   rw[pr,<-hvs.length]
   have:=JA.mp e3.symm
   omega
  subst hi
  exact(KB (prog:=S.prog) (w:=S.w) hh I ax hne vs'.toArray).done s1 Q E ⟨hit _ ho,hl⟩ fun h' tk keep=>hQ h' tk fun b q hb=>keep b q (by simpa using hb)
theorem km:∀(l:List Nat) (i:Nat),(chars l)[i]?=(l[i]?).map fun c=>HL ⟨#[c]⟩ 0
 | [],_=>rfl
 |c::r,0=>rfl
 |c::r,i+1=>by
  show(chars r)[i]?=_
  rw[km r i]
  simp
theorem nN{j:Nat}{I:Addr}{t:Str}{ty:String}{u:Tok}(W:Walks S.prog S.w cx.A I [I] [I] t.cps.size (SignAt t) (fun i h=>h.IsStrIter I ty t u i)):
  eS S cx J j I (fun i o=>∀h:Heap,h.get? I=some o->h.IsStrIter I ty t u i) (fun i ι=>match gy i t.cps.size with|true=>some (chars t.cps.toList)[i]?|false=>none):=by
 intro i J1 g1 s1 st1 o hle hk hI hp ho hit
 have get:∀r,(match gy i t.cps.size with|true=>some (chars t.cps.toList)[i]?|false=>none)=some r->i<=t.cps.size/\r=(t.cps[i]?).map fun c=>HL ⟨#[c]⟩ 0:=by
  intro r hr
  cases z:gy i t.cps.size with
  |false=>rw[z] at hr;cases hr
  |true=>
   rw[z] at hr
   have hr:=bd hr
   rw[km,Array.getElem?_toList] at hr
   exact⟨al z,hr.symm⟩
 refine⟨fun Q E=>?_,fun Q E=>?_⟩
 ·intro v hv hQ
  obtain⟨h1,h2⟩:=get _ hv
  cases z:t.cps[i]? with
  |none=>rw[z] at h2;cases h2
  |some c=>
   rw[z] at h2
   cases h2
   have hi:i<t.cps.size:=(Array.getElem?_eq_some_iff.mp z).1
   refine W.item i s1 Q E hi (hit _ ho) fun w h' tk hw st' keep=>?_
   obtain⟨c',u',hc,rfl⟩:=hw
   rw[z] at hc
   cases hc
   obtain⟨o',ho',r1,r2⟩:=st'
   exact hQ _ h' tk o' (VR.str_ _ _ _) ho' (fun h2 e=>⟨o',e,r1,r2⟩) fun b q hb=>keep b q (by simpa using hb)
 ·intro hv hQ
  obtain⟨h1,h2⟩:=get _ hv
  have hi:i=t.cps.size:=by
   cases z:t.cps[i]? with
   |none=>have:=Array.getElem?_eq_none_iff.mp z;omega
   |some c=>rw[z] at h2;cases h2
  subst hi
  exact W.done s1 Q E (hit _ ho) fun h' tk keep=>hQ h' tk fun b q hb=>keep b q (by simpa using hb)
end
section
variable{S:Sta}{T:Tb}{F:Fs}{cx:Cx}{sc:Scope}{st:St}
variable{J:Rho}{g:Heap}{s:Shared}{Q:Value->Shared->Prop}{E:Value->Shared->Prop}{QU:Unit->Shared->Prop}{QB:Bool->Shared->Prop}{QF:Flow->Shared->Prop}
theorem jJ{j:Nat}{I:Addr}{n:Nat}(W:Walks S.prog S.w cx.A I [I] [I] n (fun i v=>∃t,v= .int (0+(i:Int)*1) t) (fun i h=>Ji h I (0+(i:Nat)*1) ((n:Int)-(i:Nat)) 1)):
  eS S cx J j I (fun i o=>∀h:Heap,h.get? I=some o->Ji h I (0+(i:Nat)*1) ((n:Int)-(i:Nat)) 1) (aU n):=by
 intro i J1 g1 s1 st1 o hle hk hI hp ho hit
 have get:∀r,aU n i st1=some r->i<=n/\r=if i<n then some (.int i 0) else none:=by
  intro r hr
  unfold aU at hr
  cases z:gy i n with
  |false=>rw[z] at hr;cases hr
  |true=>
   rw[z] at hr
   have hr:=bd hr
   refine⟨al z,?_⟩
   cases z2:u8 i n with
   |true=>rw[z2] at hr;rw[if_pos (Je.mp z2)];exact hr.symm
   |false=>rw[z2] at hr;rw[if_neg (fun q=>by rw[Je.mpr q] at z2;cases z2)];exact hr.symm
 refine⟨fun Q E=>?_,fun Q E=>?_⟩
 ·intro v hv hQ
  obtain⟨h1,h2⟩:=get _ hv
  by_cases hi:i<n
  ·rw[if_pos hi] at h2
   cases h2
   refine W.item i s1 Q E hi (hit _ ho) fun w h' tk hw st' keep=>?_
   obtain⟨u,rfl⟩:=hw
   rw[show(0+(i:Int)*1)=i by omega]
   exact hQ _ h' tk _ (VR.int_ _ _ _) st' (fun h2 e=>e) fun b q hb=>keep b q (by simpa using hb)
  ·rw[if_neg hi] at h2;cases h2
 ·intro hv hQ
  obtain⟨h1,h2⟩:=get _ hv
  have hi:i=n:=by
   by_cases hi:i<n
   ·rw[if_pos hi] at h2;cases h2
   ·omega
  subst hi
  exact W.done s1 Q E (hit _ ho) fun h' tk keep=>hQ h' tk fun b q hb=>keep b q (by simpa using hb)
inductive RAns(S:Core)(x:Nat)(b:List IS):Value->St->Out AF->Prop
 |bad {v st}:RAns S x b v st none
 |go {nn t st m f st2 f0 sta}:st.hd=none->ay nn=true->Ij 0 nn=true->Weak S f0 (nE st) sta->(∀k,k<st.nx+1->f0 k=k)->FT S st.nx x b (aU nn.toNat) (st.nx+1) m 0 sta f st2->aa st.nx st2.led=true->RAns S x b (.int nn t) st (some (.ok f,{st2 with led:=Mine.del st2.led st.nx}))
theorem cF{α β:Type}{o:Option α}{f:α->Option β}{P:Option β->Prop}(h0:P none)(h:∀a,o=some a->P (f a)):P (oget o f):=by
 cases o with
 |none=>exact h0
 |some a=>exact h a rfl
theorem gP{β:Type}{c:Bool}{o:Option β}{P:Option β->Prop}(h0:P none)(h:c=true->P o):P (grd c o):=by
 cases c with
 |false=>exact h0
 |true=>exact h rfl
theorem cg{j:Nat}{o:Out AF}{P:Out AF->Prop}(h0:P none)(h:∀f st2,o=some (.ok f,st2)->aa j st2.led=true->P (some (.ok f,{st2 with led:=Mine.del st2.led j}))):P (qW j o):=by
 refine cF (P:=P) h0 fun r e=>?_
 obtain⟨o1,st2⟩:=r
 cases o1 with
 |err=>exact h0
 |ok f=>exact gP (P:=P) h0 fun e3=>h f st2 e e3
theorem wt(G:Good S.toCore T F){x:Nat}{b:List IS}(v:Value)(st:St):RAns S.toCore x b v st (tp F x b v st):=by
 refine gP (P:=RAns S.toCore x b v st) .bad fun e0=>?_
 have e0:=pt.mp e0
 refine cF (P:=RAns S.toCore x b v st) .bad fun n e1=>?_
 obtain⟨t,rfl⟩:=cB e1
 refine gP (P:=RAns S.toCore x b _ st) .bad fun e2=>gP (P:=RAns S.toCore x b _ st) .bad fun e3=>?_
 exact cg .bad fun f st2 e4 e5=> .go e0 e2 e3 Weak.refl (fun ι ι=>rfl) (qo G e4) e5
set_option tactic.hygienic true in
theorem kN(C:CxOk S cx sc){n:Nat}{b:List IS}{x:Expr}{y:List Stmt}{p' q r p:Pos}(hw:bV S.toCore sc "range" (.type "range"))(hs:Mine.nStar x=true)(hb:All2 (MS S.toCore sc) b y)(hn:ae sc (S.nm n)){o1:Out Value}(h1:Sat S cx VR (eval x cx.env) st o1){k:Value->St->Out AF}(hK:∀v st1,o1=some (.ok v,st1)->RAns S.toCore n b v st1 (k v st1)):
  Sat S cx VF (exec (.For (.Name (S.nm n) p') (.Call (.Name (ag "range") q) [x] [] r) y [] p) cx.env) st (Ob o1 k):=by
 intro J g s Q E hk hP
 refine LM ?_ (fun x=>rfl)
 rw[bX rfl]
 refine ca (cL C hk hw ?_)
 refine Hz ?_ (aL hs) rfl
 refine Hn ?_ (aL hs)
 refine Sat.bind h1 hk hP fun v st1 hz J1 g1 s1 v' x1 hv hP1=>?_
 have hA:=hK v st1 hz
 clear hz hK
 refine HK ?_
 revert hP1
 generalize k v st1=o at hA
 intro hP1
 cases hA with
 |bad=>exact hP1.elim
 |go e0 e1 e2 W0 hf0 e3 e4=>
  obtain⟨u,rfl⟩:=hv
  rename_i nn t m0 f st2 f0 sta
  have hh:=x1.ok.hd
  rw[e0] at hh
  have h1:=bb e1
  have h2:=(H4 0 nn).mp e2
  refine Lo ?_
  have hsz:Hc 0 nn 1=nn:=by
   rw[Le]
   split<;>omega
  obtain⟨m,news,F',N,R,hl⟩:=x1.ok.fr
  refine Kt (s:={s1 with heap:=_,toks:=_}) (LC _ _ _ _ _ _ _) (LO (by omega) (by omega) (by omega) (by omega)) ?_
  have N1:=N.push F' ({cls:= .type "range",data:= .fields #[.int 0 s1.toks,.int nn u,.int 1 (s1.toks+1)]}:Obj)
  have F1:=F'.push ({cls:= .type "range",data:= .fields #[.int 0 s1.toks,.int nn u,.int 1 (s1.toks+1)]}:Obj)
  have N2:=N1.push F1 ({cls:= .type "range_iterator",data:= .fields #[rawInt 0,rawInt (Hc 0 nn 1),rawInt 1]}:Obj)
  have F2:=F1.push ({cls:= .type "range_iterator",data:= .fields #[rawInt 0,rawInt (Hc 0 nn 1),rawInt 1]}:Obj)
  have hnn:(nn.toNat:Int)=nn:=by omega
  refine dw C hn hb (s:={s1 with toks:=_}) (x1.ok.toks _) R hl F2 (fun z hz=>N2 z (by
   rcases eq.mp hz with rfl|hz
   ·exact .head _
   ·exact .tail _ (.tail _ hz))) (fun z hz=>?_) ?_ (jJ (Lz hh _ 0 1 nn.toNat)) W0 hf0 e3 e4 (Post.later hP1 (Ext.toks x1.ok _))
  ·have:=r7 (N z hz).1
   rw[IQ]
   exact Jb this
  ·intro h e
   show h.get? _=_
   rw[e,hsz,hnn]
   simp
theorem tW(G:Good S.toCore T F)(C:CxOk S cx sc){n:Nat}{it:IE}{b:List IS}{x:Expr}{y:List Stmt}{p' q r p:Pos}(hw:bV S.toCore sc "range" (.type "range"))(hi:ME S.toCore sc it x)(hb:All2 (MS S.toCore sc) b y)(hn:ae sc (S.nm n)):
  Sat S cx VF (exec (.For (.Name (S.nm n) p') (.Call (.Name (ag "range") q) [x] [] r) y [] p) cx.env) st (fc S.toCore T F (.forR n it b) st):=
 kN C hw hi.nStar hb hn (G.e S.FN sc cx C _ _ hi st) fun v st1 ι=>wt G v st1
theorem uG{o:AO}{es:List (Str×Value)}(h:Ec o=some es):o= .pdict es:=by cases o<;>first|exact bn rfl (heq_of_eq h)|(cases h;rfl)
theorem rp(C:CxOk S cx sc)(hh:cx.A.handled=none){j k:Nat}{I ax:Addr}{od:Obj}{es:List (Str×Value)}{kvs:List (Str×Value)}{ep:Nat}(hjJ:k≠j)(hne:ax≠I)(hax:J k=some ax)(hes:All2 (SR J) es kvs)
  (hat:∀h:Heap,h.get? ax=some od->h.DictAt (tz S.prog S.w) ax kvs ep):
  eS (S.pin k od) cx J j I (fun i o=>∀h:Heap,h.get? I=some o->h.IsKeyIter I ax i kvs.length ep) (gQ k es):=by
 intro i J1 g1 s1 st1 o hle hk hI hp ho hit
 have main:∀r,gQ k es i st1=some r->i<=es.length/\r=(es[i]?).map (fun p=>HL p.1 0)/\s1.heap.DictAt (tz S.prog S.w) ax kvs ep:=by
  intro r hr
  unfold gQ at hr
  obtain⟨ao,e1,hr1⟩:hr:=aC hr
  obtain⟨es',e2,hr2⟩:hr1:=aC hr1
  obtain⟨e3,hr3⟩:hr2:=aM hr2
  cases hr3
  cases uG e2
  obtain⟨m,news,F',N,R,hl⟩:=hk.fr
  obtain⟨a,q,h1,h2,⟨h3,_⟩,h4⟩:=ER.find R.er e1
  have:a=ax:=by have:=hle _ _ hax;rw[h1] at this;exact bd this
  subst this
  have h3:(if k=j then q=o else(if k=k then q=od else S.FN k q)):=h3
  rw[if_neg hjJ,if_pos rfl] at h3
  subst h3
  exact⟨al e3,rfl,hat _ (N _ h2).1⟩
 have W:=Walks.dictKeys (knd:=tz S.prog S.w) (A:=cx.A) hh I ax hne kvs ep
 refine⟨fun Q E=>?_,fun Q E=>?_⟩
 ·intro v hv hQ
  obtain⟨e2,e3,hd⟩:=main _ hv
  cases z:es[i]? with
  |none=>rw[z] at e3;cases e3
  |some p=>
   rw[z] at e3
   cases e3
   obtain⟨p',hp',hr⟩:=hes.get z
   have hi:i<kvs.length:=(He.mp hp').1
   refine W.item i s1 Q E hi ⟨hit _ ho,hd⟩ fun w h' tk hw st' keep=>?_
   obtain⟨kk,xx,hkk,hkey⟩:=hw
   rw[hp'] at hkk
   have hkk:=bd hkk
   obtain⟨u,rfl⟩:=Value.isStrOf_shape hkey
   obtain⟨o',ho',r1,r2⟩:=st'.1
   refine hQ _ h' tk o' ?_ ho' (fun h2 e=>⟨o',e,r1,r2⟩) fun b q hb=>keep b q (by simpa using hb)
   rw[show kk=p.1 from by rw[<-hr.1,hkk]]
   exact VR.str_ _ _ _
 ·intro hv hQ
  obtain⟨e2,e3,hd⟩:=main _ hv
  have hi:i=kvs.length:=by
   rw[<-hes.length]
   cases z:es[i]? with
   |none=>have:=JA.mp z;omega
   |some p=>rw[z] at e3;cases e3
  subst hi
  exact W.done s1 Q E ⟨hit _ ho,hd⟩ fun h' tk keep=>hQ h' tk fun b q hb=>keep b q (by simpa using hb)
theorem pP{FN FN':Nat->Obj->Prop}{k:Nat}{x x':AO}{a:Addr}{od:Obj}(hka:J k=some a)(hF:∀i,i≠k->FN i=FN' i)(hx:OR S.prog S.w S.nm S.dfi (fun ι=>FN k) J x od->OR S.prog S.w S.nm S.dfi (fun ι=>FN' k) J x' od){led:List (Nat×AO)}{news:Led}(h:All2 (ER S.prog S.w S.nm S.dfi FN J) led news)(nd:(news.map (·.1)).Nodup)(e:lk led k=some x)(hm:(a,od)∈news):All2 (ER S.prog S.w S.nm S.dfi FN' J) (up led k x') news:=by
 obtain⟨l1,l2,n1,n2,_,rfl,u,_,h1,h2,r,m1,m2⟩:=ER.cut h nd e hka hm
 exact u x'▸(gT (S:=S) hF (ie (S:=S) hka h1 m1) h1).append (.cons ⟨hka,hx r.2.1,r.2.2⟩ (gT (S:=S) hF (ie (S:=S) hka h2 m2) h2))
inductive FAns(S:Core)(x:Nat)(b:List IS):Value->St->Out AF->Prop
 |bad {v st}:FAns S x b v st none
 |str {t u st m f st2}:st.hd=none->FT S st.nx x b (fun i ι=>match gy i t.cps.size with|true=>some (chars t.cps.toList)[i]?|false=>none) (st.nx+1) m 0 (nE st) f st2->aa st.nx st2.led=true->FAns S x b (.str t u) st (some (.ok f,{st2 with led:=Mine.del st2.led st.nx}))
 |lst {k vs st m f st2 f0 sta}:st.hd=none->rd S st k=some (.lst vs)->Weak S f0 (nE st) sta->(∀k,k<st.nx+1->f0 k=k)->FT S st.nx x b (bu S k) (st.nx+1) m 0 sta f st2->aa st.nx st2.led=true->FAns S x b (.ref k) st (some (.ok f,{st2 with led:=Mine.del st2.led st.nx}))
 |dct {k es st m f st2 es2}:st.hd=none->lk st.led k=some (.sdict es)->FT S st.nx x b (gQ k es) (st.nx+1) m 0 (nE {st with led:=up st.led k (.pdict es)}) f st2->aa st.nx st2.led=true->lk (Mine.del st2.led st.nx) k=some (.pdict es2)->
   FAns S x b (.ref k) st (some (.ok f,{st2 with led:=up (Mine.del st2.led st.nx) k (.sdict es2)}))
theorem oP{k:Nat}{o:Out AF}{P:Out AF->Prop}(h0:P none)(h:∀f st2 es2,o=some (.ok f,st2)->lk st2.led k=some (.pdict es2)->P (some (.ok f,{st2 with led:=up st2.led k (.sdict es2)}))):P (tG k o):=by
 refine cF (P:=P) h0 fun r e=>?_
 obtain⟨o1,st2⟩:=r
 cases o1 with
 |err=>exact h0
 |ok f=>
  refine cF (P:=P) h0 fun ao e1=>cF (P:=P) h0 fun es2 e2=>?_
  cases uG e2
  exact h f st2 es2 e e1
theorem yG(G:Good S.toCore T F){x:Nat}{b:List IS}(v:Value)(st:St):FAns S.toCore x b v st (DV S.toCore F x b v st):=by
 refine gP (P:=FAns S.toCore x b v st) .bad fun e0=>?_
 have e0:=pt.mp e0
 cases v with
 |str t u=>exact cg .bad fun f st2 e3 e4=> .str e0 (qo G e3) e4
 |ref k=>
  refine cF (P:=FAns S.toCore x b (.ref k) st) .bad fun o e1=>?_
  show FAns S.toCore x b (.ref k) st (match eD o with|some _=>_|none=>_)
  cases e2:eD o with
  |some vs=>
   cases b7 e2
   exact cg .bad fun f st2 e3 e4=> .lst e0 e1 Weak.refl (fun ι ι=>rfl) (qo G e3) e4
  |none=>
   refine cF (P:=FAns S.toCore x b (.ref k) st) .bad fun o2 e3=>cF (P:=FAns S.toCore x b (.ref k) st) .bad fun es e4=>?_
   cases ew e4
   refine oP .bad fun f st2 es2 e6 e7=>?_
   revert e6
   refine cg (P:=fun o=>o=some (.ok f,st2)->_) (fun h=>by cases h) fun f2 st3 e5 e6 e8=>?_
   cases e8
   exact .dct e0 e3 (qo G e5) e6 e7
 |_=>exact .bad
set_option tactic.hygienic true in
theorem mv(C:CxOk S cx sc){n:Nat}{b:List IS}{x:Expr}{y:List Stmt}{p' p:Pos}(hf:∀v,foldedSetIterable x cx.env v=pure v)(hb:All2 (MS S.toCore sc) b y)(hn:ae sc (S.nm n)){o1:Out Value}(h1:Sat S cx VR (eval x cx.env) st o1){k:Value->St->Out AF}(hK:∀v st1,o1=some (.ok v,st1)->FAns S.toCore n b v st1 (k v st1)):
  Sat S cx VF (exec (.For (.Name (S.nm n) p') x y [] p) cx.env) st (Ob o1 k):=by
 intro J g s Q E hk hP
 refine LM ?_ hf
 refine Sat.bind h1 hk hP fun v st1 hz J1 g1 s1 v' x1 hv hP1=>?_
 have hA:=hK v st1 hz
 clear hz hK
 revert hP1
 generalize k v st1=o at hA
 intro hP1
 obtain⟨m,news,F',N,R,hl⟩:=x1.ok.fr
 have hhd:=x1.ok.hd
 cases hA with
 |bad=>exact hP1.elim
 |str e0 e1 e2=>
  rw[e0] at hhd
  obtain⟨u,rfl⟩:=hv
  rename_i t _ _ _ _
  cases ha:t.cps.all (·<128) with
  |true=>
   refine wpAny_pyIter_ascii ha ?_
   have N1:=N.push F' ({cls:= .type "str_ascii_iterator",data:= .fields #[.str t u,.int 0 0]}:Obj)
   exact dw C hn hb x1.ok R hl (F'.push _) N1 (fun z hz=>r7 (N z hz).1) (fun h e=>⟨_,e,rfl,rfl⟩) (nN (ty:="str_ascii_iterator") (u:=u) (Walks.strAscii hhd _ t u)) Weak.refl (fun ι ι=>rfl) e1 e2 hP1
  |false=>
   refine wpAny_pyIter_wide ha ?_
   have N1:=N.push F' ({cls:= .type "str_iterator",data:= .fields #[.str t u,.int 0 0]}:Obj)
   exact dw C hn hb x1.ok R hl (F'.push _) N1 (fun z hz=>r7 (N z hz).1) (fun h e=>⟨_,e,rfl,rfl⟩) (nN (ty:="str_iterator") (u:=u) (Walks.strWide hhd _ t u)) Weak.refl (fun ι ι=>rfl) e1 e2 hP1
 |lst e0 e1 W0 hf0 e2 e3=>
  rw[e0] at hhd
  obtain⟨a,hka,rfl⟩:=hv
  obtain⟨o,h2,⟨vs',nn,rfl,hvs⟩,h4⟩:=bN C x1.ok e1 hka
  refine KI (items:=vs'.toArray) ⟨_,h2,rfl,nn,rfl⟩ ?_
  have N1:=N.push F' ({cls:= .type "list_iterator",data:= .fields #[.ref a,.int 0 0]}:Obj)
  exact dw C hn hb x1.ok R hl (F'.push _) N1 (fun z hz=>r7 (N z hz).1) (fun h e=>⟨_,e,rfl,rfl⟩) (kW C hhd (Hg (r7 h2)) hka) W0 hf0 e2 e3 hP1
 |dct e0 e1 e2 e3 e4=>
  rename_i k es m0 f st2 es2
  rw[e0] at hhd
  obtain⟨a,hka,rfl⟩:=hv
  obtain⟨od,h2,⟨kvs,hd,hr⟩,h4⟩:=ER.findA R.er e1 hka
  obtain⟨ep,hat⟩:=(K3 N h2 hd).dictAt
  refine wpAny_pyIter_dict h4 hat ?_
  have er1:All2 (ER S.prog S.w S.nm S.dfi (S.pin k od).FN J1) (up st1.led k (.pdict es)) news:=
   pP (S:=S) (x:= .sdict es) (x':= .pdict es) (od:=od) (FN':=(S.pin k od).FN) hka (fun i hi=>(gC i hi).symm) (fun r=>⟨by show(if k=k then od=od else _);rw[if_pos rfl],r⟩) R.er R.nd e1 h2
  have ok1:Ok (S.pin k od) cx g1 s1 J1 {st1 with led:=up st1.led k (.pdict es)}:=⟨x1.ok.B,⟨m,news,F',N,⟨R.hd,R.hb,R.hi,R.nd,er1⟩,hl⟩,x1.ok.hd,x1.ok.dp,x1.ok.un⟩
  have hne:a≠s1.heap.objs.size:=Hg (r7 (N _ h2).1)
  have hatod:∀h:Heap,h.get? a=some od->h.DictAt (tz S.prog S.w) a kvs ep:=by
   intro h e
   obtain⟨o3,es3,g1,g2⟩:=hat
   rw[(N _ h2).1] at g1
   cases g1
   exact⟨od,es3,e,g2⟩
  have hkn:k≠st1.nx:=fun z=>by rw[z,R.hi _ (wh _)] at hka;cases hka
  refine dw (S:=S.pin k od) (C.pin _ _) hn hb (QF:=Q) (E:=E) ok1 ⟨R.hd,R.hb,R.hi,R.nd,er1⟩ hl (F'.push _) (N.push F' _) (fun z hz=>r7 (N z hz).1) (fun h e=>⟨_,e,rfl,rfl⟩)
   (rp (J:=J1) C hhd hkn hne hka hr hatod) Weak.refl (fun ι ι=>rfl) e2 e3 ?_
  intro J3 g3 s3 fl x3 hf
  refine hP1 J3 g3 s3 fl ⟨x3.le,x3.turn,x3.same,?_⟩ hf
  obtain⟨m3,news3,F3,N3,R3,hl3⟩:=x3.ok.fr
  obtain⟨a3,od3,i1,i2,i3,i4⟩:=ER.find R3.er e4
  exact⟨x3.ok.B,⟨m3,news3,F3,N3,⟨R3.hd,R3.hb,R3.hi,R3.nd,pP (S:=S) (x:= .pdict es2) (x':= .sdict es2) (od:=od3) (FN':=S.FN) i1 (fun i hi=>gC i hi) (fun r=>r.2) R3.er R3.nd e4 i2⟩,hl3⟩,x3.ok.hd,x3.ok.dp,x3.ok.un⟩
theorem w9(G:Good S.toCore T F)(C:CxOk S cx sc){n:Nat}{it:IE}{b:List IS}{x:Expr}{y:List Stmt}{p' p:Pos}(hi:ME S.toCore sc it x)(hb:All2 (MS S.toCore sc) b y)(hn:ae sc (S.nm n)):
  Sat S cx VF (exec (.For (.Name (S.nm n) p') x y [] p) cx.env) st (fc S.toCore T F (.for_ n it b) st):=
 mv C (fun v=>gv hi _ v) hb hn (G.e S.FN sc cx C _ _ hi st) fun v st1 ι=>yG G v st1
end
section
variable{S:Sta}{T:Tb}{F:Fs}{cx:Cx}{sc:Scope}{st:St}
variable{J:Rho}{g:Heap}{s:Shared}{Q:Value->Shared->Prop}{E:Value->Shared->Prop}{QU:Unit->Shared->Prop}{QB:Bool->Shared->Prop}{QF:Flow->Shared->Prop}
theorem eL(C:CxOk S cx sc){scope:Scope}(hf:∀y∈scope.names,y.2= .free->sc.names.lookup y.1=some .cell):∃cl,closureFor scope cx.env=pure cl/\∀y,(y,HP)∈scope.names->∃a,cl.lookup y=some a/\cx.env.cells.lookup y=some a:=by
 obtain⟨cl,e,h⟩:=pV (env:=cx.env) scope.names [] fun y hy h=>let⟨a,_,b⟩:=C.ce _ (hf y hy h);⟨a,b⟩
 refine⟨cl,?_,fun y hy=>h y (.inl hy)⟩
 unfold closureFor
 refine Km ?_ e
 rw[bind_pure]
theorem cS(C:CxOk S cx sc)(scope:Scope):relabel scope cx.env=aT scope sc:=by
 unfold relabel aT Env.kindOf
 rw[C.hsc]
noncomputable abbrev Cx.comp(cx:Cx)(scope:Scope)(cl:List (Str×Addr))(A:Addr):Cx:={cx with env:=compEnvC scope cl A cx.env,res:=fun y=>if(relabel scope cx.env).names.lookup y=some .local then some A else cx.res y}
theorem CxOk.comp(C:CxOk S cx sc){scope:Scope}{x:Nat}(H:CompSc S.toCore sc scope x){cl:List (Str×Addr)}(hcl:∀y,(y,HP)∈scope.names->∃a,cl.lookup y=some a/\cx.env.cells.lookup y=some a)(A:Addr):CxOk S (cx.comp scope cl A) (aT scope sc):=
 {hA:=C.hA,hAA:=C.hAA,ff:=C.ff,fk:=C.fk,ef:=C.ef,nf:=C.nf,hsc:=cS C scope,gl:=C.gl,bi:=C.bi,hk:=H.kind
  lo:=fun h=>by rw[H.isc] at h;cases h
  en:=fun h=>by rw[H.isc] at h;cases h
  cv:=fun ι y hy=>by
   show(if(relabel scope cx.env).names.lookup y=some .local then some A else cx.res y)=some A
   rw[cS C,if_pos hy]
  ce:=fun y hy=>by
   obtain⟨h1,h2⟩:=H.cels y hy
   obtain⟨a,ha,hb⟩:=C.ce y h1
   obtain⟨a',ha',hb'⟩:=hcl y h2
   rw[hb] at hb'
   cases hb'
   refine⟨a,?_,ha'⟩
   show(if(relabel scope cx.env).names.lookup y=some .local then some A else cx.res y)=some a
   rw[cS C,if_neg (fun z=>by rw[hy] at z;cases z)]
   exact ha
  nest:=fun c P q z=>by rw[H.nest] at z;cases z
  XB:=C.XB,TB:=C.TB,S:=C.S}
theorem kM(C:CxOk S cx sc){scope:Scope}{x:Nat}(H:CompSc S.toCore sc scope x){cl:List (Str×Addr)}{A:Addr}{m:Str->Option Value}{y:Nat}(h:y≠x):seen (cx.comp scope cl A).res m (S.nm y)=seen cx.res m (S.nm y):=by
 unfold seen
 show(match(if(relabel scope cx.env).names.lookup (S.nm y)=some .local then some A else cx.res (S.nm y)) with|some a=>some (pf a)|none=>m (S.nm y))=_
 have hz:¬(aT scope sc).names.lookup (S.nm y)=some .local:=fun z=>by
  rcases H.locs _ z with e|e
  ·exact h (C.S.inj _ _ e)
  ·exact C.S.dot _ e
 rw[cS C,if_neg hz]
 all_goals rfl
theorem seen_own(C:CxOk S cx sc){scope:Scope}{x:Nat}(H:CompSc S.toCore sc scope x){cl:List (Str×Addr)}{A:Addr}{m:Str->Option Value}:seen (cx.comp scope cl A).res m (S.nm x)=some (.ref A):=by
 unfold seen
 show(match(if(relabel scope cx.env).names.lookup (S.nm x)=some .local then some A else cx.res (S.nm x)) with|some a=>some (pf a)|none=>m (S.nm x))=_
 rw[if_pos (show(relabel scope cx.env).names.lookup (S.nm x)=some .local from Kd H.hx)]
theorem Ok.enter(C:CxOk S cx sc){scope:Scope}{x c:Nat}(H:CompSc S.toCore sc scope x){cl:List (Str×Addr)}{A:Addr}(hk:Ok S cx g s J st)(hc:J c=some A):Ok S (cx.comp scope cl A) g s J {st with lo:=(x,.ref c)::st.lo}:=by
 obtain⟨m,news,F',N,R,hl⟩:=hk.fr
 refine⟨hk.B,⟨m,news,F',N,R,fun y v e=>?_⟩,hk.hd,hk.dp,hk.un⟩
 dsimp only at e
 rw[aR] at e
 by_cases q:av x y=true
 ·dsimp only at e
  rw[q] at e
  cases e
  have:=aH q
  subst this
  exact⟨.ref A,seen_own C H,A,hc,rfl⟩
 ·have q2:av x y=false:=by cases z:av x y with|true=>exact absurd z q|false=>rfl
  dsimp only at e
  rw[q2] at e
  obtain⟨v',h1,h2⟩:=hl y v e
  exact⟨v',by rw[kM C H (fun z=>aY q2 z.symm)];exact h1,h2⟩
theorem Ok.exit(C:CxOk S cx sc){scope:Scope}{x:Nat}(H:CompSc S.toCore sc scope x){cl:List (Str×Addr)}{A:Addr}(hk:Ok S (cx.comp scope cl A) g s J st):Ok S cx g s J {st with lo:=gJ st.lo x}:=by
 obtain⟨m,news,F',N,R,hl⟩:=hk.fr
 refine⟨hk.B,⟨m,news,F',N,R,fun y v e=>?_⟩,hk.hd,hk.dp,hk.un⟩
 dsimp only at e
 rw[qh] at e
 by_cases q:av x y=true
 ·rw[if_pos q] at e;cases e
 ·rw[if_neg q] at e
  obtain⟨v',h1,h2⟩:=hl y v e
  rw[kM C H (fun z=>q (by rw[z];exact Hu _))] at h1
  exact⟨v',h1,h2⟩
theorem kR(C:CxOk S cx sc)(h0:nX sc=true)(hk:Ok S cx g s J st){x c:Nat}{es:List (Nat×Value)}{v v':Value}(h1:sc.names.lookup (S.nm x)=some .local)(h3:lk st.lo x=some (.ref c))(h4:lk st.led c=some (.ns es))(hv:VR J v v')
  (hQ:∀s',Ext S cx J g s J g s' {st with led:=up st.led c (.ns (bI es x v))}->QU () s'):fm (model S.prog S.w) cx.A (storeName cx.env (S.nm x) v') QU E s:=by
 obtain⟨m,news,F',N,R,hl⟩:=hk.fr
 obtain⟨w,hm,a,hka,rfl⟩:=hl x _ h3
 have hb:=C.cv h0 _ h1
 unfold seen at hm
 rw[hb] at hm
 have hm:cx.env.locals=a:=by injection hm with hm;injection hm
 obtain⟨o,e2,⟨m2,e3,e4⟩,e5⟩:=ER.findA R.er h4 hka
 have hmem:=N _ e2
 refine IG (C.kd h1) (hm▸e3.ns hmem.1) (fun h' hn hs=>?_) (by rw[C.K];rfl)
 rw[hm] at hn hs
 obtain⟨o',ho',hno⟩:=LK hn
 obtain⟨news',U,hr,hmm⟩:=ER.upd R.er R.nd h4 hka e2 (x':= .ns (bI es x v)) (o':=o') ⟨_,hno,fun y w e=>by
  rw[l7] at e
  by_cases hxy:av x y=true
  ·rw[if_pos hxy] at e
   cases e
   exact⟨v',by rw[<-aH hxy];exact if_pos rfl,hv⟩
  ·rw[if_neg hxy] at e
   obtain⟨w',hw,hr⟩:=e4 y w e
   refine⟨w',?_,hr⟩
   rw[if_neg (fun q=>hxy (by rw[C.S.inj _ _ q];exact Hu _))]
   exact hw⟩
 obtain⟨pre,post,q1,q2,n1,n2⟩:=U.split
 subst q1
 have N2:=N.setAt n1 n2 hs ho'
 rw[<-q2] at N2
 exact hQ _ (hk.chg (tk:=s.toks+1) (F'.change hs hmem.2.1 hmem.2.2) N2 R hl hr hmm)
theorem Ok.letGo(hk:Ok S cx g s J st){c:Nat}{x:AO}{A:Addr}{h':Heap}{tk:Nat}(e:lk st.led c=some x)(hc:J c=some A)(hs:Lu A s.heap h'):Ok S cx g {s with heap:=h',toks:=tk} J {st with led:=Mine.del st.led c}:=by
 obtain⟨m,news,F',N,R,hl⟩:=hk.fr
 obtain⟨l1,l2,n1,n2,a,oo,q1,q2,q3,q4,q5,q6⟩:=ER.split (S:=S) R.er e
 have ha:a=A:=by have:=q6.1;rw[hc] at this;exact(bd this).symm
 subst ha
 have nd:=R.nd
 rw[q3,wE,mo] at nd
 have hne:∀z∈n1++n2,z.1≠a:=fun z hz e=>by
  rcases nl.mp hz with hz|hz
  ·have:=(zs.mp nd).2.2 _ (nw hz) a (by simp)
   exact this e
  ·have:=(sB.mp (zs.mp nd).2.1).1
   exact this (by show a∈_;rw[<-e];exact nw (f:=fun x=>x.1) hz)
 have sub:Ih (n1++n2) news:=by
  rw[q3]
  exact Kq (KQ n1) (IA _ _)
 have zA:=N (a,oo) (by rw[q3];simp)
 refine⟨hk.B,⟨m,n1++n2,F'.change hs zA.2.1 zA.2.2,fun q hq=>?_,⟨R.hd,R.hb,R.hi,cR sub R.nd,?_⟩,hl⟩,hk.hd,hk.dp,hk.un⟩
 ·have:=N q (sub.subset hq)
  exact⟨hs.extBut _ _ (hne q hq) this.1,this.2⟩
 ·show All2 _ (Mine.del st.led c) _
  rw[q2]
  exact q4.append q5
inductive CT(S:Core)(x:Nat)(elt:IE)(d c j:Nat)(get:Nat->St->Option (Option Value))(n0:Nat):Nat->Nat->St->Res Unit->St->Prop
 |done {n i st}:aa j st.led=true->get i st=some none->CT S x elt d c j get n0 (n+1) i st (.ok ()) st
 |next {n i st v es y st2 ys f st3 r st'}:aa j st.led=true->get i st=some (some v)->ij (lk st.lo x) c=true->lk st.led c=some (.ns es)->JE S elt {st with led:=up st.led c (.ns (bI es x v))} (some (.ok y,st2))->lk st2.led d=some (.lst ys)->gy ys.length 900=true->
   Weak S f {st2 with led:=up st2.led d (.lst (ys++ [y]))} st3->(∀k,k<n0->f k=k)->CT S x elt d c j get n0 n (i+1) st3 r st'->CT S x elt d c j get n0 (n+1) i st r st'
 |err {n i st v es k st2 st3}:aa j st.led=true->get i st=some (some v)->ij (lk st.lo x) c=true->lk st.led c=some (.ns es)->JE S elt {st with led:=up st.led c (.ns (bI es x v))} (some (.err k,st2))->am st2 k=some st3->CT S x elt d c j get n0 (n+1) i st (.err k) st3
theorem CT.pin{S:Core}{j x d c:Nat}{b:IE}{get:Nat->St->Option (Option Value)}{n0 n i:Nat}{st st':St}{r:Res Unit}(h:CT S x b d c j get n0 n i st r st'):aa j st.led=true:=by induction h using CT.casesOn<;>assumption
theorem yt(G:GoodX S.toCore T F){x d c j n0:Nat}{elt:IE}{get:Nat->St->Option (Option Value)}{n:Nat}:∀{i:Nat} {st st':St} {r:Res Unit},fU F x elt d c j get n i st=some (r,st')->CT S.toCore x elt d c j get n0 n i st r st':=by
 induction n with
 |zero=>intro i st st' r h;cases h
 |succ n ih=>
  intro i st st' r h
  have jb:∀st,JE S.toCore elt st (F.e elt st):=fun st FN sc cx C y hb=>G.e FN sc cx C _ _ hb _
  obtain⟨e1,f1⟩:h:=aM h
  obtain⟨rr,e2,f2⟩:f1:=aC f1
  cases rr with
  |none=>cases f2;exact .done e1 e2
  |some v=>
   obtain⟨e3,f3⟩:f2:=aM f2
   obtain⟨oc,e4,f4⟩:f3:=aC f3
   obtain⟨es,e5,f5⟩:f4:=aC f4
   cases jH e5
   have jb:=jb {st with led:=up st.led c (.ns (bI es x v))}
   revert f5 jb
   cases F.e elt {st with led:=up st.led c (.ns (bI es x v))} with
   |none=>intro f5;cases f5
   |some o6=>
    obtain⟨o6,st3⟩:=o6
    cases o6 with
    |ok y=>
     intro f5 jb
     obtain⟨o2,e7,f6⟩:f5:=aC f5
     obtain⟨ys,e8,f7⟩:f6:=aC f6
     obtain⟨e9,f8⟩:f7:=aM f7
     cases b7 e8
     exact .next e1 e2 e3 e4 jb e7 e9 Weak.refl (fun ι ι=>rfl) (ih f8)
    |err k=>
     intro f5 jb
     obtain⟨st4,e7,f6⟩:f5:=aC f5
     cases f6
     exact .err e1 e2 e3 e4 jb e7
noncomputable def iw(R:Hp->Shared->Prop)(J':Rho)(s':Shared):Res Unit->Prop
 | .ok _=>R (.ok .next) s'
 | .err k=>∀a,J' k=some a->R (.error (.ref a)) s'
theorem jR{v:Option Value}{c:Nat}(h:ij v c=true):v=some (.ref c):=by
 obtain⟨u,f1⟩:=kt.mp h
 obtain⟨w,e1,f2⟩:f1:=aC f1
 obtain⟨k,e2,f3⟩:f2:=aC f2
 obtain⟨e3,f4⟩:f3:=aM f3
 rw[e1,aQ e2,aH e3]
noncomputable def Ff(S:Sta)(cx:Cx)(j:Nat)(R:Hp->Shared->Prop)(Js:Rho)(g:Heap)(s:Shared)(r:Res Unit)(st':St):Prop:=
 ∀J' g' s',Js.le J'->Hd (cx.outer.filterMap (·.frame)) g g'->Same s s'->Ok S cx g' s' J' {st' with led:=Mine.del st'.led j}->iw R J' s' r
inductive CInv(S:Sta)(cx:Cx)(x:Nat)(elt:IE)(d c j:Nat)(get:Nat->St->Option (Option Value))(n0:Nat)(ItO:Nat->Obj->Prop)(I:Addr)(r:Res Unit)(st':St)(Js:Rho)(g:Heap)(s:Shared)(n:Nat)(s1:Shared):Prop
 |mk (i:Nat) (J1:Rho) (g1:Heap) (st1:St) (o:Obj) (hle:Js.le J1) (ht:Hd (cx.outer.filterMap (·.frame)) g g1) (hs:Same s s1) (hk:Ok (S.pin j o) cx g1 s1 J1 st1) (ho:s1.heap.get? I=some o) (hit:ItO i o) (e:CT S.toCore x elt d c j get n0 n i st1 r st'):CInv S cx x elt d c j get n0 ItO I r st' Js g s n s1
theorem t9(C:CxOk S cx sc)(h0:nX sc=true){x:Nat}{elt:IE}{ex iter:Expr}{px:Pos}{scope:Scope}{pos:Pos}(hx:sc.names.lookup (S.nm x)=some .local)(he:ME S.toCore sc elt ex){j d c:Nat}{I D:Addr}{ItO:Nat->Obj->Prop}{get:Nat->St->Option (Option Value)}{J0:Rho}(hn:eS S cx J0 j I ItO get)
  {R:Hp->Shared->Prop} {n0 n i:Nat} {o:Obj} {r:Res Unit} {st':St} {Js:Rho} (h0':J0.le Js) (hlow:∀k,n0<=k->Js k=none) (hJs:Js.le J) (hk:Ok (S.pin j o) cx g s J st) (hI:Js j=some I) (hD:Js d=some D) (hit:ItO i o) (ho:s.heap.get? I=some o) (e:CT S.toCore x elt d c j get n0 n i st r st') (hp':aa j st'.led=true)
  (hR:Ff S cx j R Js g s r st'):
  Hj (model S.prog S.w) cx.A (.compLoop (.ListComp ex [⟨.Name (S.nm x) px,iter,[],0⟩] scope pos) 0 (.ref I) (.ref D) cx.env) R s:=by
 refine codeAny_compLoop_tests (CInv S cx x elt d c j get n0 ItO I r st' Js g s) ?_ n ⟨i,J,g,st,o,hJs,Cn,Same.rfl' _,hk,ho,hit,e⟩
 rintro n s1 ⟨i,J1,g1,st1,o,hle,ht,hs,hk,ho,hit,e⟩
 have hpin:=e.pin
 obtain⟨I2,hI2,ho2,hIL,hIg⟩:=hk.pin_at hpin
 have hI1:=hle _ _ hI
 rw[hI1] at hI2
 cases hI2
 have hnx:=hn i J1 g1 s1 st1 o (Rho.le_trans h0' hle) hk hI1 hpin ho hit
 induction e with
 |done e1 e2=>
  refine hnx.stop _ _ e2 fun h' tk keep=>?_
  exact hR J1 g1 _ hle ht ⟨hs.gens,hs.drawn,hs.os⟩ (hk.drop hI1 hpin hIL hIg keep)
 |next e1 e2 e3 e4 hJ e7 e9 W hf hT ih=>
  refine hnx.item _ _ _ e2 fun v' h' tk o' hv ho' hit' keep=>?_
  have hk1:=hk.move (tk:=tk) hI1 hpin hIL hIg ho' keep
  refine KJ ?_
  refine kR (C.pin j o') h0 hk1 hx (jR e3) e4 hv fun s2 x2=>?_
  refine K2 ?_
  simp only[if_true]
  refine hJ (S.pin j o').FN sc cx (C.pin j o') _ he J1 g1 s2 _ _ x2.ok fun J3 g3 s3 y' x3 hy=>?_
  have hD3:=x3.le _ _ (hle _ _ hD)
  refine nJ (C.pin j o') x3.ok ⟨D,hD3,rfl⟩ hy e7 e9 fun J4 g4 s4 u x4 ι=>?_
  have x34:=x3.trans x4
  have hle4:=fJ hlow (Rho.le_trans hle x34.le) hf
  have hk4:=x4.ok.weak W
  obtain⟨I3,q1,q2,_⟩:=hk4.pin_at hT.pin
  cases (hle4 _ _ hI).symm.trans q1
  exact⟨_,Db _,_,_,g4,_,o',hle4,Go ht x34.turn,(hs.trans ((show Same s1 {s1 with heap:=h',toks:=tk} from⟨rfl,rfl,rfl⟩).trans x2.same)).trans x34.same,hk4,q2,hit',hT⟩
 |err e1 e2 e3 e4 hJ e7=>
  refine hnx.item _ _ _ e2 fun v' h' tk o' hv ho' hit' keep=>?_
  have hk1:=hk.move (tk:=tk) hI1 hpin hIL hIg ho' keep
  refine KJ ?_
  refine kR (C.pin j o') h0 hk1 hx (jR e3) e4 hv fun s2 x2=>?_
  refine K2 ?_
  simp only[if_true]
  refine hJ (S.pin j o').FN sc cx (C.pin j o') _ he J1 g1 s2 _ _ x2.ok fun J3 g3 s3 a x3 ha=>?_
  refine gi (C.pin j o') x3.ok ha e7 fun J4 g4 s4 x4 ha4=>?_
  have x34:=x3.trans x4
  exact hR J4 g4 s4 (Rho.le_trans hle x34.le) (Go ht x34.turn) ((hs.trans ((show Same s1 {s1 with heap:=h',toks:=tk} from⟨rfl,rfl,rfl⟩).trans x2.same)).trans x34.same) (x4.ok.unpin hp') a ha4
end
section
variable{S:Sta}{T:Tb}{F:Fs}{cx:Cx}{sc:Scope}{st:St}
variable{J:Rho}{g:Heap}{s:Shared}{Q:Value->Shared->Prop}{E:Value->Shared->Prop}{QU:Unit->Shared->Prop}{QB:Bool->Shared->Prop}{QF:Flow->Shared->Prop}
theorem kj(C:CxOk S cx sc){x:Nat}{elt:IE}{ex iter:Expr}{px:Pos}{scope:Scope}{pos:Pos}(H:CompSc S.toCore sc scope x)(he:ME S.toCore (aT scope sc) elt ex){cl:List (Str×Addr)}(hcl:∀y,(y,HP)∈scope.names->∃a,cl.lookup y=some a/\cx.env.cells.lookup y=some a)
  {ItO:Nat->Obj->Prop} {get:Nat->St->Option (Option Value)} {n:Nat} {r:Res Unit} {st':St} (hk:Ok S cx g s J st) {o:Obj} {h':Heap} {m:Str->Option Value} {news:Led} (R:S.Rel J st news) (hl:Locs S J st.lo (seen cx.res m)) {I:Addr} (F':Fr g cx.L h' m) (N':News g cx.L h' ((I,o)::news)) (l:∀q∈news,q.1<I) (hit:ItO 0 o)
  (hn:∀A,eS S (cx.comp scope cl A) J st.nx I ItO get) (hself:∀(s':Shared) (Q:Value->Shared->Prop) (E:Value->Shared->Prop),(∀b q,h'.get? b=some q->s'.heap.get? b=some q)->Q (.ref I) s'->fm (model S.prog S.w) cx.A (pyIter (.ref I)) Q E s')
  {f0:Nat->Nat} {sta:St} (W0:Weak S.toCore f0 (eK x st) sta) (hf0:∀k,k<st.nx+3->f0 k=k) (z:CT S.toCore x elt (st.nx+1) (st.nx+2) st.nx get (st.nx+3) n 0 sta r st') (hp':aa st.nx st'.led=true) {RP:Value->Addr->Hp->Shared->Prop}
  (HE:∀A D J' g' s',J.le J'->Hd (cx.outer.filterMap (·.frame)) g g'->Same s s'->J' (st.nx+1)=some D->J' (st.nx+2)=some A->Ok S (cx.comp scope cl A) g' s' J' {st' with led:=Mine.del st'.led st.nx}->iw (RP (.ref D) A) J' s' r):
  fm (model S.prog S.w) cx.A (newList []) (fun acc s₃=>fm (model S.prog S.w) cx.A (newFunctionEnv scope cx.env.globals cl [] cx.env.qual none .none (some cx.env)) (fun cenv s₄=>
   Hj (model S.prog S.w) cx.A (.compStart (.ListComp ex [⟨.Name (S.nm x) px,iter,[],0⟩] scope pos) 0 (.ref I) acc {cenv with scope:=relabel scope cx.env}) (RP acc cenv.locals) s₄) E s₃) E {s with heap:=h'}:=by
 have hk1:=hk.setPin (tk:=s.toks) C R hl F' N' l
 have hle1:J.le (J.ext st.nx I):=R.grow_le I
 have Cp:=C.pin st.nx o
 obtain⟨m1,news1,F1,N1,R1,hl1⟩:=hk1.fr
 have hlen1:∀q∈news1,q.1<h'.objs.size:=fun q hq=>r7 (N1 q hq).1
 have F2:=F1.push ({cls:= .type "list",dict:=none,data:= .seq ([]:List Value).toArray}:Obj)
 have N2:=N1.push F1 ({cls:= .type "list",dict:=none,data:= .seq ([]:List Value).toArray}:Obj)
 have x2:=hk1.new Cp F1 R1 hl1 F2 N2 hlen1 (x:= .lst []) ⟨[],0,rfl,.nil⟩ (fD Cp hk1 N2) (tk:=s.toks)
 refine I6 (wpAny_newFunctionEnv H.cell (by intro y hy;simp at hy) (fun h₁ hns₁ hsb₁=>?_) H.kind)
 dsimp only at hns₁ hsb₁⊢
 obtain⟨oC,heC,hoC⟩:=LK hns₁
 have old:∀b o,(h'.push {cls:= .type "list",dict:=none,data:= .seq ([]:List Value).toArray}).get? b=some o->h₁.get? b=some o:=fun b o e=>hsb₁.extBut b o (Hg (r7 e)) (FB _ e)
 obtain⟨m2,news2,F3,N3,R3,hl3⟩:=x2.ok.fr
 have F4:Fr g cx.L h₁ m2:=F3.keeps old
 have N4:News g cx.L h₁ (((h'.push {cls:= .type "list",dict:=none,data:= .seq ([]:List Value).toArray}).objs.size,oC)::news2):=fun q hq=>by
  rcases eq.mp hq with rfl|hq
  ·exact⟨heC,Ig F3.ns.lt,next_is_new F3⟩
  ·exact N3.grown old q hq
 have x3:=x2.ok.new Cp F3 R3 hl3 F4 N4 (fun q hq=>r7 (N3 q hq).1) (x:= .ns []) ⟨_,hoC,fun ι ι e=>by cases e⟩ (fD Cp x2.ok N4) (tk:=s.toks+([]:List (Str×Value)).length)
 generalize (h'.push {cls:= .type "list",dict:=none,data:= .seq ([]:List Value).toArray}).objs.size=A at*
 generalize hD:h'.objs.size=D at*
 have x23:=x2.trans x3
 have hle3:=Rho.le_trans hle1 x23.le
 have hI3:=x23.le _ _ (Rho.ext_at J st.nx I)
 have hD3:=x3.le _ _ (Rho.ext_at (J.ext st.nx I) (st.nx+1) D)
 have hA3:_=some A:=Rho.ext_at ((J.ext st.nx I).ext (st.nx+1) D) (st.nx+2) A
 have ok4:=Ok.enter (cl:=cl) (A:=A) Cp H x3.ok hA3
 have hIo:h₁.get? I=some o:=old _ _ (FB _ (N' _ (.head _)).1)
 have loop:Hj (model S.prog S.w) cx.A (.compLoop (.ListComp ex [⟨.Name (S.nm x) px,iter,[],0⟩] scope pos) 0 (.ref I) (.ref D) (compEnvC scope cl A cx.env)) (RP (.ref D) A) {s with heap:=h₁,toks:=s.toks+([]:List (Str×Value)).length}:=by
  have hlow:∀k,st.nx+3<=k->((J.ext st.nx I).ext (st.nx+1) D).ext (st.nx+2) A k=none:=fun k hk=>by
   unfold Rho.ext
   rw[if_neg (by omega),if_neg (by omega),if_neg (by omega)]
   exact R.hi k (by omega)
  have hle3':=fJ hlow (Rho.le_refl _) hf0
  have hx:(aT scope sc).names.lookup (S.nm x)=some .local:=by rw[<-cS C];exact Kd H.hx
  refine t9 (n0:=st.nx+3) (C.comp H hcl A) H.isc hx he (hn A) (R:=RP (.ref D) A) hle3 hlow hle3' (ok4.weak W0) hI3 hD3 hit hIo z hp' fun J' g' s' hle ht hs hok=>?_
  exact HE A D J' g' s' (Rho.le_trans hle3 hle) ht ((show Same s {s with heap:=h₁,toks:=s.toks+([]:List (Str×Value)).length} from⟨rfl,rfl,rfl⟩).trans hs) (hle _ _ hD3) (hle _ _ hA3) hok
 exact codeAny_compStart_list loop (hself _ _ _ (fun b q e=>old b q (FB _ e)) loop)
theorem ee(C:CxOk S cx sc){x:Nat}{scope:Scope}(H:CompSc S.toCore sc scope x){cl:List (Str×Addr)}{r:Res Unit}{st':St}(hP1:Post S cx VR Q E J g s (pW x st.nx (some (r,st')))):aa st.nx st'.led=true/\
  ∀A D J' g' s',J.le J'->Hd (cx.outer.filterMap (·.frame)) g g'->Same s s'->J' (st.nx+1)=some D->J' (st.nx+2)=some A->Ok S (cx.comp scope cl A) g' s' J' {st' with led:=Mine.del st'.led st.nx}->iw (compPost (model S.prog S.w) cx.A E none Q (.ref D) A) J' s' r:=by
 cases r with
 |ok u=>
  obtain⟨e2,hP2⟩:Post:=Post.grd hP1
  obtain⟨oo,e3,hP3⟩:hP2:=hP2.oget
  obtain⟨es,e4,hP4⟩:hP3:=hP3.oget
  cases jH e4
  refine⟨e2,fun A D J' g' s' hle ht hs hD hA hok=>?_⟩
  obtain⟨m5,news5,F5,N5,R5,hl5⟩:=hok.fr
  obtain⟨a5,o5,h1,h2,⟨m6,h3,h4⟩,h6⟩:=ER.find R5.er e3
  have:a5=A:=by rw[hA] at h1;exact(bd h1).symm
  subst this
  refine⟨m6,h3.ns (N5 _ h2).1,fun h6 hs6=>?_⟩
  exact hP4 J' g' _ (.ref D) ⟨hle,ht,hs.trans ⟨rfl,rfl,rfl⟩,(hok.letGo (tk:=s'.toks) e3 hA hs6).exit C H⟩ ⟨D,hD,rfl⟩
 |err k=>
  obtain⟨e2,hP2⟩:Post:=Post.grd hP1
  obtain⟨oo,e3,hP3⟩:hP2:=hP2.oget
  obtain⟨es,e4,hP4⟩:hP3:=hP3.oget
  rw[db] at e2
  cases jH e4
  refine⟨e2.1,fun A D J' g' s' hle ht hs hD hA hok a ha=>?_⟩
  obtain⟨m5,news5,F5,N5,R5,hl5⟩:=hok.fr
  obtain⟨a5,o5,h1,h2,⟨m6,h3,h4⟩,h6⟩:=ER.find R5.er e3
  have:a5=A:=by rw[hA] at h1;exact(bd h1).symm
  subst this
  refine⟨m6,h3.ns (N5 _ h2).1,fun h6 hs6 cenv hce=>?_⟩
  refine mx C ((hok.letGo (tk:=s'.toks) e3 hA hs6).exit C H) ha e2.2 fun s7 x7=>?_
  exact hP4 J' g' s7 a ⟨hle,ht,(hs.trans (show Same s' {s' with heap:=h6} from⟨rfl,rfl,rfl⟩)).trans x7.same,x7.ok⟩ ha
inductive CAns(S:Core)(T:Tb)(x k:Nat):Bool->Value->St->Out Value->Prop
 |bad {rg v st}:CAns S T x k rg v st none
 |lst {l vs st elt m r st' f0 sta}:st.hd=none->lk T.cmps k=some elt->rd S st l=some (.lst vs)->Weak S f0 (eK x st) sta->(∀k,k<st.nx+3->f0 k=k)->CT S x elt (st.nx+1) (st.nx+2) st.nx (bu S l) (st.nx+3) m 0 sta r st'->CAns S T x k false (.ref l) st (pW x st.nx (some (r,st')))
 |rng {nn t st elt m r st' f0 sta}:st.hd=none->lk T.cmps k=some elt->ay nn=true->Ij 0 nn=true->Weak S f0 (eK x st) sta->(∀k,k<st.nx+3->f0 k=k)->CT S x elt (st.nx+1) (st.nx+2) st.nx (aU nn.toNat) (st.nx+3) m 0 sta r st'->CAns S T x k true (.int nn t) st (pW x st.nx (some (r,st')))
theorem qx(G:GoodX S.toCore T F){x k:Nat}{rg:Bool}(v:Value)(st:St):CAns S.toCore T x k rg v st (v8 S.toCore T F rg x k v st):=by
 unfold v8
 split
 ·exact .bad
 ·rename_i e0
  cases e1:lk T.cmps k with
  |none=>exact .bad
  |some elt=>
   cases rg with
   |true=>
    show CAns S.toCore T x k true v st (oget (de v) _)
    cases e2:de v with
    |none=>exact .bad
    |some nn=>
     obtain⟨t,rfl⟩:=cB e2
     show CAns S.toCore T x k true _ st (grd (ay nn&&Ij 0 nn) (pW x st.nx _))
     cases e3:(ay nn&&Ij 0 nn) with
     |false=>exact .bad
     |true=>
      rw[db] at e3
      show CAns S.toCore T x k true _ st (pW x st.nx (fU F x elt (st.nx+1) (st.nx+2) st.nx (aU nn.toNat) 1100 0 (eK x st)))
      cases z:fU F x elt (st.nx+1) (st.nx+2) st.nx (aU nn.toNat) 1100 0 (eK x st) with
      |none=>exact .bad
      |some o=>exact .rng e0 e1 e3.1 e3.2 Weak.refl (fun ι ι=>rfl) (yt G z)
   |false=>
    show CAns S.toCore T x k false v st (oget (bL v) _)
    cases e2:bL v with
    |none=>exact .bad
    |some l=>
     cases aQ e2
     show CAns S.toCore T x k false _ st (oget (rd S.toCore st l) _)
     cases e3:rd S.toCore st l with
     |none=>exact .bad
     |some o=>
      show CAns S.toCore T x k false _ st (oget (eD o) _)
      cases e4:eD o with
      |none=>exact .bad
      |some vs=>
       cases b7 e4
       show CAns S.toCore T x k false _ st (pW x st.nx (fU F x elt (st.nx+1) (st.nx+2) st.nx (bu S.toCore l) 60 0 (eK x st)))
       cases z:fU F x elt (st.nx+1) (st.nx+2) st.nx (bu S.toCore l) 60 0 (eK x st) with
       |none=>exact .bad
       |some o=>exact .lst e0 e1 e3 Weak.refl (fun ι ι=>rfl) (yt G z)
theorem tX(TO:TbOk S.toCore T)(C:CxOk S cx sc){x k:Nat}{i ex:Expr}{px:Pos}{scope:Scope}{pos:Pos}(hf:∀v,foldedSetIterable i cx.env v=pure v)(H:CompSc S.toCore sc scope x)(hce:S.ce (aT scope sc) k ex){o1:Out Value}(h1:Sat S cx VR (eval i cx.env) st o1){K:Value->St->Out Value}(hK:∀v st1,o1=some (.ok v,st1)->CAns S.toCore T x k false v st1 (K v st1)):
  Sat S cx VR (eval (.ListComp ex [⟨.Name (S.nm x) px,i,[],0⟩] scope pos) cx.env) st (Ob o1 K):=by
 intro J g s Q E hk hP
 obtain⟨cl,hclos,hcl⟩:=eL C H.free
 obtain⟨elt,hel,he⟩:=TO.cmps _ _ _ hce
 rw[Lg]
 refine Iu (use:=none) rfl hf hclos H.kind H.nms ?_
 refine Sat.bind (t:=eval i cx.env) h1 hk hP fun v st1 hz J1 g1 s1 v' x1 hv hP1=>?_
 have hA:=hK v st1 hz
 clear hz hK
 revert hP1
 generalize K v st1=o at hA
 intro hP1
 cases hA with
 |bad=>exact hP1.elim
 |lst e0 e1 e3 W0 hf0 z=>
  have hh:=x1.ok.hd
  rw[e0] at hh
  rw[hel] at e1
  cases e1
  obtain⟨a,hka,rfl⟩:=hv
  obtain⟨m,news,F',N,R,hl⟩:=x1.ok.fr
  obtain⟨o,h2,⟨vs',nn,rfl,hvs⟩,h4⟩:=bN C x1.ok e3 hka
  refine KI (items:=vs'.toArray) ⟨_,h2,rfl,nn,rfl⟩ ?_
  have N1:=N.push F' ({cls:= .type "list_iterator",data:= .fields #[.ref a,.int 0 0]}:Obj)
  have hne:=Hg (r7 h2)
  refine kj C H he hcl x1.ok R hl (F'.push _) N1 (fun z hz=>r7 (N z hz).1) (ItO:=fun i o=>∀h:Heap,h.get? s1.heap.objs.size=some o->h.IsListIter s1.heap.objs.size a i) (fun h e=>⟨_,e,rfl,rfl⟩) (fun A=>kW (C.comp H hcl A) hh hne hka) (fun s' Q E keep hQ=>?_) W0 hf0 z (ee (cl:=cl) C H hP1).1 (ee C H hP1).2
  refine(KB (prog:=S.prog) (w:=S.w) hh s1.heap.objs.size a hne vs'.toArray).self 0 s' Q E ⟨⟨_,keep _ _ (Ia _ rfl),rfl,rfl⟩,⟨_,keep _ _ (FB _ h2),rfl,nn,rfl⟩⟩ hQ
theorem nh(C:CxOk S cx sc){x:Nat}{elt:IE}{ex iter:Expr}{px:Pos}{scope:Scope}{pos:Pos}(H:CompSc S.toCore sc scope x)(he:ME S.toCore (aT scope sc) elt ex){cl:List (Str×Addr)}(hcl:∀y,(y,HP)∈scope.names->∃a,cl.lookup y=some a/\cx.env.cells.lookup y=some a)
  {n:Nat} {r:Res Unit} {st':St} (hk:Ok S cx g s J st) (e0:st.hd=none) {nn:Int} {u:Tok} (e1:ay nn=true) (e2:Ij 0 nn=true) {f0:Nat->Nat} {sta:St} (W0:Weak S.toCore f0 (eK x st) sta) (hf0:∀k,k<st.nx+3->f0 k=k) (z:CT S.toCore x elt (st.nx+1) (st.nx+2) st.nx (aU nn.toNat) (st.nx+3) n 0 sta r st')
  (hp':aa st.nx st'.led=true) {RP:Value->Addr->Hp->Shared->Prop}
  (HE:∀A D J' g' s',J.le J'->Hd (cx.outer.filterMap (·.frame)) g g'->Same s s'->J' (st.nx+1)=some D->J' (st.nx+2)=some A->Ok S (cx.comp scope cl A) g' s' J' {st' with led:=Mine.del st'.led st.nx}->iw (RP (.ref D) A) J' s' r):
  fm (model S.prog S.w) cx.A (LF (.type "range") [.int nn u]) (fun xv s₁=>fm (model S.prog S.w) cx.A (pyIter xv) (fun it s₂=>fm (model S.prog S.w) cx.A (newList []) (fun acc s₃=>fm (model S.prog S.w) cx.A (newFunctionEnv scope cx.env.globals cl [] cx.env.qual none .none (some cx.env)) (fun cenv s₄=>
   Hj (model S.prog S.w) cx.A (.compStart (.ListComp ex [⟨.Name (S.nm x) px,iter,[],0⟩] scope pos) 0 it acc {cenv with scope:=relabel scope cx.env}) (RP acc cenv.locals) s₄) E s₃) E s₂) E s₁) E s:=by
 have hh:=hk.hd
 rw[e0] at hh
 have h1:=bb e1
 have h2:=(H4 0 nn).mp e2
 refine Lo ?_
 have hsz:Hc 0 nn 1=nn:=by
  rw[Le]
  split<;>omega
 obtain⟨m,news,F',N,R,hl⟩:=hk.fr
 refine Kt (s:={s with heap:=_,toks:=_}) (LC _ _ _ _ _ _ _) (LO (by omega) (by omega) (by omega) (by omega)) ?_
 have N1:=N.push F' ({cls:= .type "range",data:= .fields #[.int 0 s.toks,.int nn u,.int 1 (s.toks+1)]}:Obj)
 have F1:=F'.push ({cls:= .type "range",data:= .fields #[.int 0 s.toks,.int nn u,.int 1 (s.toks+1)]}:Obj)
 have N2:=N1.push F1 ({cls:= .type "range_iterator",data:= .fields #[rawInt 0,rawInt (Hc 0 nn 1),rawInt 1]}:Obj)
 have F2:=F1.push ({cls:= .type "range_iterator",data:= .fields #[rawInt 0,rawInt (Hc 0 nn 1),rawInt 1]}:Obj)
 have hnn:(nn.toNat:Int)=nn:=by omega
 have W:=Lz (prog:=S.prog) (w:=S.w) (A:=cx.A) hh ((s.heap.push {cls:= .type "range",data:= .fields #[.int 0 s.toks,.int nn u,.int 1 (s.toks+1)]}).objs.size) 0 1 nn.toNat
 have hit0:∀h:Heap,h.get? ((s.heap.push {cls:= .type "range",data:= .fields #[.int 0 s.toks,.int nn u,.int 1 (s.toks+1)]}).objs.size)=some {cls:= .type "range_iterator",data:= .fields #[rawInt 0,rawInt (Hc 0 nn 1),rawInt 1]}->Ji h ((s.heap.push {cls:= .type "range",data:= .fields #[.int 0 s.toks,.int nn u,.int 1 (s.toks+1)]}).objs.size) (0+((0:Nat):Int)*1) ((nn.toNat:Int)-((0:Nat):Int)) 1:=by
  intro h e
  show h.get? _=_
  rw[e,hsz,hnn]
  simp
 refine kj C H he hcl (s:={s with toks:=_}) (hk.toks _) R hl F2 (ItO:=fun i o=>∀h:Heap,h.get? ((s.heap.push {cls:= .type "range",data:= .fields #[.int 0 s.toks,.int nn u,.int 1 (s.toks+1)]}).objs.size)=some o->Ji h ((s.heap.push {cls:= .type "range",data:= .fields #[.int 0 s.toks,.int nn u,.int 1 (s.toks+1)]}).objs.size) (0+(i:Nat)*1) ((nn.toNat:Int)-(i:Nat)) 1) (fun z hz=>N2 z (by
  rcases eq.mp hz with rfl|hz
  ·exact .head _
  ·exact .tail _ (.tail _ hz))) (fun z hz=>?_) hit0 (fun A=>jJ W) (fun s' Q E keep hQ=>W.self 0 s' Q E (hit0 _ (keep _ _ (Ia _ rfl))) hQ) W0 hf0 z hp' fun A D J' g' s' q1 q2 q3=>HE A D J' g' s' q1 q2 ⟨q3.gens,q3.drawn,q3.os⟩
 have:=r7 (N z hz).1
 rw[IQ]
 exact Jb this
set_option tactic.hygienic true in
theorem rN(TO:TbOk S.toCore T)(C:CxOk S cx sc){x k:Nat}{i ex:Expr}{px q r:Pos}{scope:Scope}{pos:Pos}(hw:bV S.toCore sc "range" (.type "range"))(hs:Mine.nStar i=true)(H:CompSc S.toCore sc scope x)(hce:S.ce (aT scope sc) k ex){o1:Out Value}(h1:Sat S cx VR (eval i cx.env) st o1){K:Value->St->Out Value}(hK:∀v st1,o1=some (.ok v,st1)->CAns S.toCore T x k true v st1 (K v st1)):
  Sat S cx VR (eval (.ListComp ex [⟨.Name (S.nm x) px,.Call (.Name (ag "range") q) [i] [] r,[],0⟩] scope pos) cx.env) st (Ob o1 K):=by
 intro J g s Q E hk hP
 obtain⟨cl,hclos,hcl⟩:=eL C H.free
 obtain⟨elt,hel,he⟩:=TO.cmps _ _ _ hce
 rw[Lg]
 refine Iu (use:=none) rfl (fun v=>rfl) hclos H.kind H.nms ?_
 show fm _ _ (eval (.Call (.Name (ag "range") q) [i] [] r) cx.env) _ _ _
 rw[bX rfl]
 refine ca (cL C hk hw ?_)
 refine Hz ?_ (aL hs) rfl
 refine Hn ?_ (aL hs)
 refine Sat.bind h1 hk hP fun v st1 hz J1 g1 s1 v' x1 hv hP1=>?_
 have hA:=hK v st1 hz
 clear hz hK
 refine HK ?_
 revert hP1
 generalize K v st1=o at hA
 intro hP1
 cases hA with
 |bad=>exact hP1.elim
 |rng e0 e1 e3 e4 W0 hf0 z=>
  rename_i nn t elt m0 r0 st' f0 sta
  rw[hel] at e1
  cases e1
  obtain⟨u,rfl⟩:=hv
  exact nh C H he hcl x1.ok e0 e3 e4 W0 hf0 z (ee (cl:=cl) C H hP1).1 (ee C H hP1).2
theorem v6{S:Core}{T:Tb}{F:Fs}(G:Good S T F)(TO:TbOk S T):CompT S T F where
 c FN sc cx C x it k i elt px scope pos h1 h2 h3 st:=tX (S:=⟨S,FN⟩) TO C (fun v=>gv h1 _ v) h2 h3 (G.e FN sc cx C _ _ h1 st) fun v st1 ι=>qx (S:=⟨S,FN⟩) G.toGoodX v st1
 r FN sc cx C x it k i elt px scope pos q r h0 h1 h2 h3 st:=rN (S:=⟨S,FN⟩) TO C h0 h1.nStar h2 h3 (G.e FN sc cx C _ _ h1 st) fun v st1 ι=>qx (S:=⟨S,FN⟩) G.toGoodX v st1
end
section
variable{S:Sta}{T:Tb}{F:Fs}{cx:Cx}{sc:Scope}{st:St}
variable{J:Rho}{g:Heap}{s:Shared}{Q:Value->Shared->Prop}{E:Value->Shared->Prop}{QU:Unit->Shared->Prop}{QB:Bool->Shared->Prop}{QF:Flow->Shared->Prop}
theorem kf{S:Core}{T:Tb}{F:Fs}(G:Good S T F)(TO:TbOk S T):ForTry S T F where
 f FN sc cx C n it b x y p' p h1 h2 h3 h4 st:=w9 (S:=⟨S,FN⟩) G C h1 h3 h4
 r FN sc cx C n it b x y p' q r p h1 h2 h3 h4 st:=tW (S:=⟨S,FN⟩) G C h1 h2 h3 h4
 t FN sc cx C b Cc n h y z hd p' p'' p x h1 h2 h3 h4 st:=w8 (S:=⟨S,FN⟩) G TO C h1 h2 h3 h4
theorem Bp(G:Good2 S.toCore T F)(TO:TbOk S.toCore T)(C:CxOk S cx sc){ir:List IS}{x:List Stmt}(hm:All2 (MS S.toCore sc) ir x):Sat S cx VF (execs x cx.env) st (Fw S.toCore T F ir st):=by
 intro J g s Q E hk hP
 induction hm using All2.casesOn with
 |nil=>exact HQ (hP.ret0 hk .next)
 |cons h r=>
  refine Iw ?_
  refine Sat.bind (y5 G TO (kf G.toGood TO) C h) hk hP fun f st1 ι J1 g1 s1 f' x1 hf hP1=>?_
  induction hf using VF.casesOn with
  |next=>exact G.b S.FN sc cx C _ _ r st1 J1 g1 s1 Q E x1.ok hP1
  |brk=>exact hP1.ret0 x1.ok .brk
  |cont=>exact hP1.ret0 x1.ok .cont
  |ret hv=>exact hP1.ret0 x1.ok (.ret hv)
theorem kU{α:Type}{k:Nat}{st:St}{o:Out α}{f:α->St->Out AF}{VV:Rho->AF->Flow->Prop}(h:o=some (.err k,st))(hP:Post S cx VV QF E J g s (Ob (nK o) f)):∃st',am st k=some st'/\Post S cx VV QF E J g s (some (.err k,st')):=by
 subst h
 unfold nK at hP
 dsimp only at hP
 cases e:am st k with
 |some st'=>rw[e] at hP;exact⟨_,rfl,hP⟩
 |none=>rw[e] at hP;exact hP.elim
inductive WInv(S:Sta)(cx:Cx)(w:Nat->IE->List IS->St->Out AF)(n:Nat)(c:IE)(b:List IS)(R:Hp->Shared->Prop)(k:Nat)(s1:Shared):Prop
 |mk (h:k<=n) (J1:Rho) (g1:Heap) (st1:St) (hk:Ok S cx g1 s1 J1 st1) (hP:Post S cx VF (fun f s'=>R (.ok f) s') (fun e s'=>R (.error e) s') J1 g1 s1 (w k c b st1)):WInv S cx w n c b R k s1
theorem Bl{w:Nat->IE->List IS->St->Out AF}{H:Nat->Fs}(C:CxOk S cx sc){n:Nat}(h0:∀c b st,w 0 c b st=none)(hs:∀m,m<n->∀c b st,w (m+1) c b st=EY (H m) c b st/\(H m).w=w m)(G:∀m,m<n->Good S.toCore T (H m))
  {c:IE} {x:Expr} {b:List IS} {y:List Stmt} (hc:ME S.toCore sc c x) (hb:All2 (MS S.toCore sc) b y) {R:Hp->Shared->Prop} (hk:Ok S cx g s J st)
  (hP:Post S cx VF (fun f s'=>R (.ok f) s') (fun e s'=>R (.error e) s') J g s (w n c b st)):Hj (model S.prog S.w) cx.A (.whileLoop x y [] cx.env) R s:=by
 refine KN (WInv S cx w n c b R) ?_ n ⟨wh _,J,g,st,hk,hP⟩
 rintro k s1 ⟨hkn,J1,g1,st1,hk1,hP1⟩
 cases k with
 |zero=>rw[h0] at hP1;exact hP1.elim
 |succ k=>
  obtain⟨hw,hH⟩:=hs k hkn c b st1
  have GG:=G k hkn
  rw[hw] at hP1
  unfold EY at hP1
  refine GG.t S.FN sc cx C _ _ hc st1 J1 g1 s1 _ _ hk1 ?_
  cases z:(H k).t c st1 with
  |none=>rw[z] at hP1;exact hP1.elim
  |some o=>
   obtain⟨o,st2⟩:=o
   cases o with
   |err j=>
    obtain⟨st3,e3,hP3⟩:=kU z hP1
    intro J2 g2 s2 a x2 ha
    refine gi C x2.ok ha e3 fun J3 g3 s3 x3 ha3=>?_
    exact hP3 J3 g3 s3 a (x2.trans x3) ha3
   |ok q=>
    rw[z] at hP1
    intro J2 g2 s2 q' x2 hq
    subst q'
    cases q with
    |false=>exact HQ (hP1 J2 g2 s2 .next x2 .next)
    |true=>
     have hP2:Post S cx VF (fun f s'=>R (.ok f) s') (fun e s'=>R (.error e) s') J1 g1 s1 (Ob (nK ((H k).b b st2)) fun f st2=>match f with
      | .next=>(H k).w c b st2
      | .cont=>(H k).w c b st2
      | .brk=>some (.ok .next,st2)
      | .ret v=>some (.ok (.ret v),st2)):=hP1
     show fm _ cx.A (execs y cx.env) _ _ s2
     refine GG.b S.FN sc cx C _ _ hb st2 J2 g2 s2 _ _ x2.ok ?_
     cases z2:(H k).b b st2 with
     |none=>rw[z2] at hP2;exact hP2.elim
     |some o=>
      obtain⟨o,st3⟩:=o
      cases o with
      |err j=>
       obtain⟨st4,e4,hP4⟩:=kU z2 hP2
       intro J3 g3 s3 a x3 ha
       refine gi C x3.ok ha e4 fun J4 g4 s4 x4 ha4=>?_
       exact hP4 J4 g4 s4 a ((x2.trans x3).trans x4) ha4
      |ok f=>
       rw[z2] at hP2
       intro J3 g3 s3 f' x3 hf
       have xx:=x2.trans x3
       rw[hH] at hP2
       cases hf with
       |next=>exact⟨k,Db _,Hh hkn,J3,g3,st3,x3.ok,Post.later (o:=w k c b st3) hP2 xx⟩
       |cont=>exact⟨k,Db _,Hh hkn,J3,g3,st3,x3.ok,Post.later (o:=w k c b st3) hP2 xx⟩
       |brk=>exact hP2 J3 g3 s3 .next xx .next
       |ret hv=>exact hP2 J3 g3 s3 _ xx (.ret hv)
end
structure OrcOk(S:Core)(O:Orc):Prop where
 o:∀FN sc cx,CxOk ⟨S,FN⟩ cx sc->∀k i x,MS S sc (.orc k i) x->∀st,Sat ⟨S,FN⟩ cx VF (exec x cx.env) st (O.o k i st)
 oc:∀k vs st,CallSat S k vs st (O.oc k vs st)
theorem ya(S:Core)(T:Tb)(O:Orc):∀n,(run S T O n).o=O.o/\(run S T O n).oc=O.oc
 |0=>⟨rfl,rfl⟩
 |n+1=>ya S T O n
theorem cX{S:Core}{T:Tb}{O:Orc}(TO:TbOk S T)(FO:FnsOk S T)(OO:OrcOk S O)(n:Nat):Good2 S T (run S T O n):=by
 induction n using Nat.strongRecOn with
 |ind n ih=>
  have ho:=ya S T O n
  have g1:Good S T (run S T O n):=by
   cases n with
   |zero=>exact{e:=fun ι ι ι ι ι ι ι ι ι ι ι ι ι ι h=>h.elim,t:=fun ι ι ι ι ι ι ι ι ι ι ι ι ι ι h=>h.elim,c:=fun ι ι ι ι ι ι ι ι ι ι ι ι ι ι ι ι ι h=>h.elim,b:=fun ι ι ι ι ι ι ι ι ι ι ι ι ι ι h=>h.elim,o:=OO.o,oc:=OO.oc}
   |succ m=>
    have G:=ih m (Db _)
    exact{
     e:=fun FN sc cx C ir x h st=>Bn (S:=⟨S,FN⟩) G.toGoodX TO (v6 G.toGood TO) C h
     t:=fun FN sc cx C ir x h st=>Bm (S:=⟨S,FN⟩) G.toGoodX TO C h
     c:=fun FN sc cx C v vs st J g s Q E hk v' vs' hv hvs hP=>Bo (S:=⟨S,FN⟩) G.toGood TO FO C hk hv hvs hP
     b:=fun FN sc cx C ir x h st=>Bp (S:=⟨S,FN⟩) G TO C h
     o:=by rw[ho.1];exact OO.o
     oc:=by rw[ho.2];exact OO.oc}
  exact{g1 with w:=fun FN sc cx C c x hc b y hb st J g s R hk hP=>Bl (S:=⟨S,FN⟩) (T:=T) (w:=fun m=>(run S T O m).w) (H:=fun m=>run S T O m) C (fun ι ι ι=>rfl) (fun ι ι ι ι ι=>⟨rfl,rfl⟩) (fun m hm=>(ih m hm).toGood) hc hb hk hP}
noncomputable def JS(S:Core)(i:IS)(st:St)(o:Out AF):Prop:=∀FN sc cx,CxOk ⟨S,FN⟩ cx sc->∀x,MS S sc i x->Sat ⟨S,FN⟩ cx VF (exec x cx.env) st o
section
variable{S:Core}{T:Tb}{O:Orc}{n n0:Nat}{st st0 st1 st2 st3:St}{k:Nat}{v:Value}{vs:List Value}{o:Out Value}{e:IE}
theorem Sat.after{S:Sta}{cx:Cx}{α β:Type}{VV:Rho->α->β->Prop}{rv:(Nat->Nat)->α->α}(hVV:∀J f v v',VV J (rv f v) v'->VV (fun k=>J (f k)) v v'){t:Jv β}{st:St}{o o':Out α}(h:Sat S cx VV t st o)(WO:WkO S.toCore st.nx rv o o'):Sat S cx VV t st o':=
 fun J g s Q E hk hP=>h J g s Q E hk (Post.weak hVV hk WO hP)
theorem Sat.bind1{S:Sta}{cx:Cx}{α β γ δ:Type}{VV:Rho->α->β->Prop}{VW:Rho->γ->δ->Prop}{t:Jv β}{v:α}{st st1:St}{o:Out γ}{Q:δ->Shared->Prop}{E:Value->Shared->Prop}{Q1:β->Shared->Prop}{J:Rho}{g:Heap}{s:Shared}
  (h:Sat S cx VV t st (some (.ok v,st1))) (hk:Ok S cx g s J st) (hP:Post S cx VW Q E J g s o)
  (k:∀J1 g1 s1 w,Ext S cx J g s J1 g1 s1 st1->VV J1 v w->Post S cx VW Q E J1 g1 s1 o->Q1 w s1):fm (model S.prog S.w) cx.A t Q1 E s:=
 h J g s Q1 E hk fun J1 g1 s1 w x hv=>k J1 g1 s1 w x hv (Post.later hP x)
theorem Post.before{S:Sta}{cx:Cx}{α β:Type}{VV:Rho->α->β->Prop}{Q:β->Shared->Prop}{E:Value->Shared->Prop}{J:Rho}{g:Heap}{s:Shared}{st:St}{f:Nat->Nat}(hk:Ok S cx g s J st)(hf:∀k,k<st.nx->f k=k){o:Out α}(hP:Post S cx VV Q E J g s o):Post S cx VV Q E (fun k=>J (f k)) g s o:=by
 have hle:J.le (fun k=>J (f k)):=by
  obtain⟨m,news,F',N,R,hl⟩:=hk.fr
  exact fJ R.hi (Rho.le_refl _) hf
 match o,hP with
 |some (.ok v,st2),h=>exact fun J2 g2 s2 v' y hv=>h J2 g2 s2 v' ⟨Rho.le_trans hle y.le,y.turn,y.same,y.ok⟩ hv
 |some (.err k,st2),h=>exact fun J2 g2 s2 a y hv=>h J2 g2 s2 a ⟨Rho.le_trans hle y.le,y.turn,y.same,y.ok⟩ hv
theorem Sat.before{S:Sta}{cx:Cx}{α β:Type}{VV:Rho->α->β->Prop}{t:Jv β}{st st1:St}{o:Out α}{f:Nat->Nat}(h:Sat S cx VV t st1 o)(W:Weak S.toCore f st st1)(hf:∀k,k<st.nx->f k=k):Sat S cx VV t st o:=
 fun J g s Q E hk hP=>h _ g s Q E (hk.weak W) (hP.before hk hf)
theorem JB.after{ir:List IS}{o o':Out AF}(h:JB S ir st o)(WO:WkO S st.nx ah o o'):JB S ir st o':=fun FN sc cx C x hm=>Sat.after (S:=⟨S,FN⟩) (fun ι ι ι ι=>VF.ren) (h FN sc cx C x hm) WO
theorem JS.after{ir:IS}{o o':Out AF}(h:JS S ir st o)(WO:WkO S st.nx ah o o'):JS S ir st o':=fun FN sc cx C x hm=>Sat.after (S:=⟨S,FN⟩) (fun ι ι ι ι=>VF.ren) (h FN sc cx C x hm) WO
theorem JE.after{o o':Out Value}(h:JE S e st o)(WO:WkO S st.nx ren o o'):JE S e st o':=fun FN sc cx C x hm=>Sat.after (S:=⟨S,FN⟩) (rv:=ren) (fun ι ι ι ι=>VR.ren) (h FN sc cx C x hm) WO
theorem JB.before{ir:List IS}{o:Out AF}{f:Nat->Nat}(h:JB S ir st1 o)(W:Weak S f st st1)(hf:∀k,k<st.nx->f k=k):JB S ir st o:=fun FN sc cx C x hm=>Sat.before (S:=⟨S,FN⟩) (h FN sc cx C x hm) W hf
theorem JS.before{ir:IS}{o:Out AF}{f:Nat->Nat}(h:JS S ir st1 o)(W:Weak S f st st1)(hf:∀k,k<st.nx->f k=k):JS S ir st o:=fun FN sc cx C x hm=>Sat.before (S:=⟨S,FN⟩) (h FN sc cx C x hm) W hf
theorem JE.before{f:Nat->Nat}(h:JE S e st1 o)(W:Weak S f st st1)(hf:∀k,k<st.nx->f k=k):JE S e st o:=fun FN sc cx C x hm=>Sat.before (S:=⟨S,FN⟩) (h FN sc cx C x hm) W hf
theorem CallSat.after{o o':Out Value}(h:CallSat S k vs st o)(WO:WkO S st.nx ren o o'):CallSat S k vs st o':=
 fun FN sc cx C J g s hk A hA hh hd hu vs' hv R hP=>h FN sc cx C J g s hk A hA hh hd hu vs' hv R (Post.weak (S:=⟨S,FN⟩) (rv:=ren) (fun ι ι ι ι=>VR.ren) hk WO hP)
theorem CallSat.before{f:Nat->Nat}(h:CallSat S k vs st1 o)(W:Weak S f st st1)(hf:∀k,k<st.nx->f k=k):CallSat S k (vs.map (ren f)) st o:=
 fun FN sc cx C J g s hk A hA hh hd hu vs' hv R hP=>h FN sc cx C _ g s (hk.weak (S:=⟨S,FN⟩) W) A hA hh hd hu vs' (VRs.ren hv) R (hP.before hk hf)
theorem WkO.mono{α:Type}{S:Core}{n m:Nat}{rv:(Nat->Nat)->α->α}{o o':Out α}(h:WkO S m rv o o')(hn:n<=m):WkO S n rv o o':=by
 induction h using WkO.casesOn with
 |none=>exact .none
 |ok W hf e=>exact .ok W (fun k hk=>hf k (sw hk hn)) e
 |err W hf e=>exact .err W (fun k hk=>hf k (sw hk hn)) e
theorem eT(TO:TbOk S T)(FO:FnsOk S T)(OO:OrcOk S O)(n:Nat)(e:IE)(st:St):JE S e st ((run S T O n).e e st):=fun FN sc cx C x h=>(cX TO FO OO n).e FN sc cx C _ _ h st
theorem vr(TO:TbOk S T)(FO:FnsOk S T)(OO:OrcOk S O)(n:Nat)(e:IE)(st:St):JT S e st ((run S T O n).t e st):=fun FN sc cx C x h=>(cX TO FO OO n).t FN sc cx C _ _ h st
theorem BA(TO:TbOk S T)(FO:FnsOk S T)(OO:OrcOk S O)(n:Nat)(ir:List IS)(st:St):JB S ir st ((run S T O n).b ir st):=fun FN sc cx C x h=>(cX TO FO OO n).b FN sc cx C _ _ h st
theorem mT(TO:TbOk S T)(FO:FnsOk S T)(OO:OrcOk S O)(n:Nat)(i:IS)(st:St):JS S i st (fc S T (run S T O n) i st):=fun FN sc cx C x h=>y5 (S:=⟨S,FN⟩) (cX TO FO OO n) TO (kf (cX TO FO OO n).toGood TO) C h
theorem Dt(hk:k<S.HB)(h:CallSat S k vs st o):JC S (.ref k) vs st o:=by
 intro FN sc cx C J g s ok v' vs' hv hvs Q E hP
 have:=br (S:=⟨S,FN⟩) (Ok.hdr ok) hk hv
 subst this
 exact HS (h FN sc cx C J g s ok cx.A rfl rfl (by omega) (by omega) vs' hvs _ hP)
theorem bf(FO:FnsOk S T){fi:FnI}(e1:lk T.fns k=some fi){LA LB:List (Nat×AO)}{d:Nat}{lo:List (Nat×Value)}{ob:Out AF}(hled:st.led=LA++LB)(e2:st.dp=d+1)(e3:jn fi.pn (vs++fi.dfl)=some lo)
  (hJ:JB S fi.body {st with dp:=d,nx:=st.nx+fi.cel.length,led:=eN fi.cel st.nx lo++LA,lo:=gV fi.cel st.nx lo} ob):CallSat S k vs st (bE LB (ap st ob)):=by
 intro FN sc cx C J g s hk A hA hh hd hu vs' hv R hP
 obtain⟨name,qual,params,body,scope,dV,kV,doc,pm,cdv,ct,oc,an,od,osl,dM,hl,hc,B⟩:=FO.fn _ _ e1
 exact qN (S:=⟨S,FN⟩) C hk hA hh hd hu hv B (fun news s' ι ι Xs ι=>⟨oc,od,osl,Xs _ _ hl,Kx Xs hc⟩) hled e2 e3 hJ hP
theorem yq{F:Fs}{c:Value->List Value->St->Out Value}:∀(es:List IE) (st:St),d0 {F with c:=c} es st=d0 F es st
 | [],_=>rfl
 |e::r,st=>by
  show Ob (F.e e st) (fun v st1=>Ob (d0 {F with c:=c} r st1) fun vs st2=>some (.ok (v::vs),st2))=Ob (F.e e st) (fun v st1=>Ob (d0 F r st1) fun vs st2=>some (.ok (v::vs),st2))
  congr 1
  funext v st1
  rw[yq r st1]
open Classical in
noncomputable def xG(v0:Value)(vs0:List Value)(st0:St)(o:Out Value)(v:Value)(vs:List Value)(st:St):Out Value:=if v=v0/\vs=vs0/\st=st0 then o else none
theorem yA{F:Fs}(G:GoodX S T F)(h:JC S v vs st o):GoodX S T {F with c:=xG v vs st o}:=
 {e:=G.e,t:=G.t,c:=fun FN sc cx C v' vs' st' J g s Q E hk v2 vs2 hv hvs hP=>by
   dsimp only at hP
   unfold xG at hP
   split at hP
   ·rename_i he
    obtain⟨rfl,rfl,rfl⟩:=he
    exact h FN sc cx C J g s hk v2 vs2 hv hvs Q E hP
   ·exact hP.elim}
theorem xF:xG v vs st o v vs st=o:=if_pos ⟨rfl,rfl,rfl⟩
theorem mU(TO:TbOk S T)(FO:FnsOk S T)(OO:OrcOk S O){f:IE}{es:List IE}(hf:JE S f st (some (.ok (.ref k),st0)))(h0:ll T (.ref k)=true)(ha:d0 (run S T O n) es st0=some (.ok vs,st1))(hc:CallSat S k vs st1 o):JE S (.call f es) st o:=by
 intro FN sc cx C x hm J g s Q E hk hP
 apply hm.on
 intro _ _ _ h1 h2 h3
 ·rw[bX h3]
  refine ca ?_
  refine Sat.bind1 (hf FN sc cx C _ h1) hk hP fun J1 g1 s1 v' x1 hv hP1=>?_
  obtain⟨q5,q6⟩:=TO.kp k h0
  have hv2:=br (S:=⟨S,FN⟩) (Ok.hdr x1.ok) q5 hv
  subst hv2
  have G:=yA (F:=run S T O n) (cX TO FO OO n).toGood.toGoodX (Dt q5 hc)
  refine ey (S:=⟨S,FN⟩) G C x1.ok h2 hv .nil q6 ?_
  rw[yq,ha]
  show Post _ _ _ _ _ _ _ _ (xG (.ref k) vs st1 o (.ref k) vs st1)
  rw[xF]
  exact hP1
theorem Az{y:Nat}(h:JE S e st o):JS S (.asg y e) st (Ob o fun v st1=>some (.ok .next,{st1 with lo:=bI st1.lo y v})):=by
 intro FN sc cx C x hm J g s Q E hk hP
 apply hm.on
 intro _ _ _ h0 h1 h2
 ·refine Im ?_ (bG h1 _ _ _)
  exact Sat.bind (h FN sc cx C _ h0) hk hP fun w st2 hz J1 g1 s1 v' x1 hv hP1=>dv C x1.ok h2 hv hP1
theorem iz(TO:TbOk S T){y x:Nat}{it:IE}{w:Value}(h1:JE S it st (some (.ok v,st1)))(h2:CAns S T x k true v st1 (some (.ok w,st2))):JS S (.asgL y x it k) st (some (.ok .next,{st2 with lo:=bI st2.lo y w})):=by
 generalize ho:some (Res.ok w,st2)=o2 at h2
 cases h2 with
 |bad=>cases ho
 | @rng nn t _ elt' m0 r0 st' f0 sta e0 e1 e3 e4 W0 hf0 z=>
 cases r0 with
 |err j=>
  obtain⟨_,q2⟩:=aM ho.symm
  obtain⟨_,_,q3⟩:q2:=aC q2
  obtain⟨_,_,q4⟩:q3:=aC q3
  cases q4
 |ok uu=>
 obtain⟨q1,q2⟩:=aM ho.symm
 obtain⟨oo,q3,q4⟩:q2:=aC q2
 obtain⟨es,q5,q6⟩:q4:=aC q4
 cases jH q5
 cases q6
 intro FN sc cx C xx hm J g s Q E hk hP
 apply hm.on
 intro i ex px scope pos q r py p a0 a1 a2 a3 a4 a5 a6
 obtain⟨cl,hclos,hcl⟩:=eL (S:=⟨S,FN⟩) C a2.free
 obtain⟨elt,hel,he⟩:=TO.cmps _ _ _ a3
 have hsw:swapsWith (.ListComp ex [⟨.Name (S.nm x) px,.Call (.Name (ag "range") q) [i] [] r,[],0⟩] scope pos) (some (.Name (S.nm y) py)) p.line cx.env=pure true:=by
  show(pure (cx.env.blockKind== .function&&cx.env.kindOf (S.nm y)==some .local&&py.line==pos.line&&!(scope.names.any fun z=>z.1==S.nm y&&(z.2== .local||z.2== .cell))):Jv Bool)=_
  unfold Env.blockKind
  rw[C.K,C.kd (S:=⟨S,FN⟩) a4.1,a5,a6]
  rfl
 rw[exec_Assign_Name_used _ _ _ _ hsw]
 refine ca (Ir (ca ?_))
 show fm _ cx.A (do let _<-comprehension (.ListComp ex [⟨.Name (S.nm x) px,.Call (.Name (ag "range") q) [i] [] r,[],0⟩] scope pos) scope cx.env _ (newList []) false (eval (.Call (.Name (ag "range") q) [i] [] r) cx.env) (some (assign (.Name (S.nm y) py) cx.env))) _ _ s
 refine ca (I0 (Iu (use:=some (assign (.Name (S.nm y) py) cx.env)) (Q:=fun ι s'=>Q .next s') rfl (fun v=>rfl) hclos a2.kind a2.nms ?_) (fun ι s' hq=>oj (oj hq)) fun ι ι e=>e)
 show fm _ _ (eval (.Call (.Name (ag "range") q) [i] [] r) cx.env) _ _ _
 rw[bX rfl]
 refine ca (cL (S:=⟨S,FN⟩) C hk a0 ?_)
 refine Hz ?_ (aL a1.nStar) rfl
 refine Hn ?_ (aL a1.nStar)
 refine Sat.bind1 (h1 FN sc cx C _ a1) hk hP fun J1 g1 s1 v' x1 hv hP1=>?_
 refine HK ?_
 rw[hel] at e1
 cases e1
 obtain⟨u,rfl⟩:=hv
 refine nh (S:=⟨S,FN⟩) C a2 he hcl x1.ok e0 e3 e4 W0 hf0 z q1 (RP:=compPost (model S.prog S.w) cx.A E (some (assign (.Name (S.nm y) py) cx.env)) (fun ι s'=>Q .next s')) fun A D J' g' s' hle ht hs hD hA hok=>?_
 show fm _ cx.A (assign (.Name (S.nm y) py) cx.env (.ref D)) _ E s'
 refine Ho ?_
 refine dQ (S:=⟨S,FN⟩) C (hok.exit C a2) a4 (v:= .ref (st1.nx+1)) ⟨D,hD,rfl⟩ fun s7 x7=>?_
 obtain⟨m5,news5,F5,N5,R5,hl5⟩:=x7.ok.fr
 obtain⟨a5',o5,k1,k2,⟨m6,k3,k4⟩,k6⟩:=ER.find R5.er q3
 have:a5'=A:=by rw[hA] at k1;exact(bd k1).symm
 subst this
 refine⟨m6,k3.ns (N5 _ k2).1,fun h6 hs6=>?_⟩
 exact hP1 J' g' _ .next ⟨Rho.le_trans hle x7.le,Go ht x7.turn,(hs.trans x7.same).trans ⟨rfl,rfl,rfl⟩,x7.ok.letGo (tk:=s7.toks) q3 hA hs6⟩ .next
theorem pv(h:JE S e st o):JS S (.ret e) st (Ob o fun v st1=>some (.ok (.ret v),st1)):=by
 intro FN sc cx C x hm J g s Q E hk hP
 apply hm.on
 intro _ _ h0
 ·refine KL ?_
  exact Sat.bind (h FN sc cx C _ h0) hk hP fun w st2 hz J1 g1 s1 v' x1 hv hP1=>hP1.ret0 x1.ok (.ret hv)
theorem vt(TO:TbOk S T)(FO:FnsOk S T)(OO:OrcOk S O){b h:List IS}{Cc m:Nat}{ob:Out AF}(hb:JB S b st ob):JS S (.try_ b Cc m h) st (tryO T (run S T O n) Cc m h st ob):=by
 intro FN sc cx C x hm
 apply hm.on
 intro _ _ _ _ _ _ _ h1 h2 h3 h4
 exact mt (S:=⟨S,FN⟩) (cX TO FO OO n).toGood TO C (hb FN sc cx C _ h1) h2 h3 h4
theorem c5:JB S [] st (some (.ok .next,st)):=by
 intro FN sc cx C x hm J g s Q E hk hP
 cases hm
 exact HQ (hP.ret0 hk .next)
theorem aN{i:IS}{r:List IS}{o:Out AF}(h:JS S i st (some (.ok .next,st1)))(h2:JB S r st1 o):JB S (i::r) st o:=by
 intro FN sc cx C x hm J g s Q E hk hP
 obtain⟨y,m,rfl,ha,hr⟩:=hm.consL
 refine Iw ?_
 refine Sat.bind1 (h FN sc cx C _ ha) hk hP fun J1 g1 s1 f' x1 hf hP1=>?_
 cases hf
 exact h2 FN sc cx C _ hr J1 g1 s1 Q E x1.ok hP1
theorem bZ{i:IS}{r:List IS}(h:JS S i st (some (.ok (.ret v),st1))):JB S (i::r) st (some (.ok (.ret v),st1)):=by
 intro FN sc cx C x hm J g s Q E hk hP
 obtain⟨y,m,rfl,ha,hr⟩:=hm.consL
 refine Iw ?_
 refine h FN sc cx C _ ha J g s _ _ hk fun J1 g1 s1 f' x1 hf=>?_
 cases hf with
 |ret hv=>exact hP J1 g1 s1 _ x1 (.ret hv)
theorem c6{i:IS}{r:List IS}(h:JS S i st (some (.err k,st1))):JB S (i::r) st (some (.err k,st1)):=by
 intro FN sc cx C x hm J g s Q E hk hP
 obtain⟨y,m,rfl,ha,hr⟩:=hm.consL
 refine Iw ?_
 exact h FN sc cx C _ ha J g s _ _ hk fun J1 g1 s1 a x1 ha=>hP J1 g1 s1 a x1 ha
theorem pO(env:Env):execs [] env=pure .next:=rfl
theorem iH(s:Stmt)(l:List Stmt)(env:Env):execs (s::l) env=(do match<-exec s env with| .next=>execs l env|f=>pure f):=rfl
theorem ec:∀(a r:List Stmt) (env:Env),execs (a++r) env=(do match<-execs a env with| .next=>execs r env|f=>pure f)
 | [],r,env=>by rw[Hw,pO,pure_bind]
 |s::a,r,env=>by
  rw[List.cons_append,iH,iH,bind_assoc]
  refine congrArg _ (funext fun f=>?_)
  cases f with
  |next=>exact ec a r env
  |_=>dsimp only;rw[pure_bind]
theorem ba{a r:List IS}{o:Out AF}(h:JB S a st (some (.ok .next,st1)))(h2:JB S r st1 o):JB S (a++r) st o:=by
 intro FN sc cx C x hm J g s Q E hk hP
 obtain⟨xa,xr,rfl,ha,hr⟩:=d7 hm
 rw[ec]
 refine ca ?_
 refine Sat.bind1 (h FN sc cx C _ ha) hk hP fun J1 g1 s1 f' x1 hf hP1=>?_
 cases hf
 exact h2 FN sc cx C _ hr J1 g1 s1 Q E x1.ok hP1
theorem pu{op:CmpOp}{a b:IE}{x y:Value}{c:Bool}(ha:JE S a st (some (.ok x,st1)))(hb:JE S b st1 (some (.ok y,st2)))(hc:mC S st2 op x y=some c):JT S (.cmp op a b) st (some (.ok c,st2)):=by
 intro FN sc cx C xx hm J g s Q E hk hP
 apply hm.on
 intro _ _ _ h1 h2 h3
 ·refine JY ?_ h3
  refine Sat.bind1 (ha FN sc cx C _ h1) hk hP fun J1 g1 s1 v' x1 hv hP1=>?_
  refine Sat.bind1 (hb FN sc cx C _ h2) x1.ok hP1 fun J2 g2 s2 u' x2 hu hP2=>?_
  refine ta (S:=⟨S,FN⟩) (c:=c) C x2.ok (hv.le x2.le) hu hc fun J3 g3 s3 d x3 hd=>?_
  cases hd
  exact I5 (hP2 J3 g3 s3 c x3 rfl)
theorem iM{c:IE}{a b:List IS}{q:Bool}{o:Out AF}(hc:JT S c st (some (.ok q,st1)))(h:JB S (if q then a else b) st1 o):JS S (.if_ c a b) st o:=by
 intro FN sc cx C x hm J g s Q E hk hP
 apply hm.on
 intro _ _ _ _ h1 h2 h3
 ·refine wpAny_If ?_
  refine Sat.bind1 (hc FN sc cx C _ h1) hk hP fun J1 g1 s1 d' x1 hd hP1=>?_
  subst d'
  cases q with
  |true=>exact h FN sc cx C _ h2 J1 g1 s1 Q E x1.ok hP1
  |false=>exact h FN sc cx C _ h3 J1 g1 s1 Q E x1.ok hP1
inductive Turns(S:Core)(c:IE)(b:List IS)(n0:Nat):Nat->St->Out AF->Prop
 |stop {n:Nat} {st st1:St}:JT S c st (some (.ok false,st1))->Turns S c b n0 (n+1) st (some (.ok .next,st1))
 |next {n:Nat} {f:Nat->Nat} {st st1 st2 st3:St} {o:Out AF}:JT S c st (some (.ok true,st1))->JB S b st1 (some (.ok .next,st2))->Weak S f st2 st3->(∀k,k<n0->f k=k)->Turns S c b n0 n st3 o->Turns S c b n0 (n+1) st o
 |ret {n:Nat} {st st1 st2:St} {v:Value}:JT S c st (some (.ok true,st1))->JB S b st1 (some (.ok (.ret v),st2))->Turns S c b n0 (n+1) st (some (.ok (.ret v),st2))
 |err {n:Nat} {st st1 st2 st3:St} {k:Nat}:JT S c st (some (.ok true,st1))->JB S b st1 (some (.err k,st2))->am st2 k=some st3->Turns S c b n0 (n+1) st (some (.err k,st3))
inductive TInv(S:Sta)(cx:Cx)(c:IE)(b:List IS)(n0:Nat)(o:Out AF)(J:Rho)(g:Heap)(s:Shared)(n:Nat)(s1:Shared):Prop
 |mk (J1:Rho) (g1:Heap) (st1:St) (hle:J.le J1) (ht:Hd (cx.outer.filterMap (·.frame)) g g1) (hs:Same s s1) (hk:Ok S cx g1 s1 J1 st1) (hT:Turns S.toCore c b n0 n st1 o):TInv S cx c b n0 o J g s n s1
theorem oQ{S:Sta}{cx:Cx}{sc:Scope}(C:CxOk S cx sc){c:IE}{b:List IS}{x:Expr}{y:List Stmt}(hc:ME S.toCore sc c x)(hb:All2 (MS S.toCore sc) b y){J:Rho}{g:Heap}{s:Shared}{st:St}{n:Nat}{o:Out AF}{R:Hp->Shared->Prop}{f0:Nat->Nat}{sta:St}(hk:Ok S cx g s J st)(W0:Weak S.toCore f0 st sta)(hf0:∀k,k<st.nx->f0 k=k)(h:Turns S.toCore c b st.nx n sta o)
  (hP:Post S cx VF (fun f s'=>R (.ok f) s') (fun e s'=>R (.error e) s') J g s o):Hj (model S.prog S.w) cx.A (.whileLoop x y [] cx.env) R s:=by
 have hlow:∀k,st.nx<=k->J k=none:=by
  obtain⟨m,news,F',N,R,hl⟩:=hk.fr
  exact R.hi
 refine KN (TInv S cx c b st.nx o J g s) ?_ n ⟨_,g,sta,fJ hlow (Rho.le_refl _) hf0,Cn,Same.rfl' _,hk.weak W0,h⟩
 rintro n s1 ⟨J1,g1,st1,hle,ht,hs,hk1,hT⟩
 induction hT with
 |stop h1=>
  refine h1 S.FN sc cx C _ hc J1 g1 s1 _ _ hk1 fun J2 g2 s2 q x2 hq=>?_
  cases hq
  exact HQ (hP J2 g2 s2 .next ⟨Rho.le_trans hle x2.le,Go ht x2.turn,hs.trans x2.same,x2.ok⟩ .next)
 |next h1 h2 W hf hT ih=>
  refine h1 S.FN sc cx C _ hc J1 g1 s1 _ _ hk1 fun J2 g2 s2 q x2 hq=>?_
  cases hq
  show fm _ cx.A (execs y cx.env) _ _ s2
  refine h2 S.FN sc cx C _ hb J2 g2 s2 _ _ x2.ok fun J3 g3 s3 fl x3 hfl=>?_
  cases hfl
  have x23:=x2.trans x3
  exact⟨_,Db _,_,g3,_,fJ hlow (Rho.le_trans hle x23.le) hf,Go ht x23.turn,hs.trans x23.same,x3.ok.weak W,hT⟩
 |ret h1 h2=>
  refine h1 S.FN sc cx C _ hc J1 g1 s1 _ _ hk1 fun J2 g2 s2 q x2 hq=>?_
  cases hq
  show fm _ cx.A (execs y cx.env) _ _ s2
  refine h2 S.FN sc cx C _ hb J2 g2 s2 _ _ x2.ok fun J3 g3 s3 fl x3 hfl=>?_
  have x23:=x2.trans x3
  cases hfl with
  |ret hv=>exact hP J3 g3 s3 _ ⟨Rho.le_trans hle x23.le,Go ht x23.turn,hs.trans x23.same,x3.ok⟩ (.ret hv)
 |err h1 h2 en=>
  refine h1 S.FN sc cx C _ hc J1 g1 s1 _ _ hk1 fun J2 g2 s2 q x2 hq=>?_
  cases hq
  show fm _ cx.A (execs y cx.env) _ _ s2
  refine h2 S.FN sc cx C _ hb J2 g2 s2 _ _ x2.ok fun J3 g3 s3 a x3 ha=>?_
  refine gi C x3.ok ha en fun J4 g4 s4 x4 ha4=>?_
  have x24:=(x2.trans x3).trans x4
  exact hP J4 g4 s4 a ⟨Rho.le_trans hle x24.le,Go ht x24.turn,hs.trans x24.same,x4.ok⟩ ha4
theorem gZ{c:IE}{b:List IS}{o:Out AF}{f0:Nat->Nat}{sta:St}(W0:Weak S f0 st sta)(hf0:∀k,k<st.nx->f0 k=k)(h:Turns S c b st.nx n sta o):JS S (.while_ c b) st (nq o):=by
 intro FN sc cx C x hm J g s Q E hk hP
 apply hm.on
 intro _ _ _ h1 h2
 ·refine Lw ?_
  refine oQ (S:=⟨S,FN⟩) C h1 h2 hk W0 hf0 h ?_
  cases o with
  |none=>exact hP.elim
  |some o=>
   obtain⟨o,st1⟩:=o
   cases o with
   |ok f=>exact hP
   |err k=>
    obtain⟨e1,hP2⟩:Post:=Post.grd (show Post ⟨S,FN⟩ cx VF Q E J g s (grd (da st1 k) (some (.err k,st1))) from hP)
    intro J1 g1 s1 a x1 ha
    exact fN (S:=⟨S,FN⟩) C x1.ok ha e1 fun s' x2=>hP2 J1 g1 s' a (x1.trans x2) ha
theorem rI{x:Nat}{it:IE}{b:List IS}{o:Out AF}(h1:JE S it st (some (.ok v,st1)))(h2:RAns S x b v st1 o):JS S (.forR x it b) st o:=by
 intro FN sc cx C y hm
 apply hm.on
 intro _ _ _ _ _ _ a1 a2 a3 a4
 exact kN (S:=⟨S,FN⟩) C a1 a2.nStar a3 a4 (k:=fun ι ι=>o) (h1 FN sc cx C _ a2) fun v st2 hz=>(by cases hz;exact h2)
theorem Ay{x:Nat}{it:IE}{b:List IS}{o:Out AF}(h1:JE S it st (some (.ok v,st1)))(h2:FAns S x b v st1 o):JS S (.for_ x it b) st o:=by
 intro FN sc cx C y hm
 apply hm.on
 intro _ _ _ _ a1 a2 a3 a4
 exact mv (S:=⟨S,FN⟩) C (fun v=>gv a1 _ v) a3 a4 (k:=fun ι ι=>o) (h1 FN sc cx C _ a1) fun v st2 hz=>(by cases hz;exact h2)
end
noncomputable def wf(n' n:Nat)(tb:List (Nat×Nat))(k:Nat):Nat:=match u8 k n' with
 |true=>match lk tb k with
  |some a=>a
  |none=>k
 |false=>k+n
noncomputable def tokV:Value->List Nat
 | .ref k=> [k]
 |_=> []
noncomputable def ft:AO->List Nat
 | .tup vs=>vs.flatMap tokV
 | .lst vs=>vs.flatMap tokV
 | .inst _ d=> [d]
 | .adict es=>es.flatMap fun p=>tokV p.2
 | .sdict es=>es.flatMap fun p=>tokV p.2
 | .pdict es=>es.flatMap fun p=>tokV p.2
 | .ns es=>es.flatMap fun p=>tokV p.2
 | .tdict es=>es.flatMap fun p=>p.2.1::tokV p.2.2
 | .exc _ d t=> [d,t]
 | .exn _ t=> [t]
 | .exd _ d t=> [d,t]
 | .cell (some v)=>tokV v
 | .dfn _ t=> [t]
 |_=> []
noncomputable def BE(n0:Nat)(A' A:List (Nat×AO)):Nat->List (Nat×Nat)->List (Nat×Nat)->List (Nat×Nat)
 |0,_,tb=>tb
 |_+1,[],tb=>tb
 |f+1,p::w,tb=>match u8 p.1 n0 with
  |true=>BE n0 A' A f w tb
  |false=>match lk tb p.1 with
   |some _=>BE n0 A' A f w tb
   |none=>match lk A' p.1,lk A p.2 with
    |some x',some x=>BE n0 A' A f ((ft x').zip (ft x)++w) (p::tb)
    |_,_=>BE n0 A' A f w (p::tb)
noncomputable def nU(A' A:List (Nat×AO)):List Nat->List (Nat×Nat)
 | []=> []
 |k::r=>(match lk A' k,lk A k with
  |some x',some x=>(ft x').zip (ft x)
  |_,_=> [])++nU A' A r
noncomputable def CF{α:Type}(rv:(Nat->Nat)->α->α)(f:Nat->Nat):Res α->Res α
 | .ok v=> .ok (rv f v)
 | .err k=> .err (f k)
noncomputable def BV{α:Type}(tv:α->List Nat):Res α->List Nat
 | .ok v=>tv v
 | .err k=> [k]
noncomputable def tokF:AF->List Nat
 | .ret v=>tokV v
 |_=> []
noncomputable def qg:List (Nat×Value)->List (Nat×Value)->List (Nat×Nat)
 | [],_=> []
 |p::r,lo=>(match lk lo p.1 with
  |some v=>(tokV p.2).zip (tokV v)
  |none=> [])++qg r lo
noncomputable def uR:Option Nat->List Nat
 |some k=> [k]
 |none=> []
noncomputable def ng(k:Nat):List (Nat×AO)->List (Nat×AO)
 | []=> []
 |p::r=>match av p.1 k with
  |true=> [p]
  |false=>p::ng k r
noncomputable def sR(k:Nat):List (Nat×AO)->List (Nat×AO)
 | []=> []
 |p::r=>match av p.1 k with
  |true=>r
  |false=>sR k r
theorem qv(k:Nat):∀l:List (Nat×AO),ng k l++sR k l=l
 | []=>rfl
 |p::r=>by
  rw[show ng k (p::r)=(match av p.1 k with|true=> [p]|false=>p::ng k r) from rfl,show sR k (p::r)=(match av p.1 k with|true=>r|false=>sR k r) from rfl]
  cases av p.1 k with
  |true=>rfl
  |false=>exact congrArg (p:: ·) (qv k r)
noncomputable def pA(k:Nat):List Nat->Bool
 | []=>false
 |i::r=>match av i k with
  |true=>true
  |false=>pA k r
noncomputable def Ce:List Nat->Bool
 | []=>true
 |i::r=>match pA i r with
  |true=>false
  |false=>Ce r
section
variable{α:Type}(rv:(Nat->Nat)->α->α)(tv:α->List Nat)
noncomputable def cD(n0 m:Nat)(mm:List Nat)(A' X:List (Nat×AO))(nx':Nat)(hd':Option Nat)(lo':List (Nat×Value))(dp':Nat)(r':Res α):Out α->
  (List (Option AO)×List (Option Value)×Option (Res α)×Option Nat×List (Nat×AO)×Bool)×(List (Option AO)×List (Option Value)×Option (Res α)×Option Nat×List (Nat×AO)×Bool)
 |none=>(([],[],none,none,[],false),([],[],none,none,[],true))
 |some (r,st1)=>
  let A:=ng m st1.led
  let tb:=BE n0 A' A 300 (nU A' A mm++qg lo' st1.lo++(BV tv r').zip (BV tv r)++(uR hd').zip (uR st1.hd)) []
  let f:=wf nx' st1.nx tb
  ((A'.map (fun p=>lk A (f p.1)),lo'.map (fun p=>lk st1.lo p.1),some r,st1.hd,sR m st1.led,
   gy n0 nx'&&tb.all (fun p=>gy n0 p.1||av p.1 p.2)&&Ce (A'.map fun p=>f p.1)&&A'.all (fun p=>!dc p.2||av (f p.1) p.1)&&gy dp' st1.dp),
   (A'.map (fun p=>some (bg f p.2)),lo'.map (fun p=>some (ren f p.2)),some (CF rv f r'),hd'.map f,X,true))
end
noncomputable def Low(n0:Nat)(X:List (Nat×AO)):Prop:=∀f:Nat->Nat,(∀k,k<n0->f k=k)->∀p∈X,f p.1=p.1/\bg f p.2=p.2
noncomputable def yW(S:Core)(n0:Nat):Prop:=∀f:Nat->Nat,(∀k,k<n0->f k=k)->∀gs es,S.dfi.gd gs es->∀p∈es,ren f p.2=p.2
theorem aO{n0:Nat}:Low n0 []:=fun ι ι ι h=>nomatch h
theorem Low.app{n0:Nat}{a b:List (Nat×AO)}(h:Low n0 a)(h':Low n0 b):Low n0 (a++b):=fun f hf p hp=>(nl.mp hp).elim (h f hf p) (h' f hf p)
theorem qa:∀{l:List Nat} {k:Nat},k∈l->pA k l=true
 |i::r,k,h=>by
  rw[show pA k (i::r)=(match av i k with|true=>true|false=>pA k r) from rfl]
  cases e:av i k with
  |true=>rfl
  |false=>
   rcases eq.mp h with rfl|h
   ·exact absurd rfl (aY e)
   ·exact qa h
theorem u5:∀{l:List Nat},Ce l=true->l.Nodup
 | [],_=> .nil
 |i::r,h=>by
  have h:(match pA i r with|true=>false|false=>Ce r)=true:=h
  cases e:pA i r with
  |true=>rw[e] at h;cases h
  |false=>
   rw[e] at h
   rw[sB]
   exact⟨fun hm=>(by rw[qa hm] at e;cases e),u5 h⟩
theorem oM{n' n n0:Nat}{tb:List (Nat×Nat)}(h:n0<=n')(ht:tb.all (fun p=>gy n0 p.1||av p.1 p.2)=true)(k:Nat)(hk:k<n0):wf n' n tb k=k:=by
 unfold wf
 rw[show u8 k n'=true from ls (sw hk h)]
 dsimp only
 cases e:lk tb k with
 |none=>rfl
 |some a=>
  dsimp only
  have:=eg.mp ht _ (az e)
  rw[Jm] at this
  rcases this with q|q
  ·exact absurd (al q) (HM hk)
  ·exact(aH q).symm
theorem cq{α β:Type}{f g:α->β}{l:List α}(h:l.map f=l.map g){a:α}(ha:a∈l):f a=g a:=(wv.mp h) a ha
theorem qD{S:Core}{n0 m nx' dp':Nat}{A' X:List (Nat×AO)}{hd':Option Nat}{lo':List (Nat×Value)}{st1:St}{f:Nat->Nat}(hB:S.HB<=n0)(hG:yW S n0)(hX:Low n0 X)(hn:n0<=nx')(hi:∀k,nx'<=k->st1.nx<=f k)(hf:∀k,k<n0->f k=k)
  (e1:A'.map (fun p=>lk (ng m st1.led) (f p.1))=A'.map (fun p=>some (bg f p.2))) (e2:lo'.map (fun p=>lk st1.lo p.1)=lo'.map (fun p=>some (ren f p.2))) (e4:st1.hd=hd'.map f) (e5:sR m st1.led=X) (e6:Ce (A'.map fun p=>f p.1)=true) (e7:A'.all (fun p=>!dc p.2||av (f p.1) p.1)=true) (e8:dp'<=st1.dp):
  Weak S f st1 ⟨nx',hd',dp',A'++X,lo'⟩:=by
 have hled:st1.led=ng m st1.led++X:=by rw[<-e5];exact(qv m _).symm
 refine{hd:=fun k hk=>hf k (sw hk hB),hb:=fun ι=>na hB hn,gh:=hG f hf,hi:=hi,led:=fun p hp=>?_,nd:=fun h=>?_,lo:=fun x v e=>cq e2 (az e),pin:=fun p hp h=>?_,h:=e4,dp:=e8}
 ·rw[hled]
  rcases nl.mp hp with hp|hp
  ·exact r6 _ (az (cq e1 hp))
  ·obtain⟨a,b⟩:=hX f hf p hp
   rw[a,b]
   exact ev _ hp
 ·rw[hled,wE,zs] at h
  rw[wE,zs]
  have hXm:X.map (fun p=>f p.1)=X.map (·.1):=wv.mpr fun p hp=>(hX f hf p hp).1
  refine⟨u5 e6,by rw[hXm];exact h.2.1,fun a ha b hb=>?_⟩
  rw[hXm] at hb
  obtain⟨p,hp,rfl⟩:=re.mp ha
  exact h.2.2 _ (re.mpr ⟨_,az (cq e1 hp),rfl⟩) b hb
 ·rcases nl.mp hp with hp|hp
  ·have:=eg.mp e7 p hp
   rw[h] at this
   exact aH (by simpa using this)
  ·exact(hX f hf p hp).1
theorem sv{S:Core}{α:Type}{rv:(Nat->Nat)->α->α}{tv:α->List Nat}{n0 m nx' dp':Nat}{mm:List Nat}{A' X:List (Nat×AO)}{hd':Option Nat}{lo':List (Nat×Value)}{r':Res α}{o:Out α}(hB:S.HB<=n0)(hG:yW S n0)(hX:Low n0 X)
  (e:(cD rv tv n0 m mm A' X nx' hd' lo' dp' r' o).1=(cD rv tv n0 m mm A' X nx' hd' lo' dp' r' o).2):∃r st1 f,o=some (r,st1)/\Weak S f st1 ⟨nx',hd',dp',A'++X,lo'⟩/\(∀k,k<n0->f k=k)/\r=CF rv f r':=by
 cases o with
 |none=>cases e
 |some q=>
  obtain⟨r,st1⟩:=q
  unfold cD at e
  dsimp only at e
  generalize BE n0 A' (ng m st1.led) 300 _ []=tb at e
  simp only[Li,db] at e
  obtain⟨e1,e2,e3,e4,e5,⟨⟨⟨e6,e7⟩,e8⟩,e9⟩,e10⟩:=e
  have hn:=al e6
  have hf:=oM (n:=st1.nx) hn e7
  refine⟨r,st1,wf nx' st1.nx tb,rfl,qD hB hG hX hn (fun k hk=>?_) hf e1 e2 e4 e5 e8 e9 (al e10),hf,bd e3⟩
  unfold wf
  have:u8 k nx'=false:=by
   cases z:u8 k nx' with
   |false=>rfl
   |true=>exact absurd (al z) (HM (Jc hk))
  rw[this]
  exact Jl _ _
theorem ku{S:Core}{α:Type}{rv:(Nat->Nat)->α->α}{tv:α->List Nat}{n0 m nx' dp':Nat}{mm:List Nat}{A' X:List (Nat×AO)}{hd':Option Nat}{lo':List (Nat×Value)}{r':Res α}{o:Out α}(hB:S.HB<=n0)(hG:yW S n0)(hX:Low n0 X)
  (e:(cD rv tv n0 m mm A' X nx' hd' lo' dp' r' o).1=(cD rv tv n0 m mm A' X nx' hd' lo' dp' r' o).2):WkO S n0 rv o (some (r',⟨nx',hd',dp',A'++X,lo'⟩)):=by
 obtain⟨r,st1,f,rfl,W,hf,hr⟩:=sv hB hG hX e
 cases r' with
 |ok v=>cases hr;exact .ok W hf rfl
 |err k=>cases hr;exact .err W hf rfl
noncomputable abbrev G3:Nat:=1303
noncomputable def NMS:List String:= ["self","numeric","characters","place","CHARACTER","load_number","value","store_number","cells","address","count","kind","DOUBLE","COMPLEX","tag","cell","need_units","units_of","read_cell","length","subscripts","dims","offset","stride","k","low","high","unit_size","memory","limits","units","world","expressions","statements","frame","depth","steps","places","flows","clears","active","loops","operations","library","run","tree","name","found","named_place","element_place","evaluate","one","load","place_of","target","store","items","step","at","levels","Level","elements","level","take","item","has_place","flat","word","start","inner","part","add_flat","again","flat_of","counts","is_used","idle","has_value","MOST_IDLE","entry","close_group","DATA_WORDS","is_zeros","scale","is_plus","signs","text","MOST_LINE","sign","edit","control","FormatControl","modes","FormatModes","line","Line","records","next_item","put","source","read","record","next_record","width","field","input_records","input","out","makers","EndFault","next_input","number","unit","sort","maker","deliver","finish","is_internal","is_standard","OUTPUT_UNIT","refuse_number","Writing","maker_of","rec","write_record","write_direct","INPUT_UNIT","InputSource","source_of","is_blank_zero","fault","code","is_write","unit_value","format_value","label","outcome","store_value","iostat_of","stmt","control_values","IoFault","reading","begin_read","settle","walk","ListWalk","next","done","writing","begin_write","item_value","texts","do_read","do_write","real_digits","double_digits","top_exponent","continuations","columns","dummies","entries","symbols","formats","labels","result","commons","equivs","datas","saves","constants","files","F77Error","__init__","wheel","many","_law_spin","INTEGER","is_read","has_stat","_","way","_law_node","piece","rows","into","World","row","Store","Run","Memory","Limits","eval_const","eval_place","_law_ask","deed","transfer_statements","UnitTree","node","own","_law_told","end","_law_moved","script","_law_fields","turn","deeds","_law_deed","_law_run","_law_heard","_law_due","FormatWriter","_law_tree","_law_edit","FormatReader","_law_field"]
noncomputable def kE:List IS:= [(.asgA (.loc 0) 1 (.bin .Mult (.lst [(.cst .none)]) (.loc 1))),(.asgA (.loc 0) 2 (.bin .Mult (.lst [(.cst .none)]) (.loc 2)))]
noncomputable def kD:List IS:= [(.if_ (.cmp .Eq (.idx (.loc 3) (.cst (.int 0 0))) (.glob 4 (.int (5) 368))) [.bad] []),(.ret (.call (.glob 5 (.ref 211)) [(.attr (.loc 0) 1),(.idx (.loc 3) (.cst (.int 0 0))),(.idx (.loc 3) (.cst (.int 1 0)))]))]
noncomputable def jf:List IS:= [(.if_ (.cmp .Eq (.idx (.loc 3) (.cst (.int 0 0))) (.glob 4 (.int (5) 368))) [.bad] [(.expr (.call (.glob 7 (.ref 218)) [(.attr (.loc 0) 1),(.idx (.loc 3) (.cst (.int 0 0))),(.idx (.loc 3) (.cst (.int 1 0))),(.loc 6)]))])]
noncomputable def mF:List IS:= [(.if_ (.or_ [(.cmp .Lt (.loc 9) (.cst (.int 0 0))),(.cmp .Gt (.bin .Add (.loc 9) (.loc 10)) (.bcall .len [(.loc 8)]))]) [.bad] [])]
noncomputable def pY:List IS:= [(.if_ (.cmp .Eq (.loc 11) (.glob 4 (.int (5) 368))) [.bad] []),(.if_ (.or_ [(.cmp .Eq (.loc 11) (.glob 12 (.int (2) 364))),(.cmp .Eq (.loc 11) (.glob 13 (.int (3) 366)))]) [.bad] []),(.ret (.cst (.int 1 0)))]
noncomputable def nu:List IS:= [(.asg 15 (.idx (.loc 8) (.loc 9))),(.if_ (.or_ [(.cmp .Is (.loc 15) (.cst .none)),(.cmp .NotEq (.idx (.loc 15) (.cst (.int 0 0))) (.loc 14))]) [.bad] []),(.ret (.idx (.loc 15) (.cst (.int 1 0))))]
noncomputable def jx:List IS:= [(.expr (.call (.glob 16 (.ref 197)) [(.loc 8),(.loc 9),(.call (.glob 17 (.ref 148)) [(.loc 11)])])),(.if_ (.cmp .Eq (.loc 11) (.glob 13 (.int (3) 366))) [.bad] []),(.asg 6 (.call (.glob 18 (.ref 204)) [(.loc 8),(.loc 9),(.loc 11)])),(.if_ (.cmp .Eq (.loc 11) (.glob 12 (.int (2) 364))) [.bad] []),(.ret (.loc 6))]
noncomputable def j9:List IS:= [(.expr (.call (.glob 16 (.ref 197)) [(.loc 8),(.loc 9),(.call (.glob 17 (.ref 148)) [(.loc 11)])])),(.if_ (.cmp .Eq (.loc 11) (.glob 13 (.int (3) 366))) [.bad,.bad,.bad] []),(.asgI (.loc 8) (.loc 9) (.tup [(.loc 11),(.loc 6)])),(.if_ (.cmp .Eq (.loc 11) (.glob 12 (.int (2) 364))) [.bad] [])]
noncomputable def nr:List IS:= [(.if_ (.cmp .Eq (.loc 11) (.glob 4 (.int (5) 368))) [.bad] []),(.ret (.call (.glob 17 (.ref 148)) [(.loc 11)]))]
noncomputable def iT:List IS:= [(.asgT [.loc 11,.loc 9,.loc 19,.loc 21] (.loc 3)),(.if_ (.cmp .NotEq (.bcall .len [(.loc 20)]) (.bcall .len [(.loc 21)])) [.bad] []),(.asg 22 (.cst (.int 0 0))),(.asg 23 (.cst (.int 1 0))),(.forR 24 (.bcall .len [(.loc 21)]) [(.asgT [.loc 25,.loc 26] (.idx (.loc 21) (.loc 24))),(.if_ (.or_ [(.cmp .Lt (.idx (.loc 20) (.loc 24)) (.loc 25)),(.and_ [(.cmp .IsNot (.loc 26) (.cst .none)),(.cmp .Gt (.idx (.loc 20) (.loc 24)) (.loc 26))])]) [.bad] []),(.aug 22 .Add (.bin .Mult (.bin .Sub (.idx (.loc 20) (.loc 24)) (.loc 25)) (.loc 23))),(.if_ (.cmp .IsNot (.loc 26) (.cst .none)) [(.aug 23 .Mult (.bin .Add (.bin .Sub (.loc 26) (.loc 25)) (.cst (.int 1 0))))] [])]),(.ret (.tup [(.loc 11),(.bin .Add (.loc 9) (.bin .Mult (.loc 22) (.call (.glob 27 (.ref 246)) [(.loc 11),(.loc 19)]))),(.loc 19),(.tup [])]))]
noncomputable def pd:List IS:= [(.asgA (.loc 0) 28 (.loc 28)),(.asgA (.loc 0) 29 (.loc 29)),(.asgA (.loc 0) 30 (.loc 30)),(.asgA (.loc 0) 31 (.loc 31)),(.asgA (.loc 0) 32 (.loc 32)),(.asgA (.loc 0) 33 (.loc 33)),(.asgA (.loc 0) 34 (.dct [] [])),(.asgA (.loc 0) 35 (.cst (.int 0 0))),(.asgA (.loc 0) 36 (.cst (.int 0 0))),(.asgA (.loc 0) 37 (.dct [] [])),(.asgA (.loc 0) 38 (.dct [] [])),(.asgA (.loc 0) 39 (.dct [] [])),(.asgA (.loc 0) 40 (.lst [])),(.asgA (.loc 0) 41 (.dct [] [])),(.asgA (.loc 0) 42 (.dct [] [])),(.asgA (.loc 0) 43 (.cst .none))]
noncomputable def pa:List IS:= [(.if_ (.cmp .NotIn (.idx (.loc 45) (.cst (.int 0 0))) (.attr (.loc 44) 32)) [.bad] []),(.ret (.call (.idx (.attr (.loc 44) 32) (.idx (.loc 45) (.cst (.int 0 0)))) [(.loc 44),(.loc 45)]))]
noncomputable def jw:List IS:= [(.asg 47 (.bcall .get [(.attr (.loc 44) 34),(.loc 46)])),(.if_ (.not_ (.bcall .isTup [(.loc 47)])) [.bad] []),(.ret (.loc 47))]
noncomputable def pZ:List IS:= [(.if_ (.cmp .Eq (.idx (.loc 45) (.cst (.int 0 0))) (.cst (.str (ag "substr") 0))) [.bad] []),(.asg 3 (.call (.glob 48 (.ref 321)) [(.cel 44),(.idx (.loc 45) (.cst (.int 2 0)))])),(.if_ (.cmp .Eq (.idx (.loc 45) (.cst (.int 0 0))) (.cst (.str (ag "elem") 0))) [(.ret (.call (.glob 49 (.ref 260)) [(.loc 3),(.comp false 51 (.idx (.loc 45) (.cst (.int 3 0))) 0)]))] []),(.ret (.loc 3))]
noncomputable def nz:List IS:= [(.ret (.cmp .In (.idx (.loc 45) (.cst (.int 0 0))) (.tup [(.cst (.str (ag "var") 0)),(.cst (.str (ag "array") 0)),(.cst (.str (ag "elem") 0)),(.cst (.str (ag "substr") 0))])))]
noncomputable def mJ:List IS:= [(.ret (.idx (.loc 45) (.cst (.int 2 0))))]
noncomputable def mH:List IS:= [(.ret (.mcall (.attr (.loc 44) 28) 52 [(.call (.glob 53 (.ref 340)) [(.loc 44),(.loc 45)])]))]
noncomputable def jv:List IS:= [(.expr (.mcall (.attr (.loc 44) 28) 55 [(.call (.glob 53 (.ref 340)) [(.loc 44),(.loc 54)]),(.loc 6)]))]
noncomputable def mN:List IS:= [(.asgA (.loc 0) 56 (.loc 56)),(.asgA (.loc 0) 58 (.cst (.int 0 0))),(.asgA (.loc 0) 54 (.loc 54)),(.asgA (.loc 0) 57 (.loc 57)),(.asgA (.loc 0) 10 (.loc 10))]
noncomputable def iX:List IS:= [(.asgA (.loc 0) 44 (.loc 44)),(.asgA (.loc 0) 59 (.lst [(.call (.glob 60 (.ref 511)) [(.loc 56),(.cst .none),(.cst .none),(.cst (.int 1 0))])])),(.asgA (.loc 0) 61 (.lst []))]
noncomputable def iW:List IS:= [(.while_ (.or_ [(.attr (.loc 0) 61),(.attr (.loc 0) 59)]) [(.if_ (.attr (.loc 0) 61) [.bad,.bad] []),(.asg 62 (.idx (.attr (.loc 0) 59) (.neg 1))),(.if_ (.cmp .Eq (.attr (.loc 62) 10) (.cst (.int 0 0))) [(.expr (.bcall .pop [(.attr (.loc 0) 59)]))] [(.if_ (.cmp .Eq (.attr (.loc 62) 58) (.bcall .len [(.attr (.loc 62) 56)])) [(.if_ (.cmp .Is (.attr (.loc 62) 54) (.cst .none)) [(.expr (.bcall .pop [(.attr (.loc 0) 59)]))] [.bad])] [(.augA (.loc 62) 58 .Add (.cst (.int 1 0))),(.asg 47 (.mcall (.loc 0) 63 [(.idx (.attr (.loc 62) 56) (.bin .Sub (.attr (.loc 62) 58) (.cst (.int 1 0))))])),(.if_ (.cmp .IsNot (.loc 47) (.cst .none)) [(.ret (.loc 47))] [])])])]),(.ret (.cst .none))]
noncomputable def iV:List IS:= [(.if_ (.cmp .Eq (.idx (.loc 64) (.cst (.int 0 0))) (.cst (.str (ag "ido") 0))) [.bad] [(.if_ (.cmp .Eq (.idx (.loc 64) (.cst (.int 0 0))) (.cst (.str (ag "array") 0))) [.bad,.bad] [(.if_ (.call (.glob 65 (.ref 347)) [(.loc 64)]) [(.asg 3 (.call (.glob 53 (.ref 340)) [(.attr (.loc 0) 44),(.loc 64)])),(.ret (.tup [(.idx (.loc 3) (.cst (.int 0 0))),(.loc 3),(.cst .none)]))] [(.ret (.tup [(.idx (.loc 64) (.cst (.int 1 0))),(.cst .none),(.loc 64)]))])])]),.bad]
noncomputable def pb:List IS:= [(.asg 67 (.idx (.loc 64) (.cst (.int 0 0)))),(.if_ (.and_ [(.cmp .NotEq (.loc 67) (.cst (.str (ag "group") 0))),(.cmp .NotEq (.loc 67) (.cst (.str (ag "repeat") 0)))]) [(.expr (.bcall .append [(.loc 66),(.loc 64)])),.ret0] []),(.asg 68 (.bcall .len [(.loc 66)])),(.expr (.bcall .append [(.loc 66),(.tup [(.cst (.str (ag "begin") 0)),(.idx (.loc 64) (.cst (.int 1 0)))])])),(.asg 69 (.ite (.cmp .Eq (.loc 67) (.cst (.str (ag "group") 0))) (.idx (.loc 64) (.cst (.int 2 0))) (.lst [(.idx (.loc 64) (.cst (.int 2 0)))]))),(.for_ 70 (.loc 69) [(.expr (.call (.glob 71 (.ref 691)) [(.loc 70),(.loc 66)]))]),(.expr (.bcall .append [(.loc 66),(.tup [(.cst (.str (ag "end") 0)),(.loc 68)])]))]
noncomputable def sY:List IS:= [(.asg 66 (.lst [])),(.asg 72 (.cst (.int 0 0))),(.for_ 64 (.loc 45) [(.if_ (.cmp .Eq (.idx (.loc 64) (.cst (.int 0 0))) (.cst (.str (ag "group") 0))) [(.asg 72 (.bcall .len [(.loc 66)]))] []),(.expr (.call (.glob 71 (.ref 691)) [(.loc 64),(.loc 66)]))]),(.ret (.tup [(.loc 66),(.loc 72)]))]
noncomputable def eR:List IS:= [(.asgT [.attr (.loc 0) 66,.attr (.loc 0) 72] (.call (.glob 73 (.ref 698)) [(.loc 45)])),(.asgA (.loc 0) 58 (.cst (.int 0 0))),(.asgA (.loc 0) 74 (.lst [])),(.asgA (.loc 0) 75 (.cst (.bool false))),(.asgA (.loc 0) 76 (.cst (.int 0 0)))]
noncomputable def c8:List IS:= [(.while_ (.cst (.bool true)) [(.augA (.loc 0) 76 .Add (.cst (.int 1 0))),(.if_ (.cmp .Gt (.attr (.loc 0) 76) (.glob 78 (.int (100000) 1187))) [.bad] []),(.if_ (.cmp .Eq (.attr (.loc 0) 58) (.bcall .len [(.attr (.loc 0) 66)])) [.bad,.bad] []),(.asg 79 (.idx (.attr (.loc 0) 66) (.attr (.loc 0) 58))),(.asg 67 (.idx (.loc 79) (.cst (.int 0 0)))),(.if_ (.cmp .Eq (.loc 67) (.cst (.str (ag "begin") 0))) [(.expr (.bcall .append [(.attr (.loc 0) 74),(.idx (.loc 79) (.cst (.int 1 0)))])),(.augA (.loc 0) 58 .Add (.cst (.int 1 0)))] [(.if_ (.cmp .Eq (.loc 67) (.cst (.str (ag "end") 0))) [(.expr (.mcall (.loc 0) 80 [(.idx (.loc 79) (.cst (.int 1 0)))]))] [(.if_ (.and_ [(.not_ (.loc 77)),(.or_ [(.cmp .Eq (.loc 67) (.cst (.str (ag ":") 0))),(.cmp .In (.loc 67) (.glob 81 (.ref 684)))])]) [(.ret (.cst .none))] [(.augA (.loc 0) 58 .Add (.cst (.int 1 0))),(.if_ (.cmp .In (.loc 67) (.glob 81 (.ref 684))) [(.asgA (.loc 0) 75 (.cst (.bool true))),(.asgA (.loc 0) 76 (.cst (.int 0 0)))] []),(.if_ (.cmp .NotEq (.loc 67) (.cst (.str (ag ":") 0))) [(.ret (.loc 79))] [])])])])])]
noncomputable def cN:List IS:= [(.augI (.attr (.loc 0) 74) (.neg 1) .Sub (.cst (.int 1 0))),(.if_ (.cmp .Gt (.idx (.attr (.loc 0) 74) (.neg 1)) (.cst (.int 0 0))) [(.asgA (.loc 0) 58 (.bin .Add (.loc 68) (.cst (.int 1 0))))] [.bad,.bad])]
noncomputable def fY:List IS:= [(.asgA (.loc 0) 83 (.cst (.int 0 0))),(.asgA (.loc 0) 84 (.cst (.bool false))),(.asgA (.loc 0) 82 (.loc 82))]
noncomputable def oB:List IS:= [(.asgA (.loc 0) 85 (.lst [])),(.asgA (.loc 0) 58 (.cst (.int 0 0)))]
noncomputable def pe:List IS:= [(.if_ (.cmp .Gt (.bin .Add (.attr (.loc 0) 58) (.bcall .len [(.loc 86)])) (.glob 87 (.int (100000) 1191))) [.bad] []),(.for_ 88 (.loc 86) [(.while_ (.cmp .LtE (.bcall .len [(.attr (.loc 0) 85)]) (.attr (.loc 0) 58)) [(.expr (.bcall .append [(.attr (.loc 0) 85),(.cst (.str (ag " ") 0))]))]),(.asgI (.attr (.loc 0) 85) (.attr (.loc 0) 58) (.loc 88)),(.augA (.loc 0) 58 .Add (.cst (.int 1 0)))])]
noncomputable def oA:List IS:= [(.ret (.bcall .join [(.cst (.str (ag "") 0)),(.attr (.loc 0) 85)]))]
noncomputable def eh:List IS:= [(.asgA (.loc 0) 90 (.call (.glob 91 (.ref 736)) [(.loc 45)])),(.asgA (.loc 0) 89 (.loc 89)),(.asgA (.loc 0) 92 (.call (.glob 93 (.ref 764)) [(.cst (.bool false))])),(.asgA (.loc 0) 94 (.call (.glob 95 (.ref 806)) [])),(.asgA (.loc 0) 96 (.lst []))]
noncomputable def fX:List IS:= [(.if_ (.cmp .Eq (.loc 11) (.glob 13 (.int (3) 366))) [.bad,.bad,.bad] []),(.asg 64 (.mcall (.attr (.loc 0) 90) 97 [(.cst (.bool true))])),(.while_ (.cmp .NotIn (.idx (.loc 64) (.cst (.int 0 0))) (.glob 81 (.ref 684))) [.bad,(.asg 64 (.mcall (.attr (.loc 0) 90) 97 [(.cst (.bool true))]))]),(.expr (.mcall (.attr (.loc 0) 94) 98 [(.mcall (.loc 0) 89 [(.loc 64),(.loc 11),(.loc 6),(.attr (.attr (.loc 0) 92) 83),(.attr (.attr (.loc 0) 92) 84)])]))]
noncomputable def dj:List IS:= [(.asg 64 (.mcall (.attr (.loc 0) 90) 97 [(.cst (.bool false))])),(.while_ (.cmp .IsNot (.loc 64) (.cst .none)) [.bad,(.asg 64 (.mcall (.attr (.loc 0) 90) 97 [(.cst (.bool false))]))]),(.expr (.bcall .append [(.attr (.loc 0) 96),(.mcall (.attr (.loc 0) 94) 86 [])])),(.ret (.attr (.loc 0) 96))]
noncomputable def ej:List IS:= [(.asgA (.loc 0) 90 (.call (.glob 91 (.ref 736)) [(.loc 45)])),(.asgA (.loc 0) 99 (.loc 99)),(.asgA (.loc 0) 100 (.loc 100)),(.asgA (.loc 0) 92 (.call (.glob 93 (.ref 764)) [(.loc 82)])),(.asgA (.loc 0) 29 (.loc 29)),(.asgA (.loc 0) 101 (.mcall (.loc 99) 102 [])),(.asgA (.loc 0) 58 (.cst (.int 0 0)))]
noncomputable def eP:List IS:= [(.asg 86 (.slc (.attr (.loc 0) 101) (some (.attr (.loc 0) 58)) (some (.bin .Add (.attr (.loc 0) 58) (.loc 103))))),(.augA (.loc 0) 58 .Add (.loc 103)),(.ret (.bin .Add (.loc 86) (.bin .Mult (.cst (.str (ag " ") 0)) (.bin .Sub (.loc 103) (.bcall .len [(.loc 86)])))))]
noncomputable def ei:List IS:= [(.if_ (.cmp .Eq (.loc 11) (.glob 13 (.int (3) 366))) [.bad,.bad] []),(.asg 64 (.mcall (.attr (.loc 0) 90) 97 [(.cst (.bool true))])),(.while_ (.cmp .NotIn (.idx (.loc 64) (.cst (.int 0 0))) (.glob 81 (.ref 684))) [.bad,(.asg 64 (.mcall (.attr (.loc 0) 90) 97 [(.cst (.bool true))]))]),(.asg 103 (.ite (.cmp .Is (.idx (.loc 64) (.cst (.int 1 0))) (.cst .none)) (.loc 19) (.idx (.loc 64) (.cst (.int 1 0))))),(.ret (.mcall (.loc 0) 100 [(.loc 64),(.loc 11),(.loc 19),(.mcall (.loc 0) 104 [(.loc 103)]),(.attr (.attr (.loc 0) 92) 83),(.attr (.attr (.loc 0) 92) 82),(.attr (.loc 0) 29)]))]
noncomputable def dk:List IS:= [(.asg 64 (.mcall (.attr (.loc 0) 90) 97 [(.cst (.bool false))])),(.while_ (.cmp .IsNot (.loc 64) (.cst .none)) [.bad,(.asg 64 (.mcall (.attr (.loc 0) 90) 97 [(.cst (.bool false))]))])]
noncomputable def mL:List IS:= [(.asgA (.loc 0) 106 (.loc 105)),(.asgA (.loc 0) 58 (.cst (.int 0 0))),(.asgA (.loc 0) 107 (.lst [])),(.asgA (.loc 0) 55 (.loc 55)),(.asgA (.loc 0) 30 (.dct [] [])),(.asgA (.loc 0) 108 (.dct [] []))]
noncomputable def mE:List IS:= [(.if_ (.cmp .GtE (.attr (.loc 31) 58) (.bcall .len [(.attr (.loc 31) 106)])) [(.raise (.call (.glob 109 (.ref 120)) [(.cst (.str (ag "end of the input") 0))]))] []),(.augA (.loc 31) 58 .Add (.cst (.int 1 0))),(.ret (.idx (.attr (.loc 31) 106) (.bin .Sub (.attr (.loc 31) 58) (.cst (.int 1 0)))))]
noncomputable def fW:List IS:= [(.asgA (.loc 0) 31 (.loc 31))]
noncomputable def c7:List IS:= [(.ret (.call (.glob 110 (.ref 957)) [(.attr (.loc 0) 31)]))]
noncomputable def jz:List IS:= [(.ret (.bcall .isTup [(.idx (.loc 90) (.cst (.str (ag "UNIT") 0)))]))]
noncomputable def jy:List IS:= [(.asg 112 (.idx (.loc 90) (.cst (.str (ag "UNIT") 0)))),(.ret (.or_ [(.cmp .Eq (.loc 112) (.cst (.str (ag "*") 0))),(.and_ [(.cmp .Eq (.loc 112) (.loc 111)),(.cmp .NotIn (.loc 111) (.attr (.loc 31) 30))])]))]
noncomputable def iR:List IS:= [(.if_ (.cmp .In (.cst (.str (ag "REC") 0)) (.loc 90)) [.bad] [])]
noncomputable def p0:List IS:= [(.asg 113 (.cst (.str (ag "plain") 0))),(.if_ (.cmp .In (.cst (.str (ag "FMT") 0)) (.loc 90)) [(.asg 113 (.ite (.cmp .Eq (.idx (.loc 90) (.cst (.str (ag "FMT") 0))) (.cst (.str (ag "*") 0))) (.cst (.str (ag "list") 0)) (.cst (.str (ag "format") 0))))] []),(.if_ (.cmp .NotIn (.tup [(.loc 67),(.loc 113)]) (.attr (.loc 31) 108)) [.bad] []),(.ret (.idx (.attr (.loc 31) 108) (.tup [(.loc 67),(.loc 113)])))]
noncomputable def jd:List IS:= [(.asgA (.loc 0) 31 (.loc 31)),(.asgA (.loc 0) 90 (.loc 90)),(.asgA (.loc 0) 114 (.loc 114))]
noncomputable def kC:List IS:= [(.expr (.mcall (.attr (.loc 0) 114) 98 [(.loc 11),(.loc 6)]))]
noncomputable def iB:List IS:= [(.ret (.call (.glob 115 (.ref 1104)) [(.attr (.loc 0) 31),(.attr (.loc 0) 90),(.mcall (.attr (.loc 0) 114) 116 [])]))]
noncomputable def kA:List IS:= [(.if_ (.not_ (.call (.glob 117 (.ref 1020)) [(.loc 90)])) [(.if_ (.not_ (.call (.glob 118 (.ref 1034)) [(.loc 31),(.loc 90),(.glob 119 (.int (6) 1589))])) [.bad] [(.if_ (.cmp .NotIn (.cst (.str (ag "FMT") 0)) (.loc 90)) [.bad] [(.expr (.call (.glob 120 (.ref 1041)) [(.loc 90)]))])])] []),(.ret (.call (.glob 121 (.ref 1086)) [(.loc 31),(.loc 90),(.call (.call (.glob 122 (.ref 1055)) [(.loc 31),(.cst (.str (ag "write") 0)),(.loc 90)]) [(.loc 90),(.loc 29)])]))]
noncomputable def sZ:List IS:= [(.if_ (.call (.glob 117 (.ref 1020)) [(.loc 90)]) [.bad,.bad] []),(.if_ (.call (.glob 118 (.ref 1034)) [(.loc 31),(.loc 90),(.glob 119 (.int (6) 1589))]) [(.expr (.bcall .extend [(.attr (.loc 31) 107),(.loc 96)])),(.ret (.cst .none))] []),.bad,.bad,(.for_ 101 (.loc 96) [(.if_ (.cmp .Is (.loc 123) (.cst .none)) [(.expr (.call (.glob 124 (.ref 627)) [(.loc 112),(.loc 101)]))] [(.expr (.call (.glob 125 (.ref 648)) [(.loc 112),(.loc 123),(.loc 101)])),(.aug 123 .Add (.cst (.int 1 0)))])]),(.ret (.cst .none))]
noncomputable def nt:List IS:= [(.if_ (.call (.glob 117 (.ref 1020)) [(.loc 90)]) [.bad] []),(.if_ (.call (.glob 118 (.ref 1034)) [(.loc 31),(.loc 90),(.glob 126 (.int (5) 1587))]) [(.expr (.call (.glob 120 (.ref 1041)) [(.loc 90)])),(.ret (.call (.glob 127 (.ref 981)) [(.loc 31)]))] []),.bad,(.if_ (.cmp .In (.cst (.str (ag "REC") 0)) (.loc 90)) [.bad] []),.bad]
noncomputable def iS:List IS:= [(.if_ (.or_ [(.call (.glob 117 (.ref 1020)) [(.loc 90)]),(.call (.glob 118 (.ref 1034)) [(.loc 31),(.loc 90),(.glob 126 (.int (5) 1587))])]) [(.ret (.cst (.bool false)))] []),.bad]
noncomputable def mK:List IS:= [(.asg 99 (.call (.glob 128 (.ref 1111)) [(.loc 31),(.loc 90)])),(.ret (.call (.call (.glob 122 (.ref 1055)) [(.loc 31),(.cst (.str (ag "read") 0)),(.loc 90)]) [(.loc 90),(.loc 99),(.call (.glob 129 (.ref 1118)) [(.loc 31),(.loc 90)]),(.loc 29)]))]
noncomputable def ny:List IS:= [(.ret (.attr (.loc 130) 131))]
noncomputable def sW:List IS:= [(.asg 67 (.ite (.bcall (.isExc 120) [(.loc 130)]) (.cst (.str (ag "END") 0)) (.cst (.str (ag "ERR") 0)))),(.if_ (.cmp .In (.loc 67) (.loc 90)) [.bad] []),(.if_ (.cmp .In (.cst (.str (ag "IOSTAT") 0)) (.loc 90)) [(.ret (.cst (.int 0 0)))] []),(.raiseN 130)]
noncomputable def mD:List IS:= [(.if_ (.or_ [(.cmp .Eq (.loc 45) (.cst (.str (ag "*") 0))),(.cmp .NotEq (.idx (.loc 45) (.cst (.int 1 0))) (.glob 4 (.int (5) 368)))]) [(.ret (.ite (.cmp .Eq (.loc 45) (.cst (.str (ag "*") 0))) (.loc 45) (.call (.glob 50 (.ref 314)) [(.cel 44),(.loc 45)])))] []),.bad,(.if_ (.loc 132) [.bad] []),.bad]
noncomputable def jc:List IS:= [(.if_ (.cmp .Eq (.loc 45) (.cst (.str (ag "*") 0))) [(.ret (.loc 45))] []),(.if_ .bad [.bad] []),(.if_ (.cmp .NotEq (.idx (.loc 45) (.cst (.int 1 0))) (.glob 4 (.int (5) 368))) [.bad] []),(.if_ (.cmp .NotEq (.idx (.loc 45) (.cst (.int 0 0))) (.cst (.str (ag "array") 0))) [.bad] []),.bad,.bad]
noncomputable def iA:List IS:= [(.asg 47 (.dct [] [])),(.for_ 67 (.loc 90) [(.asg 45 (.idx (.loc 90) (.loc 67))),(.if_ (.cmp .In (.loc 67) (.tup [(.cst (.str (ag "IOSTAT") 0)),(.cst (.str (ag "END") 0)),(.cst (.str (ag "ERR") 0))])) [(.asgI (.loc 47) (.loc 67) (.loc 45))] [(.if_ (.cmp .Eq (.loc 67) (.cst (.str (ag "UNIT") 0))) [(.asgI (.loc 47) (.loc 67) (.call (.glob 133 (.ref 1144)) [(.loc 44),(.loc 45),(.loc 132)]))] [(.if_ (.cmp .Eq (.loc 67) (.cst (.str (ag "FMT") 0))) [(.asgI (.loc 47) (.loc 67) (.call (.glob 134 (.ref 1156)) [(.loc 44),(.loc 112),(.loc 45)]))] [.bad])])])]),(.ret (.loc 47))]
noncomputable def vf:List IS:= [(.asg 135 (.call (.glob 136 (.ref 1139)) [(.loc 130),(.loc 90)])),(.if_ (.cmp .In (.cst (.str (ag "IOSTAT") 0)) (.loc 90)) [(.expr (.call (.glob 137 (.ref 480)) [(.loc 44),(.idx (.loc 90) (.cst (.str (ag "IOSTAT") 0))),(.call (.glob 138 (.ref 1132)) [(.loc 130)])]))] []),(.if_ (.loc 135) [.bad] []),(.ret (.bin .Add (.loc 58) (.cst (.int 1 0))))]
noncomputable def Ao:List IS:= [(.if_ (.cmp .In (.cst (.str (ag "IOSTAT") 0)) (.loc 90)) [(.expr (.call (.glob 137 (.ref 480)) [(.loc 44),(.idx (.loc 90) (.cst (.str (ag "IOSTAT") 0))),(.cst (.int 0 0))]))] []),(.ret (.bin .Add (.loc 58) (.cst (.int 1 0))))]
noncomputable def b_do_read:List IS:= [(.asg 90 (.call (.glob 140 (.ref 1163)) [(.loc 44),(.loc 112),(.idx (.loc 139) (.cst (.int 1 0))),(.cst (.bool false))])),(.try_ [(.asg 142 (.call (.glob 143 (.ref 1125)) [(.attr (.loc 44) 31),(.loc 90),(.attr (.loc 44) 29)]))] 101 130 [(.ret (.call (.glob 144 (.ref 1170)) [(.loc 44),(.loc 112),(.loc 58),(.loc 90),(.loc 130)]))]),(.asg 145 (.call (.glob 146 (.ref 560)) [(.loc 44),(.idx (.loc 139) (.cst (.int 2 0)))])),(.asg 64 (.mcall (.loc 145) 147 [])),(.while_ (.cmp .IsNot (.loc 64) (.cst .none)) [(.if_ (.cmp .Is (.idx (.loc 64) (.cst (.int 1 0))) (.cst .none)) [.bad] []),(.try_ [(.asg 6 (.mcall (.loc 142) 63 [(.idx (.loc 64) (.cst (.int 0 0))),(.idx (.idx (.loc 64) (.cst (.int 1 0))) (.cst (.int 2 0)))]))] 101 130 [(.ret (.call (.glob 144 (.ref 1170)) [(.loc 44),(.loc 112),(.loc 58),(.loc 90),(.loc 130)]))]),(.if_ (.cmp .IsNot (.loc 6) (.cst .none)) [(.expr (.mcall (.attr (.loc 44) 28) 55 [(.idx (.loc 64) (.cst (.int 1 0))),(.loc 6)]))] []),(.asg 64 (.mcall (.loc 145) 147 []))]),(.try_ [(.expr (.mcall (.loc 142) 116 []))] 101 130 [(.ret (.call (.glob 144 (.ref 1170)) [(.loc 44),(.loc 112),(.loc 58),(.loc 90),(.loc 130)]))]),(.ret (.call (.glob 148 (.ref 1177)) [(.loc 44),(.loc 58),(.loc 90)]))]
noncomputable def mG:List IS:= [(.if_ (.cmp .Is (.idx (.loc 64) (.cst (.int 1 0))) (.cst .none)) [(.ret (.call (.glob 50 (.ref 314)) [(.loc 44),(.idx (.loc 64) (.cst (.int 2 0)))]))] []),(.ret (.mcall (.attr (.loc 44) 28) 52 [(.idx (.loc 64) (.cst (.int 1 0)))]))]
noncomputable def b_do_write:List IS:= [(.asg 90 (.call (.glob 140 (.ref 1163)) [(.loc 44),(.loc 112),(.idx (.loc 139) (.cst (.int 1 0))),(.cst (.bool true))])),(.try_ [(.asg 149 (.call (.glob 150 (.ref 1097)) [(.attr (.loc 44) 31),(.loc 90),(.attr (.loc 44) 29)]))] 101 130 [(.ret (.call (.glob 144 (.ref 1170)) [(.loc 44),(.loc 112),(.loc 58),(.loc 90),(.loc 130)]))]),(.asg 145 (.call (.glob 146 (.ref 560)) [(.loc 44),(.idx (.loc 139) (.cst (.int 2 0)))])),(.asg 64 (.mcall (.loc 145) 147 [])),(.while_ (.cmp .IsNot (.loc 64) (.cst .none)) [(.asg 6 (.call (.glob 151 (.ref 1191)) [(.loc 44),(.loc 64)])),(.try_ [(.expr (.mcall (.loc 149) 98 [(.idx (.loc 64) (.cst (.int 0 0))),(.loc 6)]))] 101 130 [(.ret (.call (.glob 144 (.ref 1170)) [(.loc 44),(.loc 112),(.loc 58),(.loc 90),(.loc 130)]))]),(.asg 64 (.mcall (.loc 145) 147 []))]),(.try_ [(.asg 152 (.mcall (.loc 149) 116 []))] 101 130 [(.ret (.call (.glob 144 (.ref 1170)) [(.loc 44),(.loc 112),(.loc 58),(.loc 90),(.loc 130)]))]),(.if_ (.cmp .IsNot (.loc 152) (.cst .none)) [.bad] []),(.ret (.call (.glob 148 (.ref 1177)) [(.loc 44),(.loc 58),(.loc 90)]))]
noncomputable def dh:List IS:= [(.ret (.dct [ag "read",ag "write"] [(.glob 153 (.ref 1184)),(.glob 154 (.ref 1205))]))]
noncomputable def kF:List IS:= [(.asgA (.loc 0) 103 (.loc 103)),(.asgA (.loc 0) 155 (.loc 155)),(.asgA (.loc 0) 156 (.loc 156)),(.asgA (.loc 0) 157 (.loc 157)),(.asgA (.loc 0) 36 (.loc 36)),(.asgA (.loc 0) 158 (.loc 158)),(.asgA (.loc 0) 159 (.loc 159)),(.asgA (.loc 0) 35 (.loc 35))]
noncomputable def iU:List IS:= [(.asgA (.loc 0) 11 (.loc 11)),(.asgA (.loc 0) 46 (.loc 46)),(.asgA (.loc 0) 160 (.lst [])),(.asgA (.loc 0) 161 (.dct [] [])),(.asgA (.loc 0) 162 (.dct [] [])),(.asgA (.loc 0) 33 (.lst [])),(.asgA (.loc 0) 163 (.dct [] [])),(.asgA (.loc 0) 164 (.dct [] [])),(.asgA (.loc 0) 165 (.cst .none)),(.asgA (.loc 0) 166 (.lst [])),(.asgA (.loc 0) 167 (.lst [])),(.asgA (.loc 0) 168 (.lst [])),(.asgA (.loc 0) 169 (.lst [])),(.asgA (.loc 0) 170 (.dct [] []))]
noncomputable def mM:List IS:= [(.asgA (.loc 0) 171 (.dct [] []))]
noncomputable def iY:List IS:= [(.expr (.bcall .xinit [(.loc 0),(.loc 86)])),(.asgA (.loc 0) 86 (.loc 86))]
noncomputable def jg:List IS:= [(.expr (.mcall (.glob 172 (.ref 38)) 173 [(.loc 0),(.loc 86)])),(.asgA (.loc 0) 131 (.loc 131))]
noncomputable def iZ:List IS:= [(.expr (.mcall (.glob 141 (.ref 101)) 173 [(.loc 0),(.neg 1),(.loc 86)]))]
noncomputable def ja:List IS:= [(.asgI (.loc 174) (.cst (.str (ag "spot") 0)) (.bin .Add (.idx (.loc 174) (.cst (.str (ag "spot") 0))) (.cst (.int 1 0)))),(.if_ (.cmp .LtE (.idx (.loc 174) (.cst (.str (ag "spot") 0))) (.bcall .len [(.idx (.loc 174) (.cst (.str (ag "script") 0)))])) [(.ret (.bin .Mod (.idx (.idx (.loc 174) (.cst (.str (ag "script") 0))) (.bin .Sub (.idx (.loc 174) (.cst (.str (ag "spot") 0))) (.cst (.int 1 0)))) (.loc 175)))] []),(.ret (.bin .Mod (.bin .Add (.bin .Mult (.cst (.int 3 0)) (.idx (.loc 174) (.cst (.str (ag "spot") 0)))) (.bin .FloorDiv (.idx (.loc 174) (.cst (.str (ag "spot") 0))) (.cst (.int 4 0)))) (.loc 175)))]
noncomputable def vh:List IS:= [(.if_ (.cmp .Eq (.call (.glob 176 (.ref 1266)) [(.loc 174),(.cst (.int 2 0))]) (.cst (.int 1 0))) [(.ret (.tup [(.cst (.str (ag "ask") 0)),(.glob 177 (.int (0) 360)),(.call (.glob 176 (.ref 1266)) [(.loc 174),(.cst (.int 4 0))])]))] []),(.ret (.tup [(.cst (.str (ag "const") 0)),(.glob 177 (.int (0) 360)),(.bin .Add (.cst (.int 1 0)) (.call (.glob 176 (.ref 1266)) [(.loc 174),(.cst (.int 3 0))]))]))]
noncomputable def b_l_deed:List IS:= [(.asg 178 (.cmp .Eq (.call (.glob 176 (.ref 1266)) [(.loc 174),(.cst (.int 3 0))]) (.cst (.int 2 0)))),(.asg 179 (.cmp .Eq (.call (.glob 176 (.ref 1266)) [(.loc 174),(.cst (.int 2 0))]) (.cst (.int 0 0)))),(.asg 56 (.lst [])),(.forR 180 (.call (.glob 176 (.ref 1266)) [(.loc 174),(.cst (.int 5 0))]) [(.asg 181 (.call (.glob 176 (.ref 1266)) [(.loc 174),(.cst (.int 4 0))])),(.if_ (.cmp .Eq (.loc 181) (.cst (.int 0 0))) [(.expr (.bcall .append [(.loc 56),(.tup [(.cst (.str (ag "elem") 0)),(.glob 177 (.int (0) 360)),(.cst (.str (ag "A") 0)),(.lst [(.call (.glob 182 (.ref 1273)) [(.loc 174)])])])]))] [(.if_ (.and_ [(.cmp .Eq (.loc 181) (.cst (.int 1 0))),(.not_ (.loc 178))]) [(.expr (.bcall .append [(.loc 56),(.call (.glob 182 (.ref 1273)) [(.loc 174)])]))] [(.if_ (.and_ [(.cmp .Eq (.loc 181) (.cst (.int 2 0))),(.not_ (.loc 178))]) [(.expr (.bcall .append [(.loc 56),(.tup [(.cst (.str (ag "const") 0)),(.glob 177 (.int (0) 360)),(.idx (.lst [(.cst (.int 4 0)),(.cst (.int 13 0))]) (.call (.glob 176 (.ref 1266)) [(.loc 174),(.cst (.int 2 0))]))])]))] [(.expr (.bcall .append [(.loc 56),(.tup [(.cst (.str (ag "var") 0)),(.glob 177 (.int (0) 360)),(.cst (.str (ag "X") 0))])]))])])])]),(.ret (.tup [(.loc 178),(.loc 179),(.loc 56)]))]
noncomputable def vi:List IS:= [(.if_ (.cmp .Eq (.loc 6) (.cst (.int 13 0))) [(.raise (.call (.glob 141 (.ref 101)) [(.cst (.int 41 0)),(.cst (.str (ag "a number that is refused") 0))]))] []),(.ret (.slc (.bin .Add (.cst (.str (ag "  ") 0)) (.bcall .str [(.loc 6)])) (some (.neg 3)) none))]
noncomputable def sX:List IS:= [(.if_ (.cmp .Eq (.loc 183) (.cst (.str (ag "x  ") 0))) [(.raise (.call (.glob 141 (.ref 101)) [(.cst (.int 43 0)),(.cst (.str (ag "a bad field") 0))]))] []),(.ret (.ite (.cmp .Eq (.loc 183) (.cst (.str (ag "   ") 0))) (.cst .none) (.bcall .int [(.loc 183)])))]
noncomputable def yS:List IS:= [(.if_ (.cmp .Eq (.idx (.loc 45) (.cst (.int 2 0))) (.cst (.int 2 0))) [(.raise (.call (.glob 141 (.ref 101)) [(.cst (.int 40 0)),(.cst (.str (ag "a fault of its own") 0))]))] []),(.if_ (.cmp .Eq (.idx (.loc 45) (.cst (.int 2 0))) (.cst (.int 3 0))) [(.raise (.call (.glob 109 (.ref 120)) [(.cst (.str (ag "an end of its own") 0))]))] []),(.ret (.bin .Add (.idx (.loc 45) (.cst (.int 2 0))) (.cst (.int 1 0))))]
noncomputable def b_l_run:List IS:= [(.fdef 107 0 G3 955 4),(.fdef 185 1 G3 958 4),(.asg 31 (.call (.glob 186 (.ref 946)) [(.comp false 187 (.loc 184) 1),(.call (.glob 188 (.ref 581)) [])])),(.asgA (.loc 31) 108 (.tdct [(.tup [(.cst (.str (ag "write") 0)),(.cst (.str (ag "list") 0))]),(.tup [(.cst (.str (ag "read") 0)),(.cst (.str (ag "list") 0))])] [(.loc 107),(.loc 185)])),(.asg 44 (.call (.glob 189 (.ref 303)) [(.call (.glob 190 (.ref 186)) [(.cst (.int 5 0)),(.cst (.int 0 0))]),(.call (.glob 191 (.ref 1230)) []),(.dct [] []),(.loc 31),(.dct [ag "const",ag "var",ag "elem",ag "ask"] [(.glob 192 (.ref 354)),(.glob 193 (.ref 361)),(.glob 193 (.ref 361)),(.glob 194 (.ref 1301))]),(.dct [] [])])),(.asgA (.loc 44) 34 (.dct [ag "S",ag "X",ag "A"] [(.tup [(.glob 177 (.int (0) 360)),(.cst (.int 0 0)),(.cst (.int 0 0)),(.tup [])]),(.tup [(.glob 177 (.int (0) 360)),(.cst (.int 1 0)),(.cst (.int 0 0)),(.tup [])]),(.tup [(.glob 177 (.int (0) 360)),(.cst (.int 2 0)),(.cst (.int 0 0)),(.tup [(.tup [(.cst (.int 1 0)),(.cst (.int 3 0))])])])])),(.forR 58 (.cst (.int 5 0)) [(.expr (.mcall (.attr (.loc 44) 28) 55 [(.tup [(.glob 177 (.int (0) 360)),(.loc 58),(.cst (.int 0 0)),(.tup [])]),(.idx (.lst [(.neg 5),(.cst (.int 9 0)),(.cst (.int 1 0)),(.cst (.int 2 0)),(.cst (.int 3 0))]) (.loc 58))]))]),(.ret (.loc 44))]
noncomputable def b_l_heard:List IS:= [(.asg 90 (.dct [ag "UNIT",ag "FMT"] [(.cst (.str (ag "*") 0)),(.cst (.str (ag "*") 0))])),(.if_ (.idx (.loc 195) (.cst (.int 1 0))) [(.asgI (.loc 90) (.cst (.str (ag "IOSTAT") 0)) (.tup [(.cst (.str (ag "var") 0)),(.glob 177 (.int (0) 360)),(.cst (.str (ag "S") 0))]))] []),(.asg 67 (.ite (.idx (.loc 195) (.cst (.int 0 0))) (.cst (.str (ag "read") 0)) (.cst (.str (ag "write") 0)))),(.try_ [(.ret (.call (.idx (.call (.glob 196 (.ref 1212)) []) (.loc 67)) [(.loc 44),(.call (.glob 197 (.ref 1251)) [(.cst (.str (ag "program") 0)),(.cst (.str (ag "P") 0))]),(.cst (.int 3 0)),(.tup [(.loc 67),(.loc 90),(.idx (.loc 195) (.cst (.int 2 0)))])]))] 101 130 [(.ret (.tup [(.cst (.str (ag "out") 0)),(.attr (.loc 130) 131)]))])]
noncomputable def vg:List IS:= [(.if_ (.cmp .Eq (.idx (.loc 198) (.cst (.int 0 0))) (.cst (.str (ag "const") 0))) [(.ret (.tup [(.idx (.loc 198) (.cst (.int 2 0))),(.cst .none)]))] []),(.ret (.ite (.cmp .Lt (.idx (.loc 198) (.cst (.int 2 0))) (.cst (.int 2 0))) (.tup [(.bin .Add (.idx (.loc 198) (.cst (.int 2 0))) (.cst (.int 1 0))),(.cst .none)]) (.tup [(.cst .none),(.idx (.lst [(.cst (.int 40 0)),(.neg 1)]) (.bin .Sub (.idx (.loc 198) (.cst (.int 2 0))) (.cst (.int 2 0))))])))]
noncomputable def b_l_moved:List IS:= [(.if_ (.idx (.loc 195) (.cst (.int 0 0))) [(.if_ (.cmp .Eq (.idx (.loc 199) (.cst (.str (ag "taken") 0))) (.bcall .len [(.idx (.loc 199) (.cst (.str (ag "rows") 0)))])) [(.ret (.tup [(.cst (.str (ag "own") 0)),(.neg 1)]))] []),(.asgI (.loc 199) (.cst (.str (ag "taken") 0)) (.bin .Add (.idx (.loc 199) (.cst (.str (ag "taken") 0))) (.cst (.int 1 0))))] []),(.asg 94 (.cst (.str (ag "") 0))),(.forR 58 (.bcall .len [(.idx (.loc 195) (.cst (.int 2 0)))]) [(.asg 64 (.idx (.idx (.loc 195) (.cst (.int 2 0))) (.loc 58))),(.asgT [.loc 15,.loc 6] (.tup [(.cst (.int 1 0)),(.cst .none)])),(.if_ (.or_ [(.cmp .Eq (.idx (.loc 64) (.cst (.int 0 0))) (.cst (.str (ag "elem") 0))),(.cmp .In (.idx (.loc 64) (.cst (.int 0 0))) (.tup [(.cst (.str (ag "ask") 0)),(.cst (.str (ag "const") 0))]))]) [(.asgT [.loc 6,.loc 131] (.call (.glob 200 (.ref 1320)) [(.ite (.cmp .Eq (.idx (.loc 64) (.cst (.int 0 0))) (.cst (.str (ag "elem") 0))) (.idx (.idx (.loc 64) (.cst (.int 3 0))) (.cst (.int 0 0))) (.loc 64))])),(.if_ (.cmp .IsNot (.loc 131) (.cst .none)) [(.ret (.tup [(.cst (.str (ag "out") 0)),(.loc 131)]))] []),(.asg 15 (.bin .Add (.cst (.int 1 0)) (.loc 6)))] []),(.if_ (.idx (.loc 195) (.cst (.int 0 0))) [(.asg 187 (.idx (.idx (.loc 199) (.cst (.str (ag "rows") 0))) (.bin .Sub (.idx (.loc 199) (.cst (.str (ag "taken") 0))) (.cst (.int 1 0))))),(.asg 183 (.ite (.cmp .Lt (.loc 58) (.bcall .len [(.loc 187)])) (.idx (.loc 187) (.loc 58)) (.cst (.str (ag "   ") 0)))),(.if_ (.cmp .Eq (.loc 183) (.cst (.str (ag "x  ") 0))) [(.ret (.tup [(.cst (.str (ag "own") 0)),(.cst (.int 43 0))]))] []),(.asgI (.idx (.loc 199) (.cst (.str (ag "cells") 0))) (.loc 15) (.ite (.cmp .Eq (.loc 183) (.cst (.str (ag "   ") 0))) (.idx (.idx (.loc 199) (.cst (.str (ag "cells") 0))) (.loc 15)) (.bcall .int [(.loc 183)])))] [(.asg 6 (.ite (.cmp .In (.idx (.loc 64) (.cst (.int 0 0))) (.tup [(.cst (.str (ag "ask") 0)),(.cst (.str (ag "const") 0))])) (.loc 6) (.idx (.idx (.loc 199) (.cst (.str (ag "cells") 0))) (.loc 15)))),(.if_ (.cmp .Eq (.loc 6) (.cst (.int 13 0))) [(.ret (.tup [(.cst (.str (ag "own") 0)),(.cst (.int 41 0))]))] []),(.asg 94 (.bin .Add (.loc 94) (.slc (.bin .Add (.cst (.str (ag "  ") 0)) (.bcall .str [(.loc 6)])) (some (.neg 3)) none)))])]),(.if_ (.not_ (.idx (.loc 195) (.cst (.int 0 0)))) [(.expr (.bcall .append [(.idx (.loc 199) (.cst (.str (ag "out") 0))),(.loc 94)]))] []),(.ret (.cst .none))]
noncomputable def b_l_due:List IS:= [(.asg 201 (.call (.glob 202 (.ref 1327)) [(.loc 199),(.loc 195)])),(.if_ (.and_ [(.cmp .IsNot (.loc 201) (.cst .none)),(.or_ [(.cmp .Eq (.idx (.loc 201) (.cst (.int 0 0))) (.cst (.str (ag "out") 0))),(.not_ (.idx (.loc 195) (.cst (.int 1 0))))])]) [(.ret (.tup [(.cst (.str (ag "out") 0)),(.idx (.loc 201) (.cst (.int 1 0)))]))] []),(.if_ (.idx (.loc 195) (.cst (.int 1 0))) [(.asgI (.idx (.loc 199) (.cst (.str (ag "cells") 0))) (.cst (.int 0 0)) (.ite (.cmp .Is (.loc 201) (.cst .none)) (.cst (.int 0 0)) (.idx (.loc 201) (.cst (.int 1 0)))))] []),(.ret (.cst (.int 4 0)))]
noncomputable def b_law:List IS:= [(.asgC 174 (.dct [ag "script",ag "spot"] [(.slcH (.loc 203) (.cst (.int 50 0))),(.cst (.int 0 0))])),(.asgL 184 205 (.cst (.int 2 0)) 3),(.asgL 206 180 (.bin .Add (.cst (.int 1 0)) (.call (.glob 176 (.ref 1266)) [(.cel 174),(.cst (.int 3 0))])) 4),(.asgC 44 (.call (.glob 208 (.ref 1306)) [(.loc 184)])),(.asg 199 (.dct [ag "cells",ag "out",ag "rows",ag "taken"] [(.lst [(.neg 5),(.cst (.int 9 0)),(.cst (.int 1 0)),(.cst (.int 2 0)),(.cst (.int 3 0))]),(.lst []),(.loc 184),(.cst (.int 0 0))])),(.for_ 195 (.loc 206) [(.if_ (.cmp .NotEq (.call (.glob 209 (.ref 1313)) [(.cel 44),(.loc 195)]) (.call (.glob 210 (.ref 1334)) [(.loc 199),(.loc 195)])) [(.ret (.cst (.bool false)))] []),(.if_ (.cmp .NotEq (.comp true 58 (.cst (.int 5 0)) 5) (.idx (.loc 199) (.cst (.str (ag "cells") 0)))) [(.ret (.cst (.bool false)))] []),(.if_ (.or_ [(.cmp .NotEq (.attr (.attr (.cel 44) 31) 107) (.idx (.loc 199) (.cst (.str (ag "out") 0)))),(.cmp .NotEq (.attr (.attr (.cel 44) 31) 58) (.idx (.loc 199) (.cst (.str (ag "taken") 0))))]) [(.ret (.cst (.bool false)))] [])]),(.ret (.cst (.bool true)))]
noncomputable def Dq:List IS:= [(.ret (.call (.glob 211 (.ref 848)) [(.glob 212 (.ref 1259)),(.glob 213 (.ref 1287))]))]
noncomputable def An:List IS:= [(.ret (.call (.glob 214 (.ref 897)) [(.glob 212 (.ref 1259)),(.loc 99),(.glob 215 (.ref 1294)),(.loc 82),(.loc 29)]))]
noncomputable def HC:IE:=(.call (.glob 50 (.ref 314)) [(.cel 44),(.cv 51)])
noncomputable def Gz:IE:=(.bcall .join [(.cst (.str (ag "") 0)),(.cv 187)])
noncomputable def Gy:IE:=(.idx (.glob 204 (.ref 1256)) (.call (.glob 176 (.ref 1266)) [(.cel 174),(.cst (.int 5 0))]))
noncomputable def EH:IE:=(.comp true 180 (.call (.glob 176 (.ref 1266)) [(.cel 174),(.cst (.int 4 0))]) 2)
noncomputable def Ak:IE:=(.call (.glob 207 (.ref 1280)) [(.cel 174)])
noncomputable def Gx:IE:=(.mcall (.attr (.cel 44) 28) 52 [(.tup [(.glob 177 (.int (0) 360)),(.cv 58),(.cst (.int 0 0)),(.tup [])])])
noncomputable def TB:Tb where
 fns:= [
  (162,⟨false,[0,1,2],[],[],kE⟩),
  (169,⟨false,[0,3],[],[],kD⟩),
  (176,⟨false,[0,3,6],[],[],jf⟩),
  (197,⟨false,[8,9,10],[],[],mF⟩),
  (148,⟨false,[11],[],[],pY⟩),
  (204,⟨false,[8,9,14],[],[],nu⟩),
  (211,⟨false,[8,11,9],[],[],jx⟩),
  (218,⟨false,[8,11,9,6],[],[],j9⟩),
  (246,⟨false,[11,19],[],[],nr⟩),
  (260,⟨false,[3,20],[],[],iT⟩),
  (300,⟨false,[0,28,29,30,31,32,33],[],[],pd⟩),
  (314,⟨false,[44,45],[],[],pa⟩),
  (321,⟨false,[44,46],[],[],jw⟩),
  (340,⟨false,[44,45],[],[44],pZ⟩),
  (347,⟨false,[45],[],[],nz⟩),
  (354,⟨false,[44,45],[],[],mJ⟩),
  (361,⟨false,[44,45],[],[],mH⟩),
  (480,⟨false,[44,54,6],[],[],jv⟩),
  (508,⟨false,[0,56,54,57,10],[],[],mN⟩),
  (543,⟨false,[0,44,56],[],[],iX⟩),
  (550,⟨false,[0],[],[],iW⟩),
  (557,⟨false,[0,64],[],[],iV⟩),
  (691,⟨false,[64,66],[],[],pb⟩),
  (698,⟨false,[45],[],[],sY⟩),
  (712,⟨false,[0,45],[],[],eR⟩),
  (719,⟨false,[0,77],[],[],c8⟩),
  (726,⟨false,[0,68],[],[],cN⟩),
  (754,⟨false,[0,82],[],[],fY⟩),
  (789,⟨false,[0],[],[],oB⟩),
  (796,⟨false,[0,86],[],[],pe⟩),
  (803,⟨false,[0],[],[],oA⟩),
  (824,⟨false,[0,45,89],[],[],eh⟩),
  (838,⟨false,[0,11,6],[],[],fX⟩),
  (845,⟨false,[0],[],[],dj⟩),
  (866,⟨false,[0,45,99,100,82,29],[],[],ej⟩),
  (880,⟨false,[0,103],[],[],eP⟩),
  (887,⟨false,[0,11,19],[],[],ei⟩),
  (894,⟨false,[0],[],[],dk⟩),
  (943,⟨false,[0,105,55],[],[],mL⟩),
  (957,⟨false,[31],[],[],mE⟩),
  (971,⟨false,[0,31],[],[],fW⟩),
  (978,⟨false,[0],[],[],c7⟩),
  (1020,⟨false,[90],[],[],jz⟩),
  (1034,⟨false,[31,90,111],[],[],jy⟩),
  (1041,⟨false,[90],[],[],iR⟩),
  (1055,⟨false,[31,67,90],[],[],p0⟩),
  (1069,⟨false,[0,31,90,114],[],[],jd⟩),
  (1076,⟨false,[0,11,6],[],[],kC⟩),
  (1083,⟨false,[0],[],[],iB⟩),
  (1097,⟨false,[31,90,29],[],[],kA⟩),
  (1104,⟨false,[31,90,96],[],[],sZ⟩),
  (1111,⟨false,[31,90],[],[],nt⟩),
  (1118,⟨false,[31,90],[],[],iS⟩),
  (1125,⟨false,[31,90,29],[],[],mK⟩),
  (1132,⟨false,[130],[],[],ny⟩),
  (1139,⟨false,[130,90],[],[],sW⟩),
  (1144,⟨false,[44,45,132],[],[44],mD⟩),
  (1156,⟨false,[44,112,45],[],[44],jc⟩),
  (1163,⟨false,[44,112,90,132],[],[],iA⟩),
  (1170,⟨false,[44,112,58,90,130],[],[],vf⟩),
  (1177,⟨false,[44,58,90],[],[],Ao⟩),
  (1184,⟨false,[44,112,58,139],[],[],b_do_read⟩),
  (1191,⟨false,[44,64],[],[],mG⟩),
  (1205,⟨false,[44,112,58,139],[],[],b_do_write⟩),
  (1212,⟨false,[],[],[],dh⟩),
  (1227,⟨false,[0,103,155,156,157,36,158,159,35],[.int 32 0,.int 7 0,.int 15 0,.int 38 0,.int 1000000 0,.int 19 0,.int 72 0,.int 40 0],[],kF⟩),
  (1248,⟨false,[0,11,46],[],[],iU⟩),
  (578,⟨false,[0],[],[],mM⟩),
  (35,⟨false,[0,86],[],[],iY⟩),
  (98,⟨false,[0,131,86],[],[],jg⟩),
  (117,⟨false,[0,86],[],[],iZ⟩),
  (1266,⟨true,[174,175],[],[],ja⟩),
  (1273,⟨false,[174],[],[],vh⟩),
  (1280,⟨false,[174],[],[],b_l_deed⟩),
  (1287,⟨false,[64,11,6,83,84],[],[],vi⟩),
  (1294,⟨false,[64,11,19,183,83,82,29],[],[],sX⟩),
  (1301,⟨false,[44,45],[],[],yS⟩),
  (1306,⟨false,[184],[],[],b_l_run⟩),
  (1313,⟨false,[44,195],[],[],b_l_heard⟩),
  (1320,⟨false,[198],[],[],vg⟩),
  (1327,⟨false,[199,195],[],[],b_l_moved⟩),
  (1334,⟨false,[199,195],[],[],b_l_due⟩),
  (1339,⟨false,[203],[],[44,174],b_law⟩)]
 cls:= [(186,162),(303,300),(511,508),(560,543),(736,712),(764,754),(806,789),(848,824),(897,866),(946,943),(981,971),(1086,1069),(1230,1227),(1251,1248),(581,578)]
 exs:= [(38,35),(101,98),(120,117)]
 ats:= [(186,1),(186,2),(303,28),(303,29),(303,30),(303,31),(303,32),(303,33),(303,34),(303,35),(303,36),(303,37),(303,38),(303,39),(303,40),(303,41),(303,42),(303,43),(511,56),(511,58),(511,54),(511,57),(511,10),(560,44),(560,59),(560,61),(736,58),(736,74),(736,75),(736,76),(736,66),(736,72),(764,83),(764,84),(764,82),(806,85),(806,58),(848,90),(848,89),(848,92),(848,94),(848,96),(897,90),(897,99),(897,100),(897,92),(897,29),(897,101),(897,58),(946,106),(946,58),(946,107),(946,55),(946,30),(946,108),(981,31),(1086,31),(1086,90),(1086,114),(1230,103),(1230,155),(1230,156),(1230,157),(1230,36),(1230,158),(1230,159),(1230,35),(1251,11),(1251,46),(1251,160),(1251,161),(1251,162),(1251,33),(1251,163),(1251,164),(1251,165),(1251,166),(1251,167),(1251,168),(1251,169),(1251,170),(581,171)]
 sts:= [(186,1),(186,2),(303,28),(303,29),(303,30),(303,31),(303,32),(303,33),(303,34),(303,35),(303,36),(303,37),(303,38),(303,39),(303,40),(303,41),(303,42),(303,43),(511,56),(511,58),(511,54),(511,57),(511,10),(560,44),(560,59),(560,61),(736,58),(736,74),(736,75),(736,76),(736,66),(736,72),(764,83),(764,84),(764,82),(806,85),(806,58),(848,90),(848,89),(848,92),(848,94),(848,96),(897,90),(897,99),(897,100),(897,92),(897,29),(897,101),(897,58),(946,106),(946,58),(946,107),(946,55),(946,30),(946,108),(981,31),(1086,31),(1086,90),(1086,114),(1230,103),(1230,155),(1230,156),(1230,157),(1230,36),(1230,158),(1230,159),(1230,35),(1251,11),(1251,46),(1251,160),(1251,161),(1251,162),(1251,33),(1251,163),(1251,164),(1251,165),(1251,166),(1251,167),(1251,168),(1251,169),(1251,170),(581,171)]
 mts:= [((186,52),169),((186,55),176),((560,147),550),((560,63),557),((736,97),719),((736,80),726),((806,98),796),((806,86),803),((848,98),838),((848,116),845),((897,104),880),((897,63),887),((897,116),894),((981,102),978),((1086,98),1076),((1086,116),1083)]
 cas:= [((38,173),35),((101,173),98)]
 xst:= [(38,86),(38,131),(101,86),(101,131),(120,86),(120,131)]
 xgt:= [(38,131),(101,131),(120,131)]
 isa:= [((101,120),false),((120,120),true)]
 own:= [(848,89),(897,100)]
 cat:= [(101,101),(120,101)]
 cmps:= [(0,HC),(1,Gz),(2,Gy),(3,EH),(4,Ak),(5,Gx)]
 dfs:= [(0,⟨false,[90,29],[],[],Dq⟩),(1,⟨false,[90,99,82,29],[],[],An⟩)]
noncomputable def HO(k:Nat):Option AO:=lk [
 (684,.tup [.str (ag "I") 0,.str (ag "F") 0,.str (ag "E") 0,.str (ag "D") 0,.str (ag "G") 0,.str (ag "L") 0,.str (ag "A") 0]),
 (1256,.lst [.str (ag "  7") 0,.str (ag " 40") 0,.str (ag "x  ") 0,.str (ag "   ") 0,.str (ag " 21") 0]),
 (1257,.tup [.str (ag "I") 0,.int 3 0,.none]),
 (1258,.tup [.str (ag "repeat") 0,.int 9 0,.ref 1257]),
 (1259,.lst [.ref 1258])] k
end Mine
end
section
open PySem
namespace Mine
inductive PT where
 |n
 |l (i:Nat)
 |c (i:Nat) (t:PT)
 |a (s t:PT)
noncomputable def xI{α:Type}:List α->α->Nat->α
 | [],d,_=>d
 |x::_,_,0=>x
 |_::r,d,i+1=>xI r d i
noncomputable def xH{α:Type}:List α->Nat->List α
 | [],_=> []
 |x::_,0=> [x]
 |_::r,i+1=>xH r i
noncomputable def PT.den{α:Type}(E:List α)(L:List (List α)):PT->List α
 | .n=> []
 | .l i=>xI L [] i
 | .c i t=>xH E i++t.den E L
 | .a s t=>s.den E L++t.den E L
noncomputable def PT.r:List Nat->PT->PT
 | [],t=>t
 |i::m,t=> .a (.l i) (PT.r m t)
noncomputable def PT.flat:PT->List Nat
 | .n=> []
 | .l i=> [2*i+1]
 | .c i t=>2*i::t.flat
 | .a s t=>s.flat++t.flat
noncomputable def PT.atm{α:Type}(E:List α)(L:List (List α))(k:Nat):List α:=if k%2=0 then xH E (k/2) else xI L [] (k/2)
theorem PT.den_flat{α:Type}(E:List α)(L:List (List α))(t:PT):t.den E L=t.flat.flatMap (PT.atm E L):=by
 induction t with
 |n=>rfl
 |l i=>
  show xI L [] i=PT.atm E L (2*i+1)++ []
  rw[wT]
  unfold PT.atm
  rw[if_neg (by omega),show(2*i+1)/2=i by omega]
 |c i t ih=>
  show xH E i++t.den E L=PT.atm E L (2*i)++t.flat.flatMap (PT.atm E L)
  unfold PT.atm at ih⊢
  rw[if_pos (by omega),show(2*i)/2=i by omega,ih]
 |a s t h1 h2=>
  show s.den E L++t.den E L=(s.flat++t.flat).flatMap (PT.atm E L)
  rw[List.flatMap_append,h1,h2]
theorem aF{α:Type}{b:BEq α}(E:List α)(L:List (List α))(s t:PT)(h:(s.flat.isPerm t.flat)=true)(x:α):IB x (s.den E L)=IB x (t.den E L):=by
 rw[s.den_flat,t.den_flat]
 exact((List.isPerm_iff.mp h).flatMap_right _).count_eq x
end Mine
end
section
open PySem PySem.W PySem.Spec PySem.Calls PyProof.Rows
namespace Mine
noncomputable def drawn(ns:List Int)(s:Nat)(m:Int):Int:=match ns[s]? with
 |some x=>x.fmod m
 |none=>((3*((s:Int)+1))+((s:Int)+1).fdiv 4).fmod m
noncomputable def Drawn(ns:List Int):Nat->List Gt->Prop
 |_,[]=>True
 |s,.dr m r::gs=>drawn ns s m=r/\Drawn ns (s+1) gs
 |_,_=>False
noncomputable def aP(ns:List Int):List Value:=ns.map fun i=> .int i 0
noncomputable abbrev L0:Nat:=1344
noncomputable def a8(s:Nat):List (Str×Value):= [(ag "script",.ref L0),(ag "spot",.int (s:Int) 0)]
structure Base where
 prog:Program
 w:World
 K:Frag
 p:Program
 loose:List Str
 mean:H8->Option Value
 mg:Str->Option Value
 mb:Str->Option Value
 ce:Scope->Nat->Expr->Prop
 dfs:Nat->DfI
 nest:Scope->Option (Addr×Addr×Str)
 ns:List Int
noncomputable def NM(i:Nat):Str:=match NMS[i]? with
 |some x=>ag x
 |none=>⟨(Hr (i+30) 120).toArray⟩
noncomputable def CO(B:Base):Core where
 prog:=B.prog
 w:=B.w
 K:=B.K
 p:=B.p
 loose:=B.loose
 mean:=B.mean
 mg:=B.mg
 mb:=B.mb
 nm:=NM
 HB:=1340
 hobj:=HO
 ce:=B.ce
 dfi:=⟨B.dfs,fun gs es=>∃s,es=a8 s/\Drawn B.ns s gs,fun o=>∃vs' n,o=I8 vs'.toArray n/\All2 (VR fun ι=>none) (aP B.ns) vs'⟩
 nest:=B.nest
theorem lowG(B:Base){n0:Nat}(h:1345<=n0):yW (CO B) n0:=by
 rintro f hf gs es ⟨s,rfl,_⟩ p hp
 unfold a8 at hp
 rcases eq.mp hp with rfl|hp
 ·show pf (f L0)= .ref L0
  rw[hf _ (sw (by decide) h)]
 ·rcases eq.mp hp with rfl|hp
  ·rfl
  ·cases hp
noncomputable def GS:AO->Option (List Gt)
 | .gh gs=>some gs
 |_=>none
noncomputable def yl:AO->Option Unit
 | .scr=>some ()
 |_=>none
noncomputable def CM(m:Int):List Gt->Option (Int×List Gt)
 | .dr m' r::gs=>grd (Io m' m&&KO 0 m&&Ij m 1000) (some (r,gs))
 |_=>none
noncomputable def y4(vs:List Value)(st:St):Out Value:=oget (sG vs) fun p=>oget (bL p.1) fun k=>oget (de p.2) fun m=>oget (lk st.led k) fun o=>oget (GS o) fun gs=>oget (lk st.led L0) fun o2=>oget (yl o2) fun ι=>oget (CM m gs) fun q=>
 grd (gy 1 st.dp&&av k 1343) (some (.ok (.int q.1 0),{st with led:=up st.led k (.gh q.2)}))
noncomputable def O0:Orc:=⟨fun ι ι ι=>none,fun ι ι ι=>none⟩
noncomputable def O1:Orc:=⟨fun ι ι ι=>none,fun k vs st=>grd (av k 1266) (y4 vs st)⟩
theorem Ef(S:Core):OrcOk S O0 where
 o FN sc cx C k i x hm st J g s Q E hk hP:=hP.elim
 oc k vs st FN sc cx C J g s hk A hA hh hd hu vs' hv R hP:=hP.elim
theorem a9{S:Core}{st:St}{l:List (Nat×AO)}(h:l.Perm st.led):Weak S id st {st with led:=l}:=
 {hd:=fun ι ι=>rfl,hb:=id,gh:=fun ι ι ι p ι=>ak p.2,hi:=fun ι h=>h,led:=fun p hp=>by rw[cf];exact h.subset hp,nd:=fun q=>((h.map (·.1)).nodup_iff).mpr q,lo:=fun x v e=>by rw[ak];exact e,pin:=fun ι ι ι=>rfl,h:=by simp,dp:=wh _}
theorem gD{α:Type}:∀{l:List (Nat×α)} {k:Nat} {x:α},lk l k=some x->l.Perm ((k,x)::del l k)
 |p::r,k,x,h=>by
  rw[aR] at h
  rw[dG]
  cases e:av p.1 k with
  |true=>rw[e] at h;cases h;rw[<-aH e]
  |false=>
   rw[e] at h
   exact((gD h).cons p).trans (Ik _ _ _)
theorem ia{α:Type}:∀{l:List (Nat×α)} {k:Nat} {x x':α},lk l k=some x->(up l k x').Perm ((k,x')::del l k)
 |p::r,k,x,x',h=>by
  rw[aR] at h
  rw[dG,fq]
  cases e:av p.1 k with
  |true=>dsimp only;rw[aH e]
  |false=>
   rw[e] at h
   exact((ia h).cons p).trans (Ik _ _ _)
theorem Ok.said{S:Sta}{cx:Cx}{g:Heap}{s:Shared}{J:Rho}{st:St}(hk:Ok S cx g s J st){k:Nat}{x x':AO}(e:lk st.led k=some x)(hx:∀a o,J k=some a->s.heap.get? a=some o->OR S.prog S.w S.nm S.dfi (fun ι=>S.FN k) J x' o):Ok S cx g s J {st with led:=up st.led k x'}:=by
 obtain⟨m,news,F,N,R,hl⟩:=hk.fr
 obtain⟨a,o,h1,h2,h3,h4⟩:=ER.find R.er e
 exact⟨hk.B,⟨m,news,F,N,⟨R.hd,R.hb,R.hi,R.nd,pP (S:=S) (x:=x) (x':=x') (od:=o) (FN':=S.FN) h1 (fun ι ι=>rfl) (fun ι=>hx a o h1 (N _ h2).1) R.er R.nd e h2⟩,hl⟩,hk.hd,hk.dp,hk.un⟩
section
variable(B:Base)
noncomputable def qK(s:Nat):List (Nat×AO):= [(1343,.sdict (a8 s)),(L0,.lst (aP B.ns))]
noncomputable def bF(nx dp:Nat)(hd:Option Nat)(m:Int)(t:Tok)(s:Nat):St:=⟨nx,hd,dp,qK B s,[(174,.ref 1343),(175,.int m t)]⟩
theorem AK(h:B.ns.length<=50):gy (aP B.ns).length 4000=true:=ls (by unfold aP;rw[xL];omega)
theorem xZ(h:B.ns.length<=50){nx dp:Nat}{hd:Option Nat}{m:Int}{t:Tok}{s:Nat}:x9 (CO B) (bF B nx dp hd m t s) (.ref L0)=some B.ns.length:=by
 show(match gy (aP B.ns).length 4000 with|true=>some (aP B.ns).length|false=>none)=_
 rw[AK B h]
 unfold aP
 rw[xL]
theorem rM(TO:TbOk (CO B) TB)(FO:FnsOk (CO B) TB)(h:B.ns.length<=50){nx dp:Nat}{hd:Option Nat}{m:Int}{t:Tok}{s:Nat}(hm:Io m 0=false):JB (CO B) ja (bF B nx dp hd m t s) (some (.ok (.ret (.int (drawn B.ns s m) 0)),bF B nx dp hd m t (s+1))):=by
 have OO:=Ef (CO B)
 have h1:JS (CO B) (.asgI (.loc 174) (.cst (.str (ag "spot") 0)) (.bin .Add (.idx (.loc 174) (.cst (.str (ag "spot") 0))) (.cst (.int 1 0)))) (bF B nx dp hd m t s) (some (.ok .next,bF B nx dp hd m t (s+1))):=by
  have:=mT TO FO OO 20 (.asgI (.loc 174) (.cst (.str (ag "spot") 0)) (.bin .Add (.idx (.loc 174) (.cst (.str (ag "spot") 0))) (.cst (.int 1 0)))) (bF B nx dp hd m t s)
  have e:fc (CO B) TB (run (CO B) TB O0 20) (.asgI (.loc 174) (.cst (.str (ag "spot") 0)) (.bin .Add (.idx (.loc 174) (.cst (.str (ag "spot") 0))) (.cst (.int 1 0)))) (bF B nx dp hd m t s)=some (.ok .next,bF B nx dp hd m t (s+1)):=by kernel_rfl
  rw[e] at this
  exact this
 refine aN h1 ?_
 have hlen:=xZ B h (nx:=nx) (dp:=dp) (hd:=hd) (m:=m) (t:=t) (s:=s+1)
 have hc:JT (CO B) (.cmp .LtE (.idx (.loc 174) (.cst (.str (ag "spot") 0))) (.bcall .len [(.idx (.loc 174) (.cst (.str (ag "script") 0)))])) (bF B nx dp hd m t (s+1)) (some (.ok (Ij ((s+1:Nat):Int) (B.ns.length:Int)),bF B nx dp hd m t (s+1))):=by
  have:=vr TO FO OO 20 (.cmp .LtE (.idx (.loc 174) (.cst (.str (ag "spot") 0))) (.bcall .len [(.idx (.loc 174) (.cst (.str (ag "script") 0)))])) (bF B nx dp hd m t (s+1))
  have e:(run (CO B) TB O0 20).t (.cmp .LtE (.idx (.loc 174) (.cst (.str (ag "spot") 0))) (.bcall .len [(.idx (.loc 174) (.cst (.str (ag "script") 0)))])) (bF B nx dp hd m t (s+1))=
   Ob (oget (x9 (CO B) (bF B nx dp hd m t (s+1)) (.ref L0)) fun n=>some (.ok (JL n 0),bF B nx dp hd m t (s+1))) (fun y st2=>pureO (mC (CO B) st2 .LtE (.int ((s+1:Nat):Int) 0) y) st2):=by kernel_rfl
  rw[e,hlen] at this
  exact this
 cases hb:Ij ((s+1:Nat):Int) (B.ns.length:Int) with
 |true=>
  rw[hb] at hc
  have hlt:s<B.ns.length:=by have:=(H4 _ _).mp hb;omega
  refine bZ (iM hc (bZ ?_))
  have e:fc (CO B) TB (run (CO B) TB O0 20) (.ret (.bin .Mod (.idx (.idx (.loc 174) (.cst (.str (ag "script") 0))) (.bin .Sub (.idx (.loc 174) (.cst (.str (ag "spot") 0))) (.cst (.int 1 0)))) (.loc 175))) (bF B nx dp hd m t (s+1))=
   Ob (Ob (pureO (grd (ay (((s+1:Nat):Int)-1)) (yz (aP B.ns) (((s+1:Nat):Int)-1))) (bF B nx dp hd m t (s+1))) fun x st1=>Ob ((run (CO B) TB O0 19).e (.loc 175) st1) fun y st2=>ju .Mod x y st2) (fun v st1=>some (.ok (AF.ret v),st1)):=by kernel_rfl
  have ez:((s+1:Nat):Int)-1=(s:Int):=by omega
  have es:ay (s:Int)=true:=ls (by omega)
  have ea:yz (aP B.ns) (s:Int)=some (.int (B.ns[s]) 0):=by
   have e0:seqIndex? (s:Int) (aP B.ns).length=some s:=by
    unfold seqIndex? aP
    rw[xL]
    have h1:¬((s:Int)<0):=by omega
    have h2:(decide ((0:Int)<=(s:Int))&&decide ((s:Int)<(B.ns.length:Int)))=true:=by rw[db];exact⟨decide_eq_true (by omega),decide_eq_true (by omega)⟩
    dsimp only
    rw[if_neg h1,if_pos h2]
    rfl
   unfold yz
   rw[e0]
   show(aP B.ns)[s]?=_
   unfold aP
   rw[Iq,JH hlt]
   rfl
  have:=mT TO FO OO 20 (.ret (.bin .Mod (.idx (.idx (.loc 174) (.cst (.str (ag "script") 0))) (.bin .Sub (.idx (.loc 174) (.cst (.str (ag "spot") 0))) (.cst (.int 1 0)))) (.loc 175))) (bF B nx dp hd m t (s+1))
  rw[e,ez,es,ea] at this
  have e2:yQ .Mod (.int (B.ns[s]) 0) (.int m t)=some (.int ((B.ns[s]).fmod m) 0):=by
   show grd (!Z.eqB m 0) _=_
   rw[hm]
   rfl
  have e3:ju .Mod (.int (B.ns[s]) 0) (.int m t) (bF B nx dp hd m t (s+1))=some (.ok (.int ((B.ns[s]).fmod m) 0),bF B nx dp hd m t (s+1)):=by unfold ju;rw[e2]
  have e4:drawn B.ns s m=(B.ns[s]).fmod m:=by unfold drawn;rw[JH hlt]
  rw[e4]
  have z:JS (CO B) _ (bF B nx dp hd m t (s+1)) (Ob (ju .Mod (.int (B.ns[s]) 0) (.int m t) (bF B nx dp hd m t (s+1))) (fun v st1=>some (.ok (AF.ret v),st1))):=this
  rw[e3] at z
  exact z
 |false=>
  rw[hb] at hc
  have hlt:B.ns.length<=s:=by
   have:¬((s+1:Nat):Int)<=(B.ns.length:Int):=fun q=>by rw[(H4 _ _).mpr q] at hb;cases hb
   omega
  refine aN (iM hc c5) (bZ ?_)
  have e:fc (CO B) TB (run (CO B) TB O0 20) (.ret (.bin .Mod (.bin .Add (.bin .Mult (.cst (.int 3 0)) (.idx (.loc 174) (.cst (.str (ag "spot") 0)))) (.bin .FloorDiv (.idx (.loc 174) (.cst (.str (ag "spot") 0))) (.cst (.int 4 0)))) (.loc 175))) (bF B nx dp hd m t (s+1))=
   Ob (ju .Mod (.int (3*((s+1:Nat):Int)+(((s+1:Nat):Int)).fdiv 4) 0) (.int m t) (bF B nx dp hd m t (s+1))) (fun v st1=>some (.ok (AF.ret v),st1)):=by kernel_rfl
  have e3:ju .Mod (.int (3*((s+1:Nat):Int)+(((s+1:Nat):Int)).fdiv 4) 0) (.int m t) (bF B nx dp hd m t (s+1))=some (.ok (.int (drawn B.ns s m) 0),bF B nx dp hd m t (s+1)):=by
   have e2:yQ .Mod (.int (3*((s+1:Nat):Int)+(((s+1:Nat):Int)).fdiv 4) 0) (.int m t)=some (.int ((3*((s+1:Nat):Int)+(((s+1:Nat):Int)).fdiv 4).fmod m) 0):=by
    show grd (!Z.eqB m 0) _=_
    rw[hm]
    rfl
   unfold ju
   rw[e2]
   unfold drawn
   rw[Ka hlt]
   rfl
  have:=mT TO FO OO 20 (.ret (.bin .Mod (.bin .Add (.bin .Mult (.cst (.int 3 0)) (.idx (.loc 174) (.cst (.str (ag "spot") 0)))) (.bin .FloorDiv (.idx (.loc 174) (.cst (.str (ag "spot") 0))) (.cst (.int 4 0)))) (.loc 175))) (bF B nx dp hd m t (s+1))
  rw[e,e3] at this
  exact this
theorem AU{o:AO}{gs:List Gt}(h:GS o=some gs):o= .gh gs:=by cases o<;>first|exact bn rfl (heq_of_eq h)|(cases h;rfl)
theorem uz{o:AO}{u:Unit}(h:yl o=some u):o= .scr:=by cases o<;>first|exact bn rfl (heq_of_eq h)|(cases h;rfl)
theorem wx{m r:Int}{gs gs':List Gt}(h:CM m gs=some (r,gs')):gs= .dr m r::gs'/\Io m 0=false:=by
 cases gs with
 |nil=>exact bn rfl (heq_of_eq h)
 |cons x gs=>
 cases x with
 |deed d=>exact bn rfl (heq_of_eq h)
 |dr m' r'=>
  have h:grd (Io m' m&&KO 0 m&&Ij m 1000) (some (r',gs))=some (r,gs'):=h
  obtain⟨e1,e2⟩:h:=aM h
  rw[db,db] at e1
  cases e2
  have:=(Ii _ _).mp e1.1.1
  subst this
  refine⟨rfl,?_⟩
  have h2:=(KV _ _).mp e1.1.2
  cases q:Io _ 0 with
  |false=>rfl
  |true=>have:=(Ii _ _).mp q;omega
theorem ui{α:Type}(l:List (Nat×α)):∀(k j:Nat) (x:α),lk (up l k x) j=match av k j with|true=>(lk l k).map fun ι=>x|false=>lk l j:=by
 induction l with
 |nil=>intro k j x;cases av k j<;>rfl
 |cons p r ih=>
  intro k j x
  rw[fq]
  cases e:av p.1 k with
  |true=>
   dsimp only
   rw[aR,aR,aR,e]
   rw[aH e]
   cases av k j<;>rfl
  |false=>
   dsimp only
   rw[aR,aR,aR,e,ih k j x]
   cases e2:av p.1 j with
   |true=>
    have:av k j=false:=by
     rw[<-aH e2]
     cases z:av k p.1 with
     |true=>exact absurd (aH z).symm (aY e)
     |false=>rfl
    rw[this]
   |false=>cases av k j<;>rfl
theorem jh{J J':Rho}{l:List Int}:∀{vs:List Value},All2 (VR J) (aP l) vs->All2 (VR J') (aP l) vs:=by
 induction l with
 |nil=>intro vs h;cases h.nilL;exact .nil
 |cons _ _ ih=>intro vs h;obtain⟨y,m,rfl,k,r⟩:=h.consL;exact .cons k (ih r)
theorem BU{α:Type}(l:List (Nat×α)):∀(k:Nat) (x y:α),up (up l k x) k y=up l k y:=by
 induction l with
 |nil=>exact fun ι ι ι=>rfl
 |cons p r ih=>
  intro k x y
  have h1:∀z,up (p::r) k z=match av p.1 k with|true=>(p.1,z)::r|false=>p::up r k z:=fun z=>rfl
  rw[h1 x,h1 y]
  cases e:av p.1 k with
  |true=>
   show(match av p.1 k with|true=>_|false=>_)=_
   rw[e]
  |false=>
   show(match av p.1 k with|true=>_|false=>_)=_
   rw[e,ih k x y]
theorem gg{S:Sta}{cx:Cx}{g:Heap}{s:Shared}{J:Rho}{st:St}(hk:Ok S cx g s J st){k:Nat}{x x':AO}{a:Addr}{o:Obj}(e:lk st.led k=some x)(h1:J k=some a)(h2:s.heap.get? a=some o)(r:OR S.prog S.w S.nm S.dfi (fun ι=>S.FN k) J x' o):Ok S cx g s J {st with led:=up st.led k x'}:=
 hk.said e fun a' o' z1 z2=>by
  rw[h1] at z1
  cases z1
  rw[h2] at z2
  cases z2
  exact r
theorem wU(B:Base)(TO:TbOk (CO B) TB)(FO:FnsOk (CO B) TB)(h:B.ns.length<=50)(vs:List Value)(st:St):CallSat (CO B) 1266 vs st (y4 vs st):=by
 intro FN sc cx C J g s hk A hA hh hd hu vs' hv R hP
 obtain⟨p,e1,hP1⟩:Post:=Post.oget (S:=⟨CO B,FN⟩) hP
 obtain⟨k,e2,hP2⟩:hP1:=hP1.oget
 obtain⟨m,e3,hP3⟩:hP2:=hP2.oget
 obtain⟨o,e4,hP4⟩:hP3:=hP3.oget
 obtain⟨gs,e5,hP5⟩:hP4:=hP4.oget
 obtain⟨o2,e6,hP6⟩:hP5:=hP5.oget
 obtain⟨u,e7,hP7⟩:hP6:=hP6.oget
 obtain⟨⟨r,gs'⟩,e8,hP8⟩:hP7:=hP7.oget
 obtain⟨e9,hPf⟩:hP8:=hP8.grd
 clear hP
 rw[db] at e9
 cases aH e9.2
 cases AU e5
 cases uz e7
 obtain⟨rfl,hm⟩:=wx e8
 obtain⟨p1,p2⟩:=p
 dsimp only at e1 e2 e3
 cases aQ e2
 obtain⟨t,rfl⟩:=cB e3
 cases gR e1
 obtain⟨d,hd1⟩:∃d,st.dp=d+1:=⟨st.dp-1,by have:=al e9.1;omega⟩
 obtain⟨a,o,q1,q2,⟨es,⟨sp,rfl,hD⟩,kvs,q4,q5⟩,q6⟩:=dU (S:=⟨CO B,FN⟩) hk e4
 have ok1:=gg hk (x':= .sdict (a8 sp)) e4 q1 q2 ⟨kvs,q4,q5⟩
 obtain⟨a2,o2,u1,u2,⟨ws,n,rfl,u3⟩,u4⟩:=dU (S:=⟨CO B,FN⟩) hk e6
 have e6':lk (up st.led 1343 (.sdict (a8 sp))) L0=some .scr:=by rw[ui];exact e6
 have ok2:=gg ok1 (x':= .lst (aP B.ns)) e6' u1 u2 ⟨ws,n,rfl,jh u3⟩
 have hperm:(qK B sp++del (del st.led 1343) L0).Perm (up (up st.led 1343 (.sdict (a8 sp))) L0 (.lst (aP B.ns))):=by
  have f1:=ia (x':=AO.sdict (a8 sp)) e4
  have f2:=ia (x':=AO.lst (aP B.ns)) e6'
  have f3:=gD (k:=L0) (x:=AO.scr) (l:=del st.led 1343) (by rw[l8 (by rfl)];exact e6)
  have f4:=gD (k:=L0) e6'
  have f5:=(f1.trans (f3.cons _)).trans (Ik _ _ _)
  have f6:(del (up st.led 1343 (.sdict (a8 sp))) L0).Perm ((1343,AO.sdict (a8 sp))::del (del st.led 1343) L0):=(f4.symm.trans f5).cons_inv
  exact((f2.trans (f6.cons _)).trans (Ik _ _ _)).symm
 have W1:Weak (CO B) id _ _:=a9 (st:={st with led:=up (up st.led 1343 (.sdict (a8 sp))) L0 (.lst (aP B.ns))}) hperm
 have ok3:=ok2.weak W1
 have hc:=bf FO (k:=1266) (vs:= [.ref 1343,.int m t]) (st:={st with led:=qK B sp++del (del st.led 1343) L0}) (LA:=qK B sp) (LB:=del (del st.led 1343) L0) (d:=d) (lo:= [(174,.ref 1343),(175,.int m t)]) (fi:=⟨true,[174,175],[],[],ja⟩) (by kernel_rfl) rfl hd1 rfl
  (rM B TO FO h hm)
 refine hc FN sc cx C _ g s ok3 A hA hh hd hu vs' hv R fun J' g' s' v' x hv'=>hPf J' g' s' v' ⟨x.le,x.turn,x.same,?_⟩ (by rw[hD.1] at hv';exact hv')
 have hback:(up st.led 1343 (.sdict (a8 (sp+1)))).Perm ((1343,AO.sdict (a8 (sp+1)))::(L0,AO.scr)::del (del st.led 1343) L0):=
  (ia e4).trans ((gD (k:=L0) (x:=AO.scr) (l:=del st.led 1343) (by rw[l8 (by rfl)];exact e6)).cons _)
 have okr:Ok ⟨CO B,FN⟩ cx g' s' J' {st with led:=(1343,.sdict (a8 (sp+1)))::(L0,.lst (aP B.ns))::del (del st.led 1343) L0}:=x.ok
 obtain⟨a3,o3,w1,w2,⟨ws3,n3,rfl,w3⟩,w4⟩:=dU (S:=⟨CO B,FN⟩) (k:=L0) (x:= .lst (aP B.ns)) okr rfl
 have okr2:=gg okr (k:=L0) (x:= .lst (aP B.ns)) (x':= .scr) rfl w1 w2 ⟨ws3,n3,rfl,jh w3⟩
 have okr3:=okr2.weak (a9 (S:=CO B) (st:={st with led:=(1343,.sdict (a8 (sp+1)))::(L0,.scr)::del (del st.led 1343) L0}) hback)
 obtain⟨a4,o4,v1,v2,⟨kvs3,v3,v4⟩,v5⟩:=dU (S:=⟨CO B,FN⟩) (k:=1343) (x:= .sdict (a8 (sp+1))) okr3 (by dsimp only;rw[ui,e4];rfl)
 have okr4:=gg okr3 (k:=1343) (x:= .sdict (a8 (sp+1))) (x':= .gh gs') (by dsimp only;rw[ui,e4];rfl) v1 v2 ⟨_,⟨sp+1,rfl,hD.2⟩,kvs3,v3,v4⟩
 have hfin:up (up st.led 1343 (.sdict (a8 (sp+1)))) 1343 (.gh gs')=up st.led 1343 (.gh gs'):=BU _ _ _ _
 dsimp only at okr4
 rw[hfin] at okr4
 exact okr4
theorem Ee(B:Base)(TO:TbOk (CO B) TB)(FO:FnsOk (CO B) TB)(h:B.ns.length<=50):OrcOk (CO B) O1 where
 o FN sc cx C k i x hm st J g s Q E hk hP:=hP.elim
 oc k vs st FN sc cx C J g s hk A hA hh hd hu vs' hv R hP:=by
  obtain⟨e,hP⟩:Post:=Post.grd (S:=⟨CO B,FN⟩) hP
  cases aH e
  exact wU B TO FO h vs st FN sc cx C J g s hk A hA hh hd hu vs' hv R hP
end
set_option genCtorIdx true in
inductive Nv where
 |v1|v2|v3|v4|v7|v9|v21|v40
noncomputable def Nv.val:Nv->Int
 | .v1=>1| .v2=>2| .v3=>3| .v4=>4| .v7=>7| .v9=>9| .v21=>21| .v40=>40
noncomputable def tx(x:String):Value:= .str (ag x) 0
noncomputable def nO:Nd->AO
 | .a0=> .tup [tx "ask",.int 0 0,.int 0 0]
 | .a1=> .tup [tx "ask",.int 0 0,.int 1 0]
 | .a2=> .tup [tx "ask",.int 0 0,.int 2 0]
 | .a3=> .tup [tx "ask",.int 0 0,.int 3 0]
 | .c1=> .tup [tx "const",.int 0 0,.int 1 0]
 | .c2=> .tup [tx "const",.int 0 0,.int 2 0]
 | .c3=> .tup [tx "const",.int 0 0,.int 3 0]
noncomputable def aG(b:Nat):It->List (Nat×AO)
 | .elem n=> [(b,.tup [tx "elem",.int 0 0,tx "A",.ref (b+1)]),(b+1,.lst [.ref (b+2)]),(b+2,nO n)]
 | .nod n=> [(b,nO n)]
 | .k4=> [(b,.tup [tx "const",.int 0 0,.int 4 0])]
 | .k13=> [(b,.tup [tx "const",.int 0 0,.int 13 0])]
 | .var=> [(b,.tup [tx "var",.int 0 0,tx "X"])]
structure Sig where
 s:Int
 x:Nv
 a:Nv
 b:Nv
 c:Nv
noncomputable def RG:List (Nat×AO):= [
 (2000,.inst 303 2001),
 (2001,.adict [(28,.ref 2002),(29,.ref 2011),(30,.ref 2013),(31,.ref 2014),(32,.ref 2029),(33,.ref 2030),(34,.ref 2031),(35,.int 0 0),(36,.int 0 0),(37,.ref 2039),(38,.ref 2040),(39,.ref 2041),(40,.ref 2042),(41,.ref 2043),(42,.ref 2044),(43,.none)]),
 (2029,.sdict [(ag "const",.ref 354),(ag "var",.ref 361),(ag "elem",.ref 361),(ag "ask",.ref 1301)]),
 (2031,.sdict [(ag "S",.ref 2032),(ag "X",.ref 2034),(ag "A",.ref 2036)]),
 (2032,.tup [.int 0 0,.int 0 0,.int 0 0,.ref 2033]),(2034,.tup [.int 0 0,.int 1 0,.int 0 0,.ref 2035]),(2036,.tup [.int 0 0,.int 2 0,.int 0 0,.ref 2037]),(2037,.tup [.ref 2038]),(2038,.tup [.int 1 0,.int 3 0])]
noncomputable def MG(cb:Nat)(V:Sig):List (Nat×AO):= [(2002,.inst 186 2003),(2003,.adict [(1,.ref 2004),(2,.ref 2010)]),
 (2004,.lst [.ref cb,.ref (cb+1),.ref (cb+2),.ref (cb+3),.ref (cb+4)]),
 (cb,.tup [.int 0 0,.int V.s 0]),(cb+1,.tup [.int 0 0,.int V.x.val 0]),(cb+2,.tup [.int 0 0,.int V.a.val 0]),(cb+3,.tup [.int 0 0,.int V.b.val 0]),(cb+4,.tup [.int 0 0,.int V.c.val 0])]
noncomputable def WG(tk:Int):List (Nat×AO):= [(2014,.inst 946 2015),(2015,.adict [(106,.ref 2016),(58,.int tk 0),(107,.ref 2017),(55,.ref 2018),(30,.ref 2021),(108,.ref 2022)]),(2021,.sdict [])]
noncomputable def MK:List (Nat×AO):= [(2022,.tdict [([ag "write",ag "list"],2023,.ref 2024),([ag "read",ag "list"],2026,.ref 2027)]),
 (2023,.tup [tx "write",tx "list"]),(2024,.dfn 0 2025),(2025,.code 0),(2026,.tup [tx "read",tx "list"]),(2027,.dfn 1 2028),(2028,.code 1)]
noncomputable def IN(t0 t1:Str):List (Nat×AO):= [(2016,.lst [.str t0 0,.str t1 0])]
noncomputable def OU(outs:List Str):List (Nat×AO):= [(2017,.lst (outs.map fun x=> .str x 0))]
noncomputable def ZG:List (Nat×AO):= [(2010,.lst []),(2011,.inst 1230 2012),
 (2012,.adict [(103,.int 32 0),(155,.int 7 0),(156,.int 15 0),(157,.int 38 0),(36,.int 1000000 0),(158,.int 19 0),(159,.int 72 0),(35,.int 40 0)]),
 (2013,.sdict []),(2018,.inst 581 2019),(2019,.adict [(171,.ref 2020)]),(2020,.sdict []),(2030,.sdict []),(2033,.tup []),(2035,.tup []),
 (2039,.sdict []),(2040,.sdict []),(2041,.sdict []),(2042,.lst []),(2043,.sdict []),(2044,.sdict [])]
structure PB(B:Base):Prop where
 TO:TbOk (CO B) TB
 FO:FnsOk (CO B) TB
 len:B.ns.length<=50
theorem PB.oo{B:Base}(P:PB B):OrcOk (CO B) O1:=Ee B P.TO P.FO P.len
noncomputable abbrev RN(B:Base)(n:Nat):Fs:=run (CO B) TB O1 n
noncomputable def bU(n0:Nat)(X:List (Nat×AO)):Bool:=X.all fun p=>u8 p.1 n0&&(ft p.2).all fun t=>u8 t n0
theorem bj{f:Nat->Nat}{v:Value}(h:∀t∈tokV v,f t=t):ren f v=v:=by
 cases v<;>first|rfl|exact congrArg pf (h _ (.head _))
theorem ci{α:Type}{f:α->α}{l:List α}(h:∀a∈l,f a=a):l.map f=l:=by
 induction l with
 |nil=>rfl
 |cons a r ih=>rw[mo,h a (.head _),ih fun b hb=>h b (.tail _ hb)]
theorem jF{f:Nat->Nat}{x:AO}(h:∀t∈ft x,f t=t):bg f x=x:=by
 cases x with
 |tup vs=>exact congrArg AO.tup (ci fun v hv=>bj fun t ht=>h t (sK.mpr ⟨v,hv,ht⟩))
 |lst vs=>exact congrArg AO.lst (ci fun v hv=>bj fun t ht=>h t (sK.mpr ⟨v,hv,ht⟩))
 |adict es=>exact congrArg AO.adict (ci fun p hp=>by rw[bj fun t ht=>h t (sK.mpr ⟨p,hp,ht⟩)])
 |sdict es=>exact congrArg AO.sdict (ci fun p hp=>by rw[bj fun t ht=>h t (sK.mpr ⟨p,hp,ht⟩)])
 |pdict es=>exact congrArg AO.pdict (ci fun p hp=>by rw[bj fun t ht=>h t (sK.mpr ⟨p,hp,ht⟩)])
 |ns es=>exact congrArg AO.ns (ci fun p hp=>by rw[bj fun t ht=>h t (sK.mpr ⟨p,hp,ht⟩)])
 |tdict es=>exact congrArg AO.tdict (ci fun p hp=>by rw[bj fun t ht=>h t (sK.mpr ⟨p,hp,.tail _ ht⟩),h p.2.1 (sK.mpr ⟨p,hp,.head _⟩)])
 |inst C d=>show AO.inst C (f d)=_;rw[h d (.head _)]
 |exc C d t=>show AO.exc C (f d) (f t)=_;rw[h d (.head _),h t (.tail _ (.head _))]
 |exn C t=>show AO.exn C (f t)=_;rw[h t (.head _)]
 |exd C d t=>show AO.exd C (f d) (f t)=_;rw[h d (.head _),h t (.tail _ (.head _))]
 |dfn i t=>show AO.dfn i (f t)=_;rw[h t (.head _)]
 |cell v=>cases v with|none=>rfl|some v=>exact congrArg (fun v=>AO.cell (some v)) (bj h)
 |_=>rfl
theorem aJ{n0:Nat}{X:List (Nat×AO)}(h:bU n0 X=true):Low n0 X:=fun f hf p hp=>by
 have:=eg.mp h p hp
 rw[db] at this
 exact⟨hf _ (al this.1),jF fun t ht=>hf _ (al (eg.mp this.2 t ht))⟩
theorem Low.mono{n0 n1:Nat}{X:List (Nat×AO)}(h:Low n0 X)(hn:n0<=n1):Low n1 X:=fun f hf=>h f fun k hk=>hf k (sw hk hn)
open Classical in
theorem aB{α:Type}{l m:List α}(h:∀a:α,IB a l=IB a m):l.Perm m:=List.perm_iff_count.mpr h
open Classical in
theorem j8{α:Type}{l m:List α}(h:l.Perm m)(a:α):IB a l=IB a m:=h.count_eq a
section
variable{B:Base}
theorem jb(P:PB B){ir:List IS}{nx dp:Nat}{hd:Option Nat}{led:List (Nat×AO)}{lo:List (Nat×Value)}(n m:Nat)(mm:List Nat){A' X:List (Nat×AO)}{nx' dp':Nat}{hd':Option Nat}{lo':List (Nat×Value)}{r':Res AF}(h0:gy 1345 nx=true)(hX:Low nx X)
  (e:(cD ah tokF nx m mm A' X nx' hd' lo' dp' r' ((RN B n).b ir ⟨nx,hd,dp,led,lo⟩)).1=(cD ah tokF nx m mm A' X nx' hd' lo' dp' r' ((RN B n).b ir ⟨nx,hd,dp,led,lo⟩)).2):JB (CO B) ir ⟨nx,hd,dp,led,lo⟩ (some (r',⟨nx',hd',dp',A'++X,lo'⟩)):=
 (BA P.TO P.FO P.oo n ir _).after (ku (na (by decide:1340<=1345) (al h0)) (lowG B (al h0)) hX e)
theorem js(P:PB B){ir:IS}{nx dp:Nat}{hd:Option Nat}{led:List (Nat×AO)}{lo:List (Nat×Value)}(n m:Nat)(mm:List Nat){A' X:List (Nat×AO)}{nx' dp':Nat}{hd':Option Nat}{lo':List (Nat×Value)}{r':Res AF}(h0:gy 1345 nx=true)(hX:Low nx X)
  (e:(cD ah tokF nx m mm A' X nx' hd' lo' dp' r' (fc (CO B) TB (RN B n) ir ⟨nx,hd,dp,led,lo⟩)).1=(cD ah tokF nx m mm A' X nx' hd' lo' dp' r' (fc (CO B) TB (RN B n) ir ⟨nx,hd,dp,led,lo⟩)).2):JS (CO B) ir ⟨nx,hd,dp,led,lo⟩ (some (r',⟨nx',hd',dp',A'++X,lo'⟩)):=
 (mT P.TO P.FO P.oo n ir _).after (ku (na (by decide:1340<=1345) (al h0)) (lowG B (al h0)) hX e)
theorem je(P:PB B){ir:IE}{nx dp:Nat}{hd:Option Nat}{led:List (Nat×AO)}{lo:List (Nat×Value)}(n m:Nat)(mm:List Nat){A' X:List (Nat×AO)}{nx' dp':Nat}{hd':Option Nat}{lo':List (Nat×Value)}{r':Res Value}(h0:gy 1345 nx=true)(hX:Low nx X)
  (e:(cD ren tokV nx m mm A' X nx' hd' lo' dp' r' ((RN B n).e ir ⟨nx,hd,dp,led,lo⟩)).1=(cD ren tokV nx m mm A' X nx' hd' lo' dp' r' ((RN B n).e ir ⟨nx,hd,dp,led,lo⟩)).2):JE (CO B) ir ⟨nx,hd,dp,led,lo⟩ (some (r',⟨nx',hd',dp',A'++X,lo'⟩)):=
 (eT P.TO P.FO P.oo n ir _).after (ku (na (by decide:1340<=1345) (al h0)) (lowG B (al h0)) hX e)
theorem wk(B:Base){n0:Nat}(h0:gy 1345 n0=true){nx dp:Nat}{hd:Option Nat}{led:List (Nat×AO)}{lo:List (Nat×Value)}(m:Nat)(mm:List Nat){A' X:List (Nat×AO)}{nx' dp':Nat}{hd':Option Nat}{lo':List (Nat×Value)}(hX:Low n0 X)
  (e:(cD ah tokF n0 m mm A' X nx' hd' lo' dp' (.ok .next) (some (.ok .next,⟨nx,hd,dp,led,lo⟩))).1=(cD ah tokF n0 m mm A' X nx' hd' lo' dp' (.ok .next) (some (.ok .next,⟨nx,hd,dp,led,lo⟩))).2):∃f,Weak (CO B) f ⟨nx,hd,dp,led,lo⟩ ⟨nx',hd',dp',A'++X,lo'⟩/\∀k,k<n0->f k=k:=by
 obtain⟨r,st1,f,e1,W,hf,_⟩:=sv (S:=CO B) (na (by decide:1340<=1345) (al h0)) (lowG B (al h0)) hX e
 cases e1
 exact⟨f,W,hf⟩
theorem JB.pre{ir:List IS}{nx dp:Nat}{hd:Option Nat}{l l':List (Nat×AO)}{lo:List (Nat×Value)}{o:Out AF}(h:JB (CO B) ir ⟨nx,hd,dp,l',lo⟩ o)(p:l'.Perm l):JB (CO B) ir ⟨nx,hd,dp,l,lo⟩ o:=JB.before (f:=id) h (a9 (st:=⟨nx,hd,dp,l,lo⟩) p) fun ι ι=>rfl
theorem JS.pre{ir:IS}{nx dp:Nat}{hd:Option Nat}{l l':List (Nat×AO)}{lo:List (Nat×Value)}{o:Out AF}(h:JS (CO B) ir ⟨nx,hd,dp,l',lo⟩ o)(p:l'.Perm l):JS (CO B) ir ⟨nx,hd,dp,l,lo⟩ o:=JS.before (f:=id) h (a9 (st:=⟨nx,hd,dp,l,lo⟩) p) fun ι ι=>rfl
theorem qQ(r:AF):ah id r=r:=by cases r<;>first|rfl|exact congrArg AF.ret (ak _)
theorem mV{st0:St}{nx dp:Nat}{hd:Option Nat}{l l':List (Nat×AO)}{lo:List (Nat×Value)}{r:Res AF}(p:l'.Perm l):WkO (CO B) st0.nx ah (some (r,⟨nx,hd,dp,l,lo⟩)) (some (r,⟨nx,hd,dp,l',lo⟩)):=by
 cases r with
 |ok v=>exact .ok (a9 (st:=⟨nx,hd,dp,l,lo⟩) p) (fun ι ι=>rfl) (qQ v).symm
 |err k=>exact .err (a9 (st:=⟨nx,hd,dp,l,lo⟩) p) (fun ι ι=>rfl) rfl
theorem JB.post{ir:List IS}{st0:St}{nx dp:Nat}{hd:Option Nat}{l l':List (Nat×AO)}{lo:List (Nat×Value)}{r:Res AF}(h:JB (CO B) ir st0 (some (r,⟨nx,hd,dp,l,lo⟩)))(p:l'.Perm l):JB (CO B) ir st0 (some (r,⟨nx,hd,dp,l',lo⟩)):=h.after (mV p)
theorem JS.post{ir:IS}{st0:St}{nx dp:Nat}{hd:Option Nat}{l l':List (Nat×AO)}{lo:List (Nat×Value)}{r:Res AF}(h:JS (CO B) ir st0 (some (r,⟨nx,hd,dp,l,lo⟩)))(p:l'.Perm l):JS (CO B) ir st0 (some (r,⟨nx,hd,dp,l',lo⟩)):=h.after (mV p)
theorem mX{st:St}{l l2:List (Nat×AO)}(h:(l++l2).Perm st.led):Weak (CO B) id st {st with led:=l}:=
 {hd:=fun ι ι=>rfl,hb:=id,gh:=fun ι ι ι p ι=>ak p.2,hi:=fun ι h=>h,led:=fun p hp=>by rw[cf];exact h.subset (r6 _ hp)
  nd:=fun q=>by have:=((h.map (·.1)).nodup_iff).mpr q;rw[wE,zs] at this;exact this.1
  lo:=fun x v e=>by rw[ak];exact e,pin:=fun ι ι ι=>rfl,h:=by simp,dp:=wh _}
theorem qC{st0:St}{nx dp:Nat}{hd:Option Nat}{l l' l2:List (Nat×AO)}{lo:List (Nat×Value)}{r:Res AF}(p:(l'++l2).Perm l):WkO (CO B) st0.nx ah (some (r,⟨nx,hd,dp,l,lo⟩)) (some (r,⟨nx,hd,dp,l',lo⟩)):=by
 cases r with
 |ok v=>exact .ok (mX (st:=⟨nx,hd,dp,l,lo⟩) p) (fun ι ι=>rfl) (qQ v).symm
 |err k=>exact .err (mX (st:=⟨nx,hd,dp,l,lo⟩) p) (fun ι ι=>rfl) rfl
theorem JS.post_sub{ir:IS}{st0:St}{nx dp:Nat}{hd:Option Nat}{l l' l2:List (Nat×AO)}{lo:List (Nat×Value)}{r:Res AF}(h:JS (CO B) ir st0 (some (r,⟨nx,hd,dp,l,lo⟩)))(p:(l'++l2).Perm l):JS (CO B) ir st0 (some (r,⟨nx,hd,dp,l',lo⟩)):=h.after (qC p)
theorem JB.post_sub{ir:List IS}{st0:St}{nx dp:Nat}{hd:Option Nat}{l l' l2:List (Nat×AO)}{lo:List (Nat×Value)}{r:Res AF}(h:JB (CO B) ir st0 (some (r,⟨nx,hd,dp,l,lo⟩)))(p:(l'++l2).Perm l):JB (CO B) ir st0 (some (r,⟨nx,hd,dp,l',lo⟩)):=h.after (qC p)
theorem Weak.reorder{S:Core}{f:Nat->Nat}{st:St}{nx dp:Nat}{hd:Option Nat}{l l':List (Nat×AO)}{lo:List (Nat×Value)}(W:Weak S f st ⟨nx,hd,dp,l,lo⟩)(p:l'.Perm l):Weak S f st ⟨nx,hd,dp,l',lo⟩:=
 {hd:=W.hd,hb:=W.hb,gh:=W.gh,hi:=W.hi,led:=fun q hq=>W.led q (p.subset hq),nd:=fun h=>((p.map fun q=>f q.1).nodup_iff).mpr (W.nd h),lo:=W.lo,pin:=fun q hq=>W.pin q (p.subset hq),h:=W.h,dp:=W.dp}
theorem au{n0 nx dp:Nat}{hd:Option Nat}{l l':List (Nat×AO)}{lo:List (Nat×Value)}{r:Res Value}(p:l'.Perm l):WkO (CO B) n0 ren (some (r,⟨nx,hd,dp,l,lo⟩)) (some (r,⟨nx,hd,dp,l',lo⟩)):=by
 cases r with
 |ok v=>exact .ok (a9 (st:=⟨nx,hd,dp,l,lo⟩) p) (fun ι ι=>rfl) (ak v).symm
 |err k=>exact .err (a9 (st:=⟨nx,hd,dp,l,lo⟩) p) (fun ι ι=>rfl) rfl
theorem dH{nx nx' dp:Nat}{hd:Option Nat}{l:List (Nat×AO)}{lo:List (Nat×Value)}(h:nx<=nx')(h2:1340<=nx'):Weak (CO B) id ⟨nx,hd,dp,l,lo⟩ ⟨nx',hd,dp,l,lo⟩:=
 {hd:=fun ι ι=>rfl,hb:=fun ι=>h2,gh:=fun ι ι ι p ι=>ak p.2,hi:=fun ι hk=>na h hk,led:=fun p hp=>by rw[cf];exact hp,nd:=fun h=>h,lo:=fun x v e=>by rw[ak];exact e,pin:=fun ι ι ι=>rfl,h:=by simp,dp:=wh _}
theorem ky{nx dp:Nat}{hd:Option Nat}{l l':List (Nat×AO)}{lo lo':List (Nat×Value)}(p:l'.Perm l)(h:lo'.map (fun p=>lk lo p.1)=lo'.map fun p=>some p.2):Weak (CO B) id ⟨nx,hd,dp,l,lo⟩ ⟨nx,hd,dp,l',lo'⟩:=
 {hd:=fun ι ι=>rfl,hb:=id,gh:=fun ι ι ι p ι=>ak p.2,hi:=fun ι h=>h,led:=fun q hq=>by rw[cf];exact p.subset hq,nd:=fun q=>((p.map (·.1)).nodup_iff).mpr q,lo:=fun x v e=>by rw[ak];exact cq h (az e),pin:=fun ι ι ι=>rfl,h:=by simp,dp:=wh _}
end
noncomputable def Df(st:Bool):List (Str×Value):=match st with
 |true=> [(ag "UNIT",tx "*"),(ag "FMT",tx "*"),(ag "IOSTAT",.ref 6002)]
 |false=> [(ag "UNIT",tx "*"),(ag "FMT",tx "*")]
noncomputable def De(st:Bool):List (Nat×AO):=match st with
 |true=> [(6002,.tup [tx "var",.int 0 0,tx "S"])]
 |false=> []
noncomputable def dg(st:Bool)(w:String):List (Nat×AO):=(6003,.tup [tx w,.ref 6001,.ref 5001])::(6001,.sdict (Df st))::De st
noncomputable def ai(st:Bool):List (Nat×AO):=(6010,.sdict (Df st))::De st
noncomputable def Nv.codes:Nv->List Nat
 | .v1=> [32,32,49]| .v2=> [32,32,50]| .v3=> [32,32,51]| .v4=> [32,32,52]| .v7=> [32,32,55]| .v9=> [32,32,57]| .v21=> [32,50,49]| .v40=> [32,52,48]
noncomputable def Nv.ch(v:Nv):List Nat:= [v.codes.getD 0 0,v.codes.getD 1 0,v.codes.getD 2 0]
noncomputable def BM:List Nv->List Nat
 | []=> []
 |v::r=>v.codes.getD 0 0::v.codes.getD 1 0::v.codes.getD 2 0::BM r
noncomputable def F9(j:Nat):AO:=match j with
 |0=> .adict [(66,.ref 6023),(72,.int 0 0),(58,.int 0 0),(74,.ref 6030),(75,.bool false),(76,.int 0 0)]
 |_+1=> .adict [(66,.ref 6023),(72,.int 0 0),(58,.int 2 0),(74,.ref 6030),(75,.bool true),(76,.int 0 0)]
noncomputable def Dg(j:Nat):AO:=match j with
 |0=> .lst []
 |j+1=> .lst [.int (9-(j:Int)) 0]
noncomputable def cP(vs:List Nv):List (Nat×AO):= [(6038,.inst 1086 6037),(6037,.adict [(31,.ref 2014),(90,.ref 6010),(114,.ref 6020)]),(6020,.inst 848 6019),(6019,.adict [(90,.ref 6022),(89,.ref 1287),(92,.ref 6032),(94,.ref 6034),(96,.ref 6036)]),
 (6022,.inst 736 6021),(6021,F9 vs.length),(6023,.lst [.ref 6025,.ref 1257,.ref 6028]),(6025,.tup [tx "begin",.int 9 0]),(6028,.tup [tx "end",.int 0 0]),(6030,Dg vs.length),
 (6032,.inst 764 6031),(6031,.adict [(83,.int 0 0),(84,.bool false),(82,.bool false)]),(6034,.inst 806 6033),(6033,.adict [(85,.ref 6035),(58,.int (3*vs.length:Nat) 0)]),(6035,.lst (chars (BM vs))),(6036,.lst [])]
noncomputable def bK(j:Int):List (Nat×AO):= [(6040,.inst 560 6039),(6039,.adict [(44,.ref 2000),(59,.ref 6043),(61,.ref 6044)]),(6043,.lst [.ref 6042]),(6042,.inst 511 6041),(6041,.adict [(56,.ref 5001),(58,.int j 0),(54,.none),(57,.none),(10,.int 1 0)]),(6044,.lst [])]
noncomputable def oJ:List (Nat×AO):= [(6040,.inst 560 6039),(6039,.adict [(44,.ref 2000),(59,.ref 6043),(61,.ref 6044)]),(6043,.lst []),(6044,.lst [])]
noncomputable def zI:List (Nat×Value):= [(44,.ref 2000),(112,.ref 6004),(58,.int 3 0),(139,.ref 6003)]
noncomputable def sb:List (Nat×Value):= [(44,.ref 2000),(112,.ref 6004),(58,.int 3 0),(90,.ref 6010),(149,.ref 6038),(145,.ref 6040)]
section
variable{B:Base}
theorem wJ(P:PB B)(st:Bool)(tk:Int){X:List (Nat×AO)}(hX:Low 6010 X):
  JB (CO B) (b_do_write.take 3) ⟨6010,none,20,(dg st "write"++RG++WG tk++MK)++X,zI⟩ (some (.ok .next,⟨6200,none,20,(ai st++cP []++bK 0++RG++WG tk++MK)++X,sb⟩)):=by
 cases st with
 |true=>exact jb P 60 2028 [] rfl hX (by kernel_rfl)
 |false=>exact jb P 60 2028 [] rfl hX (by kernel_rfl)
end
set_option genCtorIdx true in
inductive Fa where
 |f40|fE|f41|f43|fI
noncomputable def Fa.C:Fa->Nat
 | .f40| .f41| .f43=>101
 |_=>120
noncomputable def Fa.text:Fa->String
 | .f40=>"a fault of its own"| .fE=>"an end of its own"| .f41=>"a number that is refused"| .f43=>"a bad field"| .fI=>"end of the input"
noncomputable def Fa.code:Fa->Int
 | .f40=>40| .f41=>41| .f43=>43|_=> -1
noncomputable def jm(k:Nat)(f:Fa):List (Nat×AO):= [(k,.exc f.C (k+1) (k+2)),(k+1,.adict [(86,tx f.text),(131,.int f.code 0)]),(k+2,.tb)]
inductive Ev where
 |val (v:Nv)|no|bad (f:Fa)
noncomputable def Ev.ctorIdx(x:Ev):Nat:=x.casesOn (fun ι=>0) 1 (fun ι=>2)
noncomputable def Cd:Nd->Ev
 | .a0=> .val .v1| .a1=> .val .v2| .a2=> .bad .f40| .a3=> .bad .fE| .c1=> .val .v1| .c2=> .val .v2| .c3=> .val .v3
noncomputable def Sig.at(V:Sig):Nv->Nv
 | .v1=>V.a| .v2=>V.b|_=>V.c
noncomputable def jp(V:Sig):It->Ev
 | .elem n=>match Cd n with
  | .val k=> .val (V.at k)
  |e=>e
 | .nod n=>Cd n
 | .k4=> .val .v4
 | .k13=> .no
 | .var=> .val V.x
noncomputable def GL:Nd->Int
 | .a0=>2| .a1=>3| .c1=>2| .c2=>3| .c3=>4|_=>2
noncomputable def cw(b ib:Nat):It->List (Nat×AO)
 | .elem n=> [(b,.tup [.int 0 0,.ref (b+1),.none]),(b+1,.tup [.int 0 0,.int (GL n) 0,.int 0 0,.ref (b+2)]),(b+2,.tup [])]
 | .var=> [(b,.tup [.int 0 0,.ref 2034,.none])]
 |_=> [(b,.tup [.int 0 0,.none,.ref ib])]
noncomputable def refs:Nat->List Value
 |0=> []
 |1=> [.ref 5010]
 |2=> [.ref 5010,.ref 5013]
 |3=> [.ref 5010,.ref 5013,.ref 5016]
 |_=> [.ref 5010,.ref 5013,.ref 5016,.ref 5019]
noncomputable def IL(n:Nat):List (Nat×AO):= [(5001,.lst (refs n))]
noncomputable def ib:Nat->Nat
 |0=>5010|1=>5013|2=>5016|_=>5019
noncomputable def nb:Nat->Nat
 |0=>6200|_=>6400
noncomputable def gx:It->Bool
 | .elem .a2=>false| .elem .a3=>false|_=>true
noncomputable def pK:It->Fa
 | .elem .a3=> .fE|_=> .f40
noncomputable def ek(v:Value):List (Nat×Value):= [(44,.ref 2000),(112,.ref 6004),(58,.int 3 0),(90,.ref 6010),(149,.ref 6038),(145,.ref 6040),(64,v)]
noncomputable def bA:IS:= .asg 64 (.mcall (.loc 145) 147 [])
section
variable{B:Base}
noncomputable abbrev NS(j:Nat)(ld:List (Nat×AO)):St:=⟨nb j,none,20,ld,sb⟩
noncomputable def Dy(n j:Nat)(it:It):List (Nat×AO):=aG (ib j) it++bK j++(IL n++RG)
noncomputable def GK(n j:Nat)(it:It):List (Nat×AO):=cw (nb j) (ib j) it++aG (ib j) it++bK (j+1)++(IL n++RG)
noncomputable def Eg(B:Base)(n j:Nat)(X:List (Nat×AO))(it:It):=cD ah tokF (nb j) 2038 [6039,6041,6043] (GK n j it) X (nb j+10) none (ek (.ref (nb j))) 20 (.ok .next) (fc (CO B) TB (RN B 60) bA (NS j (Dy n j it++X)))
theorem ltZ{P:Nat->Prop}:∀j,j<0->P j:=fun ι h=>absurd h (Nat.not_lt_zero _)
theorem jl{P:Nat->Prop}{n:Nat}(h:∀j,j<n->P j)(hn:P n)(j:Nat)(hj:j<n+1):P j:=(JF.mp hj).elim (h j) fun e=>e▸hn
theorem cG{P:Nat->Nat->Prop}(h10:P 1 0)(h20:P 2 0)(h21:P 2 1)(h30:P 3 0)(h31:P 3 1)(h32:P 3 2)(h40:P 4 0)(h41:P 4 1)(h42:P 4 2)(h43:P 4 3)(n j:Nat)(h:j<n)(hn:n<=4):P n j:=
 jl (P:=fun n=>∀j,j<n->P n j) (jl (jl (jl (jl ltZ ltZ) (jl ltZ h10)) (jl (jl ltZ h20) h21)) (jl (jl (jl ltZ h30) h31) h32)) (jl (jl (jl (jl ltZ h40) h41) h42) h43) n (Jc hn) j h
theorem zt(X:List (Nat×AO))(it:It)(h:gx it=true):∀n j,j<n->n<=4->(Eg B n j X it).1=(Eg B n j X it).2:=by
 cases it with
 |elem m=>cases m<;>first|(exact absurd h (by decide))|(refine cG ?_ ?_ ?_ ?_ ?_ ?_ ?_ ?_ ?_ ?_<;>kernel_rfl)
 |nod m=>cases m<;>(refine cG ?_ ?_ ?_ ?_ ?_ ?_ ?_ ?_ ?_ ?_<;>kernel_rfl)
 |_=>refine cG ?_ ?_ ?_ ?_ ?_ ?_ ?_ ?_ ?_ ?_<;>kernel_rfl
end
noncomputable def Fj:IS->List IS
 | .while_ _ b=>b
 |_=> []
noncomputable def Fi:IS->IE
 | .while_ c _=>c
 |_=> .bad
noncomputable def wBody:List IS:=Fj (b_do_write.getD 4 .bad)
noncomputable def fo:IE:=Fi (b_do_write.getD 4 .bad)
noncomputable def wV:IS:=wBody.getD 0 .bad
noncomputable def wP:IS:=wBody.getD 1 .bad
noncomputable def vw(b ib:Nat):It->Nat×AO
 | .elem n=>(b,.tup [.int 0 0,.ref (b+1),.none])
 | .var=>(b,.tup [.int 0 0,.ref 2034,.none])
 |_=>(b,.tup [.int 0 0,.none,.ref ib])
noncomputable def gL(V:Sig)(it:It):Int:=match jp V it with
 | .val v=>v.val
 |_=>13
noncomputable def D5:Ev->Bool
 | .bad _=>false
 |_=>true
section
variable{B:Base}
noncomputable def EK(B:Base)(b:Nat)(V:Sig)(X:List (Nat×AO))(it:It):=cD ah tokF 6310 5094 [] ([vw 6300 b it]++aG b it++RG++MG 5090 V) X 6320 none ((6,.int (gL V it) 0)::ek (.ref 6300)) 20 (.ok .next)
 (fc (CO B) TB (RN B 60) wV ⟨6310,none,20,(cw 6300 b it++aG b it++RG++MG 5090 V)++X,ek (.ref 6300)⟩)
theorem cU{P:Nat->Prop}(h0:P 0)(h1:P 1)(h2:P 2)(h3:P 3):∀j,j<4->P j:=jl (jl (jl (jl ltZ h0) h1) h2) h3
theorem GR{P:Nat->Prop}(h0:P 0)(h1:P 1)(h2:P 2){j:Nat}(hj:j<3):P j:=jl (jl (jl ltZ h0) h1) h2 j hj
noncomputable def sg:It->Bool
 | .elem m=>D5 (Cd m)
 | .nod m=>D5 (Cd m)
 |_=>true
theorem EJ(V:Sig)(X:List (Nat×AO))(it:It)(h:sg it=true):∀j,j<4->(EK B (ib j) V X it).1=(EK B (ib j) V X it).2:=by
 cases it with
 |elem m=>cases m with
  |a2=>cases h
  |a3=>cases h
  |_=>refine cU ?_ ?_ ?_ ?_<;>kernel_rfl
 |nod m=>cases m with
  |a2=>cases h
  |a3=>cases h
  |_=>refine cU ?_ ?_ ?_ ?_<;>kernel_rfl
 |_=>refine cU ?_ ?_ ?_ ?_<;>kernel_rfl
noncomputable def EO(B:Base)(p q:Value)(X:List (Nat×AO))(vs:List Nv)(v:Nv):=cD ah tokF 6320 6300 [] (cP (vs++ [v])) X 6400 none sb 20 (.ok .next)
 (fc (CO B) TB (RN B 60) wP ⟨6320,none,20,(cP vs++ [(6300,.tup [.int 0 0,p,q])])++X,(6,.int v.val 0)::ek (.ref 6300)⟩)
theorem EL(p q:Value)(X:List (Nat×AO))(v:Nv):∀vs:List Nv,vs.length<4->(EO B p q X vs v).1=(EO B p q X vs v).2
 | [],_=>by cases v<;>kernel_rfl
 | [a],_=>by cases v<;>kernel_rfl
 | [a,b],_=>by cases v<;>kernel_rfl
 | [a,b,c],_=>by cases v<;>kernel_rfl
 |_::_::_::_::_,h=>absurd h (by simp)
noncomputable def BQ(B:Base)(b:Nat)(V:Sig)(X:List (Nat×AO))(it:It)(f:Fa):=cD ah tokF 6310 5094 [2004] (jm 6950 f++aG b it++RG++MG 6900 V) X 7000 none [] 20 (.err 6950)
 (fc (CO B) TB (RN B 60) wV ⟨6310,none,20,(cw 6300 b it++aG b it++RG++MG 5090 V)++X,ek (.ref 6300)⟩)
theorem BP(V:Sig)(X:List (Nat×AO)):∀j,j<4->(BQ B (ib j) V X (.nod .a2) .f40).1=(BQ B (ib j) V X (.nod .a2) .f40).2/\(BQ B (ib j) V X (.nod .a3) .fE).1=(BQ B (ib j) V X (.nod .a3) .fE).2:=by
 refine cU ?_ ?_ ?_ ?_<;>exact⟨by kernel_rfl,by kernel_rfl⟩
noncomputable def C4(B:Base)(n j:Nat)(V:Sig)(X:List (Nat×AO))(it:It)(f:Fa):=cD ah tokF (nb j) 5094 [2004] (jm 6950 f++aG (ib j) it++(IL n++RG)++MG 6900 V) X 7000 none [] 20 (.err 6950)
 (fc (CO B) TB (RN B 60) bA (NS j ((Dy n j it++MG 5090 V)++X)))
theorem C2(V:Sig)(X:List (Nat×AO)):∀n j,j<n->n<=4->(C4 B n j V X (.elem .a2) .f40).1=(C4 B n j V X (.elem .a2) .f40).2/\(C4 B n j V X (.elem .a3) .fE).1=(C4 B n j V X (.elem .a3) .fE).2:=by
 refine cG ?_ ?_ ?_ ?_ ?_ ?_ ?_ ?_ ?_ ?_<;>exact⟨by kernel_rfl,by kernel_rfl⟩
noncomputable def C3(B:Base)(n:Nat)(X:List (Nat×AO)):=cD ah tokF (nb n) 2038 [6039,6043] (oJ++(IL n++RG)) X (nb n+10) none (ek .none) 20 (.ok .next)
 (fc (CO B) TB (RN B 60) bA (NS n ((bK n++(IL n++RG))++X)))
theorem CZ(X:List (Nat×AO))(n:Nat)(h:n<5):(C3 B n X).1=(C3 B n X).2:=
 (JF.mp h).elim (cU (P:=fun n=>(C3 B n X).1=(C3 B n X).2) (by kernel_rfl) (by kernel_rfl) (by kernel_rfl) (by kernel_rfl) n) fun e=>by subst e;kernel_rfl
noncomputable def VS(V:Sig)(c:Int):Sig:={V with s:=c}
noncomputable def EM(B:Base)(st:Bool)(V:Sig)(p q:Value)(X:List (Nat×AO))(vs:List Nv):=match st with
 |true=>cD ah tokF 6320 5094 [2004] (RG++MG 6900 (VS V 41)) X 7000 none [] 20 (.ok (.ret (.int 4 0)))
   (fc (CO B) TB (RN B 60) wP ⟨6320,none,20,(cP vs++ [((6300,AO.tup [.int 0 0,p,q]):Nat×AO)]++ai true++RG++MG 5090 V)++X,(6,.int 13 0)::ek (.ref 6300)⟩)
 |false=>cD ah tokF 6320 5094 [2004] (jm 6950 .f41++RG++MG 6900 V) X 7000 none [] 20 (.err 6950)
   (fc (CO B) TB (RN B 60) wP ⟨6320,none,20,(cP vs++ [((6300,AO.tup [.int 0 0,p,q]):Nat×AO)]++ai false++RG++MG 5090 V)++X,(6,.int 13 0)::ek (.ref 6300)⟩)
theorem BR(V:Sig)(p q:Value)(X:List (Nat×AO))(st:Bool):∀vs:List Nv,vs.length<4->(EM B st V p q X vs).1=(EM B st V p q X vs).2
 | [],_=>by cases st<;>kernel_rfl
 | [a],_=>by cases st<;>kernel_rfl
 | [a,b],_=>by cases st<;>kernel_rfl
 | [a,b,c],_=>by cases st<;>kernel_rfl
 |_::_::_::_::_,h=>absurd h (by simp)
noncomputable def bQ(vs:List Nv):Str:=⟨(BM vs).toArray⟩
noncomputable def σF(st:Bool)(V:Sig):Sig:=match st with
 |true=>VS V 0
 |false=>V
noncomputable def oN(B:Base)(st:Bool)(V:Sig)(tk:Int)(X:List (Nat×AO))(outs:List Str)(vs:List Nv):=cD ah tokF 6310 2017 [2004] (RG++MG 6900 (σF st V)++WG tk++OU (outs++ [bQ vs])) X 7000 none [] 20 (.ok (.ret (.int 4 0)))
 ((RN B 60).b (b_do_write.drop 5) ⟨6310,none,20,(cP vs++ai st++RG++MG 5090 V++WG tk++OU outs)++X,ek .none⟩)
theorem EQ(st:Bool)(V:Sig)(tk:Int)(X:List (Nat×AO)):∀outs:List Str,outs.length<3->∀vs:List Nv,vs.length<5->(oN B st V tk X outs vs).1=(oN B st V tk X outs vs).2:=by
 have key:∀outs:List Str,(∀st,(oN B st V tk X outs []).1=(oN B st V tk X outs []).2)->(∀st a,(oN B st V tk X outs [a]).1=(oN B st V tk X outs [a]).2)->(∀st a b,(oN B st V tk X outs [a,b]).1=(oN B st V tk X outs [a,b]).2)->
   (∀st a b c,(oN B st V tk X outs [a,b,c]).1=(oN B st V tk X outs [a,b,c]).2)->(∀st a b c d,(oN B st V tk X outs [a,b,c,d]).1=(oN B st V tk X outs [a,b,c,d]).2)->∀vs:List Nv,vs.length<5->(oN B st V tk X outs vs).1=(oN B st V tk X outs vs).2:=fun outs h0 h1 h2 h3 h4 vs hv=>match vs,hv with
  | [],_=>h0 st
  | [a],_=>h1 st a
  | [a,b],_=>h2 st a b
  | [a,b,c],_=>h3 st a b c
  | [a,b,c,d],_=>h4 st a b c d
  |_::_::_::_::_::_,h=>absurd h (by simp)
 intro outs ho
 match outs,ho with
 | [],_=>exact key [] (fun st=>by cases st<;>kernel_rfl) (fun st a=>by cases st<;>kernel_rfl) (fun st a b=>by cases st<;>kernel_rfl) (fun st a b c=>by cases st<;>kernel_rfl) (fun st a b c d=>by cases st<;>kernel_rfl)
 | [x],_=>exact key [x] (fun st=>by cases st<;>kernel_rfl) (fun st a=>by cases st<;>kernel_rfl) (fun st a b=>by cases st<;>kernel_rfl) (fun st a b c=>by cases st<;>kernel_rfl) (fun st a b c d=>by cases st<;>kernel_rfl)
 | [x,y],_=>exact key [x,y] (fun st=>by cases st<;>kernel_rfl) (fun st a=>by cases st<;>kernel_rfl) (fun st a b=>by cases st<;>kernel_rfl) (fun st a b c=>by cases st<;>kernel_rfl) (fun st a b c d=>by cases st<;>kernel_rfl)
 |_::_::_::_,h=>exact absurd h (by simp)
end
noncomputable def aA:Nat->List It->List (Nat×AO)
 |_,[]=> []
 |j,i::r=>aG (ib j) i++aA (j+1) r
theorem fK:∀(a b:List It) (j:Nat),aA j (a++b)=aA j a++aA (j+a.length) b
 | [],b,j=>rfl
 |i::a,b,j=>by
  show aG (ib j) i++aA (j+1) (a++b)=(aG (ib j) i++aA (j+1) a)++_
  rw[fK a b (j+1),H1]
  rw[show j+1+a.length=j+(i::a).length by simp;omega]
noncomputable def YY(tk:Int)(t0 t1:Str)(outs:List Str):List (Nat×AO):=WG tk++(MK++(IN t0 t1++(OU outs++ZG)))
theorem DP:∀j,ib j+2<5100
 |0=>by decide
 |1=>by decide
 |2=>by decide
 |_+3=>by show 5019+2<5100;decide
theorem cH{n0:Nat}{p:Nat×AO}{X:List (Nat×AO)}(h:p.1<n0)(h2:∀t∈ft p.2,t<n0)(hX:Low n0 X):Low n0 (p::X):=fun f hf q hq=>by
 rcases eq.mp hq with rfl|hq
 ·exact⟨hf _ h,jF fun t ht=>hf _ (h2 t ht)⟩
 ·exact hX f hf q hq
theorem aI{n0 k:Nat}{x:AO}{l:List Nat}{X:List (Nat×AO)}(hk:u8 k n0=true)(hl:ft x=l)(h2:l.all (fun t=>u8 t n0)=true)(hX:Low n0 X):Low n0 ((k,x)::X):=
 cH (al hk) (fun t ht=>al (eg.mp h2 t (by rw[<-hl];exact ht))) hX
theorem uY(n:Nd):ft (nO n)= []:=by cases n<;>rfl
theorem aW(j:Nat)(i:It):Low 5100 (aG (ib j) i):=by
 have h:=DP j
 cases i with
 |elem n=>
  refine cH (by show ib j<_;omega) (fun t ht=>?_) (cH (by show ib j+1<_;omega) (fun t ht=>?_) (cH (by show ib j+2<_;omega) (fun t ht=>?_) aO))
  ·have:t∈[ib j+1]:=ht
   rw[o0.mp this];omega
  ·have:t∈[ib j+2]:=ht
   rw[o0.mp this];omega
  ·rw[show ft (ib j+2,nO n).2= [] from uY n] at ht;cases ht
 |nod n=>exact cH (by show ib j<_;omega) (fun t ht=>by rw[show ft (ib j,nO n).2= [] from uY n] at ht;cases ht) aO
 |k4=>exact cH (by show ib j<_;omega) (fun t ht=>by cases ht) aO
 |k13=>exact cH (by show ib j<_;omega) (fun t ht=>by cases ht) aO
 |var=>exact cH (by show ib j<_;omega) (fun t ht=>by cases ht) aO
theorem aE:∀(its:List It) (j:Nat),Low 5100 (aA j its)
 | [],_=>aO
 |i::r,j=>(aW j i).app (aE r (j+1))
theorem aS(n:Nat):Low 5100 (IL n):=by
 match n with
 |0=>exact aJ rfl
 |1=>exact aJ rfl
 |2=>exact aJ rfl
 |3=>exact aJ rfl
 |_+4=>exact aJ rfl
theorem cy:∀outs:List Str,(outs.map fun x=>HL x 0).flatMap tokV= []
 | []=>rfl
 |x::r=>cy r
theorem lZ(outs:List Str):Low 5100 (OU outs):=aI rfl (cy outs) rfl aO
theorem dT(tk:Int)(t0 t1:Str)(outs:List Str):Low 5100 (YY tk t0 t1 outs):=
 (aJ (by rfl:bU 5100 (WG tk)=true)).app ((aJ (by rfl:bU 5100 MK=true)).app ((aJ (by rfl:bU 5100 (IN t0 t1)=true)).app ((lZ outs).app (aJ (by rfl:bU 5100 ZG=true)))))
theorem low_RG:Low 5100 RG:=aJ (by rfl)
theorem bw(V:Sig):Low 5100 (MG 5090 V):=aJ (by rfl)
theorem aX(st:Bool):Low 6100 (ai st):=by cases st<;>exact aJ (by rfl)
theorem bk(j:Int):Low 6100 (bK j):=aJ (by rfl)
theorem gb:∀l:List Nat,(chars l).flatMap tokV= []
 | []=>rfl
 |x::r=>gb r
theorem b8(vs:List Nv):Low 6100 (cP vs):=by
 match vs with
 | []=>exact aI rfl rfl rfl (aI rfl rfl rfl (aI rfl rfl rfl (aI rfl rfl rfl (aI rfl rfl rfl (aI rfl rfl rfl (aI rfl rfl rfl (aI rfl rfl rfl (aI rfl rfl rfl (aI rfl rfl rfl (aI rfl rfl rfl (aI rfl rfl rfl (aI rfl rfl rfl (aI rfl rfl rfl (aI rfl (gb _) rfl (aI rfl rfl rfl aO)))))))))))))))
 |v::r=>exact aI rfl rfl rfl (aI rfl rfl rfl (aI rfl rfl rfl (aI rfl rfl rfl (aI rfl rfl rfl (aI rfl rfl rfl (aI rfl rfl rfl (aI rfl rfl rfl (aI rfl rfl rfl (aI rfl rfl rfl (aI rfl rfl rfl (aI rfl rfl rfl (aI rfl rfl rfl (aI rfl rfl rfl (aI rfl (gb _) rfl (aI rfl rfl rfl aO)))))))))))))))
inductive WR where
 |fin (vs:List Nv)|own|bad (f:Fa)
noncomputable def WR.ctorIdx(x:WR):Nat:=x.casesOn (fun ι=>0) 1 (fun ι=>2)
noncomputable def d8(V:Sig):List It->List Nv->WR
 | [],vs=> .fin vs
 |it::r,vs=>match jp V it with
  | .val v=>d8 V r (vs++ [v])
  | .no=> .own
  | .bad f=> .bad f
theorem jA{V:Sig}{it:It}{r:List It}{vs:List Nv}:d8 V (it::r) vs=match jp V it with
  | .val v=>d8 V r (vs++ [v])
  | .no=> .own
  | .bad f=> .bad f:=rfl
theorem i8{V:Sig}{it:It}{r:List It}{vs:List Nv}{v:Nv}(h:jp V it= .val v):d8 V (it::r) vs=d8 V r (vs++ [v]):=by rw[jA,h]
theorem kz{V:Sig}{it:It}{r:List It}{vs:List Nv}{f:Fa}(h:jp V it= .bad f):d8 V (it::r) vs= .bad f:=by rw[jA,h]
noncomputable def pz(k T:Nat)(f:Fa):List (Nat×AO):= [(T,.tb),(k,.exc f.C (k+1) T),(k+1,.adict [(86,tx f.text),(131,.int f.code 0)])]
section
variable{B:Base}
theorem jt(P:PB B){c:IE}{st:St}{o:Out Bool}(n:Nat)(e:(RN B n).t c st=o):JT (CO B) c st o:=by rw[<-e];exact vr P.TO P.FO P.oo n c st
theorem BK(P:PB B){c:IE}{st:St}{o:Out Value}(n:Nat)(e:(RN B n).e c st=o):JE (CO B) c st o:=by rw[<-e];exact eT P.TO P.FO P.oo n c st
theorem lf{V:Sig}{it:It}{v:Nv}(h:jp V it= .val v):sg it=true/\gL V it=v.val:=by
 refine⟨?_,by unfold gL;rw[h]⟩
 cases it with
 |elem m=>cases m<;>first|rfl|exact dL h|cases h
 |nod m=>cases m<;>first|rfl|exact dL h|cases h
 |_=>rfl
theorem AN{V:Sig}{it:It}(h:jp V it= .no):it= .k13:=by
 cases it with
 |elem m=>cases m<;>cases h
 |nod m=>cases m<;>cases h
 |k13=>rfl
 |_=>cases h
theorem xf{V:Sig}{it:It}{f:Fa}(h:jp V it= .bad f)(hn:gx it=true):(it= .nod .a2/\f= .f40)\/(it= .nod .a3/\f= .fE):=by
 cases it with
 |elem m=>cases m<;>first|(cases hn;done)|cases h
 |nod m=>cases m<;>first|(cases h;exact .inl ⟨rfl,rfl⟩)|(cases h;exact .inr ⟨rfl,rfl⟩)|cases h
 |_=>cases h
theorem ig{it:It}(h:gx it=false):(it= .elem .a2/\pK it= .f40)\/(it= .elem .a3/\pK it= .fE):=by
 cases it with
 |elem m=>cases m<;>first|exact .inl ⟨rfl,rfl⟩|exact .inr ⟨rfl,rfl⟩|cases h
 |_=>cases h
theorem DJ(b c:Nat)(it:It):∃p q,vw b c it=(b,.tup [.int 0 0,p,q]):=by cases it<;>exact⟨_,_,rfl⟩
noncomputable def BC(st:Bool)(V:Sig)(n j:Nat)(it:It)(vs:List Nv)(Z:List (Nat×AO)):List (Nat×AO):=cw 6300 (ib j) it++(aG (ib j) it++(cP vs++(ai st++(bK ((j:Int)+1)++(IL n++(RG++(MG 5090 V++Z)))))))
noncomputable def oO(st:Bool)(V:Sig)(Z:List (Nat×AO)):WR->Out AF
 | .fin vs=>some (.ok .next,⟨6310,none,20,cP vs++(ai st++(RG++(MG 5090 V++Z))),ek .none⟩)
 | .own=>match st with
  |true=>some (.ok (.ret (.int 4 0)),⟨7000,none,20,RG++(MG 6900 (VS V 41)++Z),[]⟩)
  |false=>some (.err 6950,⟨7001,none,20,pz 6950 7000 .f41++(RG++(MG 6900 V++Z)),[]⟩)
 | .bad f=>some (.err 6950,⟨7001,none,20,pz 6950 7000 f++(RG++(MG 6900 V++Z)),[]⟩)
variable(st:Bool)(V:Sig)
theorem ET(P:PB B){n j:Nat}{it:It}{vs:List Nv}{Z:List (Nat×AO)}(hj:j<4)(hZ:Low 6100 Z)(h:sg it=true):
  JS (CO B) wV ⟨6310,none,20,BC st V n j it vs Z,ek (.ref 6300)⟩ (some (.ok .next,⟨6320,none,20,([vw 6300 (ib j) it]++aG (ib j) it++RG++MG 5090 V)++(cP vs++(ai st++(bK ((j:Int)+1)++(IL n++Z)))),(6,.int (gL V it) 0)::ek (.ref 6300)⟩)):=by
 have hX:Low 6310 (cP vs++(ai st++(bK ((j:Int)+1)++(IL n++Z)))):=Low.mono ((b8 vs).app ((aX st).app ((bk _).app (((aS n).mono (by decide)).app hZ)))) (by decide)
 have e:=EJ (B:=B) V (cP vs++(ai st++(bK ((j:Int)+1)++(IL n++Z)))) it h j hj
 unfold EK at e
 refine JS.pre (js P 60 5094 [] rfl hX e) (aB fun a=>?_)
 unfold BC
 exact aF [] [_,_,_,_,_,_,_,_,_] (.a (.a (.a (.r [0] (.l 1)) (.l 2)) (.l 3)) (.r [4,5,6,7] (.l 8))) (.r [0,1,4,5,6,7,2,3] (.l 8)) rfl _
theorem Fm(P:PB B){n j:Nat}{it:It}{vs:List Nv}{v:Nv}{Z:List (Nat×AO)}(hj:j<4)(hv:vs.length<4)(hZ:Low 6100 Z)(h:gL V it=v.val):
  JS (CO B) wP ⟨6320,none,20,([vw 6300 (ib j) it]++aG (ib j) it++RG++MG 5090 V)++(cP vs++(ai st++(bK ((j:Int)+1)++(IL n++Z)))),(6,.int (gL V it) 0)::ek (.ref 6300)⟩
   (some (.ok .next,⟨6400,none,20,cP (vs++ [v])++(aG (ib j) it++(RG++(MG 5090 V++(ai st++(bK ((j:Int)+1)++(IL n++Z)))))),sb⟩)):=by
 obtain⟨p,q,hi⟩:=DJ 6300 (ib j) it
 have hX:Low 6320 (aG (ib j) it++(RG++(MG 5090 V++(ai st++(bK ((j:Int)+1)++(IL n++Z)))))):=Low.mono (((aW j it).mono (by decide)).app ((low_RG.mono (by decide)).app (((bw V).mono (by decide)).app ((aX st).app ((bk _).app (((aS n).mono (by decide)).app hZ)))))) (by decide:6100<=6320)
 have e:=EL (B:=B) p q (aG (ib j) it++(RG++(MG 5090 V++(ai st++(bK ((j:Int)+1)++(IL n++Z)))))) v vs hv
 unfold EO at e
 rw[hi,h]
 refine JS.pre (js P 60 6300 [] rfl hX e) (aB fun a=>?_)
 exact aF [_] [_,_,_,_,_,_,_,_] (.a (.r [0] (.c 0 .n)) (.r [1,2,3,4,5,6] (.l 7))) (.a (.a (.a (.a (.c 0 .n) (.l 1)) (.l 2)) (.l 3)) (.r [0,4,5,6] (.l 7))) rfl _
theorem EU(P:PB B){n j:Nat}{it:It}{vs:List Nv}{Z:List (Nat×AO)}(hj:j<4)(hv:vs.length<4)(hZ:Low 6100 Z)(h:gL V it=13):
  JS (CO B) wP ⟨6320,none,20,([vw 6300 (ib j) it]++aG (ib j) it++RG++MG 5090 V)++(cP vs++(ai st++(bK ((j:Int)+1)++(IL n++Z)))),(6,.int (gL V it) 0)::ek (.ref 6300)⟩
   (match st with
    |true=>some (.ok (.ret (.int 4 0)),⟨7000,none,20,(RG++MG 6900 (VS V 41))++(aG (ib j) it++(IL n++Z)),[]⟩)
    |false=>some (.err 6950,⟨7000,none,20,(jm 6950 .f41++RG++MG 6900 V)++(aG (ib j) it++(IL n++Z)),[]⟩)):=by
 obtain⟨p,q,hi⟩:=DJ 6300 (ib j) it
 have hX:Low 6320 (bK ((j:Int)+1)++(aG (ib j) it++(IL n++Z))):=Low.mono ((bk _).app (((aW j it).mono (by decide)).app (((aS n).mono (by decide)).app hZ))) (by decide:6100<=6320)
 have e:=BR (B:=B) V p q (bK ((j:Int)+1)++(aG (ib j) it++(IL n++Z))) st vs hv
 unfold EM at e
 rw[hi,h]
 cases st with
 |true=>
  refine JS.post_sub (B:=B) (JS.pre (js P 60 5094 [2004] rfl hX e) (aB fun a=>?_)) (l2:=bK ((j:Int)+1)) (aB fun a=>?_)
  ·exact aF [_] [_,_,_,_,_,_,_,_] (.a (.a (.a (.a (.r [0] (.c 0 .n)) (.l 1)) (.l 2)) (.l 3)) (.r [4,5,6] (.l 7))) (.a (.a (.a (.a (.c 0 .n) (.l 5)) (.l 2)) (.l 3)) (.r [0,1,4,6] (.l 7))) rfl _
  ·exact aF [] [_,_,_,_,_,_] (.a (.a (.r [0] (.l 1)) (.r [2,3] (.l 4))) (.l 5)) (.a (.r [0] (.l 1)) (.r [5,2,3] (.l 4))) rfl _
 |false=>
  refine JS.post_sub (B:=B) (JS.pre (js P 60 5094 [2004] rfl hX e) (aB fun a=>?_)) (l2:=bK ((j:Int)+1)) (aB fun a=>?_)
  ·exact aF [_] [_,_,_,_,_,_,_,_] (.a (.a (.a (.a (.r [0] (.c 0 .n)) (.l 1)) (.l 2)) (.l 3)) (.r [4,5,6] (.l 7))) (.a (.a (.a (.a (.c 0 .n) (.l 5)) (.l 2)) (.l 3)) (.r [0,1,4,6] (.l 7))) rfl _
  ·exact aF [] [_,_,_,_,_,_,_] (.a (.a (.a (.r [0] (.l 1)) (.l 2)) (.r [3,4] (.l 5))) (.l 6)) (.a (.a (.r [0] (.l 1)) (.l 2)) (.r [6,3,4] (.l 5))) rfl _
theorem ES(P:PB B){n j:Nat}{it:It}{f:Fa}{vs:List Nv}{Z:List (Nat×AO)}(hj:j<4)(hZ:Low 6100 Z)(h:(it= .nod .a2/\f= .f40)\/(it= .nod .a3/\f= .fE)):
  JS (CO B) wV ⟨6310,none,20,BC st V n j it vs Z,ek (.ref 6300)⟩ (some (.err 6950,⟨7000,none,20,(jm 6950 f++aG (ib j) it++RG++MG 6900 V)++(IL n++Z),[]⟩)):=by
 have hX:Low 6310 (cP vs++(ai st++(bK ((j:Int)+1)++(IL n++Z)))):=Low.mono ((b8 vs).app ((aX st).app ((bk _).app (((aS n).mono (by decide)).app hZ)))) (by decide)
 have e:=BP (B:=B) V (cP vs++(ai st++(bK ((j:Int)+1)++(IL n++Z)))) j hj
 unfold BQ at e
 have fin:∀{o},JS (CO B) wV ⟨6310,none,20,(cw 6300 (ib j) it++aG (ib j) it++RG++MG 5090 V)++(cP vs++(ai st++(bK ((j:Int)+1)++(IL n++Z)))),ek (.ref 6300)⟩ o->JS (CO B) wV ⟨6310,none,20,BC st V n j it vs Z,ek (.ref 6300)⟩ o:=fun h=>JS.pre h (aB fun a=>by
  unfold BC
  exact aF [] [_,_,_,_,_,_,_,_,_] (.a (.a (.a (.r [0] (.l 1)) (.l 2)) (.l 3)) (.r [4,5,6,7] (.l 8))) (.r [0,1,4,5,6,7,2,3] (.l 8)) rfl _)
 refine JS.post_sub (B:=B) (fin ?_) (l:=(jm 6950 f++aG (ib j) it++RG++MG 6900 V)++(cP vs++(ai st++(bK ((j:Int)+1)++(IL n++Z))))) (l2:=cP vs++(ai st++bK ((j:Int)+1))) (aB fun a=>?_)
 ·rcases h with⟨rfl,rfl⟩|⟨rfl,rfl⟩
  ·exact js P 60 5094 [2004] rfl hX e.1
  ·exact js P 60 5094 [2004] rfl hX e.2
 ·exact aF [] [_,_,_,_,_,_,_,_,_] (.a (.a (.a (.a (.r [0] (.l 1)) (.l 2)) (.l 3)) (.r [4] (.l 5))) (.r [6,7] (.l 8))) (.a (.a (.a (.r [0] (.l 1)) (.l 2)) (.l 3)) (.r [6,7,8,4] (.l 5))) rfl _
end
section
variable{B:Base}(st:Bool)(V:Sig)
theorem kY:∀j,6200<=nb j
 |0=>by decide
 |_+1=>by show 6200<=6400;decide
theorem Fo(P:PB B){n j:Nat}{it:It}{X:List (Nat×AO)}(hj:j<n)(hn:n<=4)(hX:Low 6200 X)(h:gx it=true):
  JS (CO B) bA ⟨nb j,none,20,aG (ib j) it++bK j++(IL n++RG)++X,sb⟩ (some (.ok .next,⟨nb j+10,none,20,(cw (nb j) (ib j) it++aG (ib j) it++bK ((j:Int)+1)++(IL n++RG))++X,ek (.ref (nb j))⟩)):=by
 have e:=zt (B:=B) X it h n j hj hn
 unfold Eg at e
 have hb:=kY j
 exact js P 60 2038 [6039,6041,6043] (ls (na (by decide) hb)) (hX.mono hb) e
theorem BS(P:PB B){n j:Nat}{it:It}{X:List (Nat×AO)}(hj:j<n)(hn:n<=4)(hX:Low 6200 X)(h:gx it=false):
  JS (CO B) bA ⟨nb j,none,20,(aG (ib j) it++bK j++(IL n++RG)++MG 5090 V)++X,sb⟩ (some (.err 6950,⟨7000,none,20,(jm 6950 (pK it)++aG (ib j) it++(IL n++RG)++MG 6900 V)++X,[]⟩)):=by
 have e:=C2 (B:=B) V X n j hj hn
 unfold C4 at e
 have hb:=kY j
 have h0:=ls (na (by decide:1345<=6200) hb)
 rcases ig h with⟨rfl,h2⟩|⟨rfl,h2⟩<;>rw[h2]
 ·exact js P 60 5094 [2004] h0 (hX.mono hb) e.1
 ·exact js P 60 5094 [2004] h0 (hX.mono hb) e.2
theorem Fk(P:PB B){n:Nat}{X:List (Nat×AO)}(hn:n<5)(hX:Low 6200 X):
  JS (CO B) bA ⟨nb n,none,20,(bK n++(IL n++RG))++X,sb⟩ (some (.ok .next,⟨nb n+10,none,20,(oJ++(IL n++RG))++X,ek .none⟩)):=by
 have e:=CZ (B:=B) X n hn
 unfold C3 at e
 have hb:=kY n
 exact js P 60 2038 [6039,6043] (ls (na (by decide) hb)) (hX.mono hb) e
noncomputable def nds:List Nd:= [.a0,.a1,.a2,.a3,.c1,.c2,.c3]
theorem gG(n:Nd):n∈nds:=by cases n<;>repeat first|exact .head _|refine .tail _ ?_
noncomputable def allIts:List It:=nds.map .elem++(nds.map .nod++ [.k4,.k13,.var])
theorem dS(i:It):i∈allIts:=by
 cases i with
 |elem n=>exact r6 _ (nw (gG n))
 |nod n=>exact ev _ (r6 _ (nw (gG n)))
 |k4=>exact ev _ (ev _ (.head _))
 |k13=>exact ev _ (ev _ (.tail _ (.head _)))
 |var=>exact ev _ (ev _ (.tail _ (.tail _ (.head _))))
theorem qY{α β:Type}{f g:α->β}{l:List α}(h:l.map f=l.map g):∀x∈l,f x=g x:=wv.mp h
noncomputable def Fg(b:Nat):It->Nat
 | .elem _=>b+2
 |_=>b
noncomputable def Fh(b:Nat)(X:List (Nat×AO))(p:Nat×It):=cD ah tokF 6210 (Fg b p.2) [] (cw 6300 (ib p.1) p.2) X 6310 none (ek (.ref 6300)) 20 (.ok .next) (some (.ok .next,⟨b+10,none,20,cw b (ib p.1) p.2++X,ek (.ref b)⟩))
noncomputable def jis:List (Nat×It):= [0,1,2,3].flatMap fun j=>allIts.map fun i=>(j,i)
theorem xQ{j:Nat}(hj:j<4)(i:It):(j,i)∈jis:=HW (cU (P:=fun j=>j∈[0,1,2,3]) (.head _) (.tail _ (.head _)) (.tail _ (.tail _ (.head _))) (.tail _ (.tail _ (.tail _ (.head _)))) j hj) (nw (dS i))
theorem EP(b:Nat)(hb:b=6200\/b=6400)(X:List (Nat×AO)):jis.map (fun p=>(Fh b X p).1)=jis.map (fun p=>(Fh b X p).2):=by rcases hb with rfl|rfl<;>kernel_rfl
theorem tA(b:Nat)(hb:b=6200\/b=6400)(j:Nat)(hj:j<4)(it:It){X:List (Nat×AO)}(hX:Low 6210 X):∃f,Weak (CO B) f ⟨b+10,none,20,cw b (ib j) it++X,ek (.ref b)⟩ ⟨6310,none,20,cw 6300 (ib j) it++X,ek (.ref 6300)⟩/\∀k,k<6210->f k=k:=wk B (n0:=6210) rfl (Fg b it) [] hX (qY (EP b hb X) (j,it) (xQ hj it))
theorem i7{n0 nx nx' dp:Nat}{hd:Option Nat}{X:List (Nat×AO)}{lo:List (Nat×Value)}(h0:1345<=n0)(hX:Low n0 X)(hlo:lo.all (fun p=>(tokV p.2).all (fun t=>u8 t n0))=true)(hn:n0<=nx')(hh:∀k,hd=some k->k<n0):∃f,Weak (CO B) f ⟨nx,hd,dp,X,lo⟩ ⟨nx',hd,dp,X,lo⟩/\∀k,k<n0->f k=k:=by
 have hf:∀k,k<n0->(fun k=>if k<n0 then k else k+nx) k=k:=fun k hk=>if_pos hk
 refine⟨fun k=>if k<n0 then k else k+nx,{hd:=fun k hk=>hf k (sw hk (na (by decide:1340<=1345) h0)),hb:=fun ι=>na (na (by decide:1340<=1345) h0) hn,gh:=lowG B h0 _ hf,hi:=fun k hk=>?_,led:=fun p hp=>?_,nd:=fun h=>?_,lo:=fun x v e=>?_,pin:=fun p hp ι=>(hX _ hf p hp).1,h:=?_,dp:=wh _},hf⟩
 ·have hk:nx'<=k:=hk
  show nx<=if k<n0 then k else k+nx
  rw[if_neg (by omega)]
  omega
 ·obtain⟨a,b⟩:=hX _ hf p hp
  rw[a,b]
  exact hp
 ·rw[show(X.map fun p=>(fun k=>if k<n0 then k else k+nx) p.1)=X.map (·.1) from wv.mpr fun p hp=>(hX _ hf p hp).1]
  exact h
 ·rw[bj fun t ht=>hf t (al (eg.mp (eg.mp hlo _ (az e)) t ht))]
  exact e
 ·cases hd with
  |none=>rfl
  |some k=>show some k=some _;rw[hf k (hh k rfl)]
end
section
variable{B:Base}(st:Bool)(V:Sig)
theorem eU(P:PB B)(led:List (Nat×AO)):JT (CO B) fo ⟨6310,none,20,led,ek (.ref 6300)⟩ (some (.ok true,⟨6310,none,20,led,ek (.ref 6300)⟩)):=jt P 10 (by kernel_rfl)
theorem qF(P:PB B)(led:List (Nat×AO)):JT (CO B) fo ⟨6310,none,20,led,ek .none⟩ (some (.ok false,⟨6310,none,20,led,ek .none⟩)):=jt P 10 (by kernel_rfl)
theorem aw(pre post:List It)(it:It):aA 0 (pre++it::post)=aA 0 pre++(aG (ib pre.length) it++aA (pre.length+1) post):=by rw[fK,Ja];rfl
theorem tC(P:PB B){Y:List (Nat×AO)}(hY:Low 6100 Y){n m:Nat}(pre post:List It)(it:It)(vs:List Nv)(hj:pre.length<4)(hvs:vs.length<4)(hit:gx it=true)(h:∀v,jp V it≠.val v):
  Turns (CO B) fo wBody 6210 (m+1) ⟨6310,none,20,BC st V n pre.length it vs (aA 0 pre++(aA (pre.length+1) post++Y)),ek (.ref 6300)⟩ (oO st V (IL n++(aA 0 (pre++it::post)++Y)) (d8 V (it::post) vs)):=by
 have hZ:Low 6100 (aA 0 pre++(aA (pre.length+1) post++Y)):=((aE _ _).mono (by decide)).app (((aE _ _).mono (by decide)).app hY)
 have hall:=aw pre post it
 cases hv:jp V it with
 |val v=>exact absurd hv (h v)
 |no=>
  cases AN hv
  have jV:=ET st V P (n:=n) (vs:=vs) hj hZ (it:= .k13) rfl
  have jP:=EU st V P (n:=n) (vs:=vs) (it:= .k13) hj hvs hZ rfl
  have:d8 V (.k13::post) vs= .own:=rfl
  rw[this]
  cases st with
  |true=>
   refine .ret (eU P _) ?_
   exact aN jV (bZ (JS.post (B:=B) jP (aB fun a=>by rw[hall];exact aF [] [_,_,_,_,_,_,_] (.r [0,1,2] (.a (.r [3,4] (.l 5)) (.l 6))) (.a (.r [0] (.l 1)) (.r [4,2,3,5] (.l 6))) rfl _)))
  |false=>
   refine .err (eU P _) (aN jV (c6 (JS.post (B:=B) (l':=jm 6950 .f41++(RG++(MG 6900 V++(IL n++(aA 0 (pre++ .k13::post)++Y))))) jP (aB fun a=>by rw[hall];exact aF [] [_,_,_,_,_,_,_,_] (.r [0,1,2,3] (.a (.r [4,5] (.l 6)) (.l 7))) (.a (.a (.r [0] (.l 1)) (.l 2)) (.r [5,3,4,6] (.l 7))) rfl _)))) rfl
 |bad f=>
  have jV:=ES st V P (n:=n) (vs:=vs) (f:=f) hj hZ (xf hv hit)
  rw[kz hv]
  exact .err (eU P _) (c6 (JS.post (B:=B) (l':=jm 6950 f++(RG++(MG 6900 V++(IL n++(aA 0 (pre++it::post)++Y))))) jV (aB fun a=>by rw[hall];exact aF [] [_,_,_,_,_,_,_,_] (.r [0,1,2,3] (.a (.r [4,5] (.l 6)) (.l 7))) (.a (.a (.a (.r [0] (.l 5)) (.l 1)) (.l 2)) (.r [3,4,6] (.l 7))) rfl _))) rfl
theorem vO(e:Ev):(∃v,e= .val v)\/∀v,e≠.val v:=by
 cases e with
 |val v=>exact .inl ⟨v,rfl⟩
 |no=>exact .inr fun v h=>by cases h
 |bad f=>exact .inr fun v h=>by cases h
theorem Dv{n k m:Nat}(e:n=k+(m+1))(hn:n<=4):k<4:=by omega
theorem Ft{n k m:Nat}(e:n=k+(m+1+1)):k+1<n:=by omega
theorem Fq{n k m:Nat}(e:n=k+(m+1+1)):n=k+1+(m+1):=by omega
theorem wI(P:PB B){Y:List (Nat×AO)}(hY:Low 6100 Y){n:Nat}(hn:n<=4):∀(post:List It) (pre:List It) (it:It) (vs:List Nv),n=pre.length+(post.length+1)->vs.length=pre.length->gx it=true->
  Turns (CO B) fo wBody 6210 (post.length+2) ⟨6310,none,20,BC st V n pre.length it vs (aA 0 pre++(aA (pre.length+1) post++Y)),ek (.ref 6300)⟩ (oO st V (IL n++(aA 0 (pre++it::post)++Y)) (d8 V (it::post) vs)):=by
 intro post
 induction post with
 |nil=>
  intro pre it vs hlen hvs hit
  have hj:pre.length<4:=Dv hlen hn
  rcases vO (jp V it) with⟨v,hv⟩|hx
  ·have hZ:Low 6100 (aA 0 pre++(aA (pre.length+1) []++Y)):=((aE _ _).mono (by decide)).app (((aE _ _).mono (by decide)).app hY)
   have hall:=aw pre [] it
   obtain⟨hK,hV⟩:=lf hv
   have hn':n=pre.length+1:=by simpa using hlen
   have jV:=ET st V P (n:=n) (vs:=vs) hj hZ hK
   have jP:=Fm st V P (n:=n) (vs:=vs) hj (HT (HZ hvs) hj) hZ hV
   have hX:Low 6100 (cP (vs++ [v])++(ai st++(MG 5090 V++(aG (ib pre.length) it++(aA 0 pre++Y))))):=(b8 _).app ((aX st).app (((bw V).mono (by decide)).app (((aW _ _).mono (by decide)).app (((aE _ _).mono (by decide)).app hY))))
   have jN:JS (CO B) bA ⟨6400,none,20,(bK ((pre.length:Int)+1)++(IL (pre.length+1)++RG))++(cP (vs++ [v])++(ai st++(MG 5090 V++(aG (ib pre.length) it++(aA 0 pre++Y))))),sb⟩ _:=Fk P (n:=pre.length+1) (X:=cP (vs++ [v])++(ai st++(MG 5090 V++(aG (ib pre.length) it++(aA 0 pre++Y))))) (by omega) (hX.mono (by decide))
   subst hn'
   have jN2:=JS.post_sub (B:=B) (JS.pre (l:=cP (vs++ [v])++(aG (ib pre.length) it++(RG++(MG 5090 V++(ai st++(bK ((pre.length:Int)+1)++(IL (pre.length+1)++(aA 0 pre++(aA (pre.length+1) []++Y))))))))) jN (aB fun a=>by
    exact aF [] [_,_,_,_,_,_,_,_,_] (.a (.r [0,1] (.l 2)) (.r [3,4,5,6,7] (.l 8))) (.r [3,6,2,5,4,0,1,7] (.a .n (.l 8))) rfl _)) (l':=cP (vs++ [v])++(ai st++(RG++(MG 5090 V++(IL (pre.length+1)++(aA 0 (pre++ [it])++Y)))))) (l2:=oJ) (aB fun a=>by
    rw[hall];exact aF [] [_,_,_,_,_,_,_,_,_] (.a (.r [0,1,2,3,4] (.a (.r [5,6] .n) (.l 7))) (.l 8)) (.a (.r [8,4] (.l 2)) (.r [0,1,3,6,5] (.l 7))) rfl _)
   obtain⟨f,W,hf⟩:=i7 (B:=B) (n0:=6210) (nx:=nb (pre.length+1)+10) (nx':=6310) (dp:=20) (hd:=none) (lo:=ek .none) (by decide) (X:=cP (vs++ [v])++(ai st++(RG++(MG 5090 V++(IL (pre.length+1)++(aA 0 (pre++ [it])++Y)))))) (Low.mono ((b8 _).app ((aX st).app ((low_RG.mono (by decide)).app (((bw V).mono (by decide)).app (((aS _).mono (by decide)).app (((aE _ _).mono (by decide)).app hY)))))) (by decide)) rfl (by decide) (by intro k hk;cases hk)
   refine .next (eU P _) (aN jV (aN jP (aN jN2 c5))) W hf ?_
   rw[i8 hv]
   exact .stop (qF P _)
  ·exact tC st V P hY pre [] it vs hj (HT (HZ hvs) hj) hit hx
 |cons it2 post ih=>
  intro pre it vs hlen hvs hit
  have hj:pre.length<4:=Dv hlen hn
  have hj2:pre.length+1<n:=Ft (m:=post.length) hlen
  rcases vO (jp V it) with⟨v,hv⟩|hx
  ·have hZ:Low 6100 (aA 0 pre++(aA (pre.length+1) (it2::post)++Y)):=((aE _ _).mono (by decide)).app (((aE _ _).mono (by decide)).app hY)
   have hall:=aw pre (it2::post) it
   obtain⟨hK,hV⟩:=lf hv
   have jV:=ET st V P (n:=n) (vs:=vs) hj hZ hK
   have jP:=Fm st V P (n:=n) (vs:=vs) hj (HT (HZ hvs) hj) hZ hV
   rw[i8 hv]
   cases hit2:gx it2 with
   |true=>
    have hX:Low 6100 (cP (vs++ [v])++(ai st++(MG 5090 V++(aG (ib pre.length) it++(aA 0 pre++(aA (pre.length+1+1) post++Y)))))):=(b8 _).app ((aX st).app (((bw V).mono (by decide)).app (((aW _ _).mono (by decide)).app (((aE _ _).mono (by decide)).app (((aE _ _).mono (by decide)).app hY)))))
    have jN:JS (CO B) bA ⟨6400,none,20,aG (ib (pre.length+1)) it2++bK ((pre.length:Int)+1)++(IL n++RG)++(cP (vs++ [v])++(ai st++(MG 5090 V++(aG (ib pre.length) it++(aA 0 pre++(aA (pre.length+1+1) post++Y)))))),sb⟩ (some (.ok .next,⟨6400+10,none,20,(cw 6400 (ib (pre.length+1)) it2++aG (ib (pre.length+1)) it2++bK (((pre.length+1:Nat):Int)+1)++(IL n++RG))++(cP (vs++ [v])++(ai st++(MG 5090 V++(aG (ib pre.length) it++(aA 0 pre++(aA (pre.length+1+1) post++Y)))))),ek (.ref 6400)⟩)):=
     Fo P (n:=n) (j:=pre.length+1) hj2 hn (hX.mono (by decide)) hit2
    have jN2:=JS.post (B:=B) (JS.pre (l:=cP (vs++ [v])++(aG (ib pre.length) it++(RG++(MG 5090 V++(ai st++(bK ((pre.length:Int)+1)++(IL n++(aA 0 pre++(aA (pre.length+1) (it2::post)++Y))))))))) jN (aB fun a=>by
     exact aF [] [_,_,_,_,_,_,_,_,_,_,_] (.a (.a (.r [0] (.l 1)) (.r [2] (.l 3))) (.r [4,5,6,7,8,9] (.l 10))) (.r [4,7,3,6,5,1,2,8] (.a (.r [0] (.l 9)) (.l 10))) rfl _)) (l':=cw 6400 (ib (pre.length+1)) it2++(aG (ib (pre.length+1)) it2++(cP (vs++ [v])++(ai st++(bK (((pre.length+1:Nat):Int)+1)++(IL n++(RG++(MG 5090 V++(aA 0 (pre++ [it])++(aA (pre.length+1+1) post++Y)))))))))) (aB fun a=>by
     rw[aw pre [] it];exact aF [] [_,_,_,_,_,_,_,_,_,_,_,_] (.r [0,1,2,3,4,5,6,7] (.a (.r [8,9] .n) (.r [10] (.l 11)))) (.a (.a (.a (.r [0] (.l 1)) (.l 4)) (.r [5] (.l 6))) (.r [2,3,7,9,8,10] (.l 11))) rfl _)
    obtain⟨f,W,hf⟩:=tA (B:=B) 6400 (.inr rfl) (pre.length+1) (sw hj2 hn) it2 (X:=aG (ib (pre.length+1)) it2++(cP (vs++ [v])++(ai st++(bK (((pre.length+1:Nat):Int)+1)++(IL n++(RG++(MG 5090 V++(aA 0 (pre++ [it])++(aA (pre.length+1+1) post++Y)))))))))
     (Low.mono (((aW _ _).mono (by decide)).app ((b8 _).app ((aX st).app ((bk _).app (((aS _).mono (by decide)).app ((low_RG.mono (by decide)).app (((bw V).mono (by decide)).app (((aE _ _).mono (by decide)).app (((aE _ _).mono (by decide)).app hY))))))))) (by decide))
    refine .next (eU P _) (aN jV (aN jP (aN jN2 c5))) W hf ?_
    have:=ih (pre++ [it]) it2 (vs++ [v]) (by rw[Hv];exact Fq (m:=post.length) hlen) (by simp[hvs]) hit2
    rw[H1] at this
    rw[show(pre++ [it]).length=pre.length+1 by simp] at this
    exact this
   |false=>
    have hX:Low 6100 (cP (vs++ [v])++(ai st++(aG (ib pre.length) it++(aA 0 pre++(aA (pre.length+1+1) post++Y))))):=(b8 _).app ((aX st).app (((aW _ _).mono (by decide)).app (((aE _ _).mono (by decide)).app (((aE _ _).mono (by decide)).app hY))))
    have jN:JS (CO B) bA ⟨6400,none,20,(aG (ib (pre.length+1)) it2++bK ((pre.length:Int)+1)++(IL n++RG)++MG 5090 V)++(cP (vs++ [v])++(ai st++(aG (ib pre.length) it++(aA 0 pre++(aA (pre.length+1+1) post++Y))))),sb⟩ _:=
     BS V P (n:=n) (j:=pre.length+1) hj2 hn (hX.mono (by decide)) hit2
    have jN2:=JS.post_sub (B:=B) (JS.pre (l:=cP (vs++ [v])++(aG (ib pre.length) it++(RG++(MG 5090 V++(ai st++(bK ((pre.length:Int)+1)++(IL n++(aA 0 pre++(aA (pre.length+1) (it2::post)++Y))))))))) jN (aB fun a=>by
     exact aF [] [_,_,_,_,_,_,_,_,_,_,_] (.a (.a (.a (.r [0] (.l 1)) (.r [2] (.l 3))) (.l 4)) (.r [5,6,7,8,9] (.l 10))) (.r [5,7,3,4,6,1,2,8] (.a (.r [0] (.l 9)) (.l 10))) rfl _)) (l':=jm 6950 (pK it2)++(RG++(MG 6900 V++(IL n++(aA 0 (pre++it::it2::post)++Y))))) (l2:=cP (vs++ [v])++ai st) (aB fun a=>by
     rw[hall];exact aF [] [_,_,_,_,_,_,_,_,_,_,_] (.a (.r [0,1,2,3] (.a (.r [4,5,6] (.l 7)) (.l 8))) (.r [9] (.l 10))) (.a (.a (.a (.r [0] (.l 6)) (.r [3] (.l 1))) (.l 2)) (.r [9,10,5,4,7] (.l 8))) rfl _)
    have hbad:d8 V (it2::post) (vs++ [v])= .bad (pK it2):=by rcases ig hit2 with⟨rfl,h2⟩|⟨rfl,h2⟩<;>rfl
    rw[hbad]
    exact .err (eU P _) (aN jV (aN jP (c6 jN2))) rfl
  ·exact tC st V P hY pre (it2::post) it vs hj (HT (HZ hvs) hj) hit hx
end
section
variable{B:Base}(st:Bool)(V:Sig)
theorem j0{st0:St}{n0 dp:Nat}{f:Fa}{X:List (Nat×AO)}(h0:gy 1345 n0=true)(he:st0.nx=n0)(hn:n0<=6910)(hX:Low 6910 X):WkO (CO B) st0.nx ah (some (.err 6950,⟨7000,none,dp,jm 6950 f++X,[]⟩)) (some (.err 6950,⟨7001,none,dp,pz 6950 7000 f++X,[]⟩)):=by
 have h:∃g,Weak (CO B) g ⟨7000,none,dp,jm 6950 f++X,[]⟩ ⟨7001,none,dp,pz 6950 7000 f++X,[]⟩/\(∀k,k<6910->g k=k)/\g 6950=6950:=by
  refine⟨wf 7001 7000 [(7000,6952)],qD (S:=CO B) (n0:=6910) (m:=6952) (show 1340<=6910 by decide) (lowG B (by decide)) hX (by decide) (fun k hk=>?_) (fun k hk=>oM (by decide) rfl k hk) (by kernel_rfl) rfl rfl rfl rfl rfl (wh _),fun k hk=>oM (by decide) rfl k hk,rfl⟩
  unfold wf
  have:u8 k 7001=false:=by
   cases z:u8 k 7001 with
   |false=>rfl
   |true=>exact absurd (al z) (HM (Jc hk))
  rw[this]
  exact Jl _ _
 obtain⟨g,W,hg,h5⟩:=h
 exact .err W (fun k hk=>hg k (by rw[he] at hk;omega)) h5.symm
noncomputable def yr(st:Bool)(V:Sig)(n:Nat)(its:List It)(tk:Int)(t0 t1:Str)(outs:List Str):WR->Out AF
 | .fin vs=>some (.ok (.ret (.int 4 0)),⟨7000,none,20,RG++(MG 6900 (σF st V)++(IL n++(aA 0 its++YY tk t0 t1 (outs++ [bQ vs])))),[]⟩)
 |w=>oO st V (IL n++(aA 0 its++YY tk t0 t1 outs)) w
theorem qG(Z:List (Nat×AO)):∀w,nq (oO st V Z w)=oO st V Z w
 | .fin vs=>rfl
 | .own=>by cases st<;>rfl
 | .bad f=>rfl
theorem tB(P:PB B){n:Nat}{its:List It}{tk:Int}{t0 t1:Str}{outs:List Str}{vs:List Nv}(ho:outs.length<3)(hv:vs.length<5):
  JB (CO B) (b_do_write.drop 5) ⟨6310,none,20,cP vs++(ai st++(RG++(MG 5090 V++(IL n++(aA 0 its++YY tk t0 t1 outs))))),ek .none⟩ (yr st V n its tk t0 t1 outs (.fin vs)):=by
 have hX:Low 5100 (IL n++(aA 0 its++(MK++(IN t0 t1++ZG)))):=(aS n).app ((aE _ _).app ((aJ (by rfl:bU 5100 MK=true)).app ((aJ (by rfl:bU 5100 (IN t0 t1)=true)).app (aJ (by rfl:bU 5100 ZG=true)))))
 have e:=EQ (B:=B) st V tk (IL n++(aA 0 its++(MK++(IN t0 t1++ZG)))) outs ho vs hv
 unfold oN at e
 refine JB.post (B:=B) (JB.pre (jb P 60 2017 [2004] rfl (hX.mono (by decide)) e) (aB fun a=>?_)) (aB fun a=>?_)
 ·unfold YY;exact aF [] [_,_,_,_,_,_,_,_,_,_,_] (.a (.a (.a (.a (.a (.r [0] (.l 1)) (.l 2)) (.l 3)) (.l 4)) (.l 5)) (.r [6,7,8,9] (.l 10))) (.r [0,1,2,3,6,7,4,8,9,5] (.l 10)) rfl _
 ·unfold YY;exact aF [] [_,_,_,_,_,_,_,_,_] (.r [0,1,2,3,4,5,6,7] (.l 8)) (.a (.a (.a (.r [0] (.l 1)) (.l 4)) (.l 7)) (.r [2,3,5,6] (.l 8))) rfl _
theorem qH:∀(its:List It) (vs ws:List Nv),d8 V its vs= .fin ws->ws.length=vs.length+its.length
 | [],vs,ws,h=>by cases h;rfl
 |it::r,vs,ws,h=>by
  cases e:jp V it with
  |val v=>
   rw[i8 e] at h
   have:=qH r _ _ h
   simp at this⊢
   omega
  |no=>rw[jA,e] at h;cases h
  |bad f=>rw[kz e] at h;cases h
theorem yR:b_do_write=b_do_write.take 3++(bA:: .while_ fo wBody::b_do_write.drop 5):=rfl
theorem sz(P:PB B){n:Nat}{its:List It}{tk:Int}{t0 t1:Str}{outs:List Str}{w:WR}{s0:St}(ho:outs.length<3)(hw:∀vs,w= .fin vs->vs.length<5)(h:JS (CO B) (.while_ fo wBody) s0 (oO st V (IL n++(aA 0 its++YY tk t0 t1 outs)) w)):
  JB (CO B) (.while_ fo wBody::b_do_write.drop 5) s0 (yr st V n its tk t0 t1 outs w):=by
 cases w with
 |fin vs=>exact aN h (tB st V P ho (hw vs rfl))
 |own=>cases st with
  |true=>exact bZ h
  |false=>exact c6 h
 |bad f=>exact c6 h
theorem jq(P:PB B){its:List It}{tk:Int}{t0 t1:Str}{outs:List Str}(hn:its.length<=4)(ho:outs.length<3):
  JB (CO B) b_do_write ⟨6010,none,20,dg st "write"++(RG++(MG 5090 V++(IL its.length++(aA 0 its++YY tk t0 t1 outs)))),zI⟩ (yr st V its.length its tk t0 t1 outs (d8 V its [])):=by
 have hw:∀vs,d8 V its []= .fin vs->vs.length<5:=fun vs h=>by have:=qH V its [] vs h;simp at this;omega
 rw[yR]
 have hR:Low 5100 (MG 5090 V++(IL its.length++(aA 0 its++(IN t0 t1++(OU outs++ZG))))):=(aJ (by rfl:bU 5100 (MG 5090 V)=true)).app ((aS _).app ((aE _ _).app ((aJ (by rfl:bU 5100 (IN t0 t1)=true)).app ((lZ outs).app (aJ (by rfl:bU 5100 ZG=true))))))
 have hY:=(dT tk t0 t1 outs).mono (by decide:5100<=6100)
 have jb:=wJ (B:=B) P st tk (hR.mono (by decide))
 refine ba (JB.post (B:=B) (JB.pre jb (aB fun a=>?_)) (l':=ai st++(cP []++(bK 0++(RG++(MG 5090 V++(IL its.length++(aA 0 its++YY tk t0 t1 outs))))))) (aB fun a=>?_)) ?_
 ·unfold YY;exact aF [] [_,_,_,_,_,_,_,_,_,_] (.a (.a (.a (.r [0] (.l 1)) (.l 2)) (.l 3)) (.r [4,5,6,7,8] (.l 9))) (.r [0,1,4,5,6,2,3,7,8] (.l 9)) rfl _
 ·unfold YY;exact aF [] [_,_,_,_,_,_,_,_,_,_,_,_] (.r [0,1,2,3,4,5,6,7,8,9,10] (.l 11)) (.a (.a (.a (.a (.a (.r [0] (.l 1)) (.l 2)) (.l 3)) (.l 7)) (.l 8)) (.r [4,5,6,9,10] (.l 11))) rfl _
 cases its with
 |nil=>
  have hX:Low 6100 (ai st++(cP []++(MG 5090 V++(aA 0 []++YY tk t0 t1 outs)))):=(aX st).app ((b8 []).app (((bw V).mono (by decide)).app (((aE [] 0).mono (by decide)).app hY)))
  have jN:JS (CO B) bA ⟨6200,none,20,(bK 0++(IL 0++RG))++(ai st++(cP []++(MG 5090 V++(aA 0 []++YY tk t0 t1 outs)))),sb⟩ _:=Fk P (n:=0) (by decide) (hX.mono (by decide))
  refine aN (JS.post_sub (B:=B) (JS.pre jN (aB fun a=>?_)) (l':=cP []++(ai st++(RG++(MG 5090 V++(IL 0++(aA 0 []++YY tk t0 t1 outs)))))) (l2:=oJ) (aB fun a=>?_)) (sz st V P ho hw ?_)
  ·simp only[xz,Hx];ac_rfl
  ·exact aF [] [_,_,_,_,_,_,_,_] (.a (.r [0,1,2,3,4,5] (.l 6)) (.l 7)) (.a (.r [7,4] (.l 2)) (.r [1,0,3,5] (.l 6))) rfl _
  ·obtain⟨f,W,hf⟩:=i7 (B:=B) (n0:=6210) (nx:=nb 0+10) (nx':=6310) (dp:=20) (hd:=none) (lo:=ek .none) (by decide) (X:=cP []++(ai st++(RG++(MG 5090 V++(IL 0++(aA 0 []++YY tk t0 t1 outs)))))) (Low.mono ((b8 _).app ((aX st).app ((low_RG.mono (by decide)).app (((bw V).mono (by decide)).app (((aS _).mono (by decide)).app (((aE _ _).mono (by decide)).app hY)))))) (by decide)) rfl (by decide) (by intro k hk;cases hk)
   have:=gZ W hf (c:=fo) (b:=wBody) (n:=1) (.stop (qF P _))
   rwa [show(some (Res.ok AF.next,_):Out AF)=oO st V (IL 0++(aA 0 []++YY tk t0 t1 outs)) (.fin []) from rfl,qG] at this
 |cons it post=>
  have hZ:Low 6100 (ai st++(cP []++(MG 5090 V++(aA (0+1) post++YY tk t0 t1 outs)))):=(aX st).app ((b8 []).app (((bw V).mono (by decide)).app (((aE _ _).mono (by decide)).app hY)))
  cases hit:gx it with
  |true=>
   have jN:JS (CO B) bA ⟨6200,none,20,aG (ib 0) it++bK 0++(IL (it::post).length++RG)++(ai st++(cP []++(MG 5090 V++(aA (0+1) post++YY tk t0 t1 outs)))),sb⟩ _:=Fo (B:=B) P (n:=(it::post).length) (j:=0) (it:=it) (by simp) hn (hZ.mono (by decide)) hit
   refine aN (JS.post (B:=B) (JS.pre jN (aB fun a=>?_)) (l':=cw (nb 0) (ib 0) it++(aG (ib 0) it++(cP []++(ai st++(bK (((0:Nat):Int)+1)++(IL (it::post).length++(RG++(MG 5090 V++(aA 0 []++(aA (0+1) post++YY tk t0 t1 outs)))))))))) (aB fun a=>?_)) (sz st V P ho hw ?_)
   ·exact aF [] [_,_,_,_,_,_,_,_,_] (.a (.a (.r [0] (.l 1)) (.r [2] (.l 3))) (.r [4,5,6,7] (.l 8))) (.r [4,5,1,3,6,2] (.a (.r [0] (.l 7)) (.l 8))) rfl _
   ·exact aF [] [_,_,_,_,_,_,_,_,_,_] (.r [0,1,2,3,4,5,6,7] (.a .n (.r [8] (.l 9)))) (.a (.a (.a (.r [0] (.l 1)) (.l 4)) (.r [5] (.l 6))) (.r [3,2,7,8] (.l 9))) rfl _
   ·obtain⟨f,W,hf⟩:=tA (B:=B) 6200 (.inl rfl) 0 (by decide) it (X:=aG (ib 0) it++(cP []++(ai st++(bK (((0:Nat):Int)+1)++(IL (it::post).length++(RG++(MG 5090 V++(aA 0 []++(aA (0+1) post++YY tk t0 t1 outs)))))))))
     (Low.mono (((aW _ _).mono (by decide)).app ((b8 _).app ((aX st).app ((bk _).app (((aS _).mono (by decide)).app ((low_RG.mono (by decide)).app (((bw V).mono (by decide)).app (((aE _ _).mono (by decide)).app (((aE _ _).mono (by decide)).app hY))))))))) (by decide))
    have hT:=wI (B:=B) st V P hY hn post [] it [] (by simp) rfl hit
    have:=gZ W hf (c:=fo) (b:=wBody) hT
    rwa [qG] at this
  |false=>
   have hbad:d8 V (it::post) []= .bad (pK it):=by rcases ig hit with⟨rfl,h2⟩|⟨rfl,h2⟩<;>rfl
   rw[hbad]
   have hZ2:Low 6100 (ai st++(cP []++(aA (0+1) post++YY tk t0 t1 outs))):=(aX st).app ((b8 []).app (((aE _ _).mono (by decide)).app hY))
   have jN:JS (CO B) bA ⟨6200,none,20,(aG (ib 0) it++bK 0++(IL (it::post).length++RG)++MG 5090 V)++(ai st++(cP []++(aA (0+1) post++YY tk t0 t1 outs))),sb⟩ _:=BS (B:=B) V P (n:=(it::post).length) (j:=0) (it:=it) (by simp) hn (hZ2.mono (by decide)) hit
   refine c6 (JS.after (JS.post_sub (B:=B) (JS.pre jN (aB fun a=>?_)) (l':=jm 6950 (pK it)++(RG++(MG 6900 V++(IL (it::post).length++(aA 0 (it::post)++YY tk t0 t1 outs))))) (l2:=cP []++ai st) (aB fun a=>?_)) (j0 (n0:=6200) rfl rfl (by decide) ?_))
   ·exact aF [] [_,_,_,_,_,_,_,_,_] (.a (.a (.a (.r [0] (.l 1)) (.r [2] (.l 3))) (.l 4)) (.r [5,6,7] (.l 8))) (.r [5,6,1,3,4,2] (.a (.r [0] (.l 7)) (.l 8))) rfl _
   ·exact aF [] [_,_,_,_,_,_,_,_,_] (.a (.r [0,1,2,3] (.a (.r [4] (.l 5)) (.l 6))) (.r [7] (.l 8))) (.a (.a (.a (.r [0] (.l 4)) (.r [3] (.l 1))) (.l 2)) (.r [8,7,5] (.l 6))) rfl _
   ·exact(low_RG.mono (by decide)).app ((aJ (by rfl:bU 6910 (MG 6900 V)=true)).app (((aS _).mono (by decide)).app (((aE _ _).mono (by decide)).app (hY.mono (by decide)))))
end
set_option genCtorIdx true in
inductive Fl where
 |f7|f40|fx|fb|f21
noncomputable def Fl.codes:Fl->List Nat
 | .f7=> [32,32,55]| .f40=> [32,52,48]| .fx=> [120,32,32]| .fb=> [32,32,32]| .f21=> [32,50,49]
noncomputable def DZ:List Fl->List Nat
 | []=> []
 |v::r=>v.codes.getD 0 0::v.codes.getD 1 0::v.codes.getD 2 0::DZ r
noncomputable def aK(r:List Fl):Str:=⟨(DZ r).toArray⟩
inductive FlR where
 |num (v:Nv)|blank|bad
noncomputable def Fl.res:Fl->FlR
 | .f7=> .num .v7| .f40=> .num .v40| .fx=> .bad| .fb=> .blank| .f21=> .num .v21
noncomputable def G9(j:Nat):AO:=match j with
 |0=> .adict [(66,.ref 6025),(72,.int 0 0),(58,.int 0 0),(74,.ref 6032),(75,.bool false),(76,.int 0 0)]
 |_+1=> .adict [(66,.ref 6025),(72,.int 0 0),(58,.int 2 0),(74,.ref 6032),(75,.bool true),(76,.int 0 0)]
noncomputable def cQ(j:Nat)(t:Str):List (Nat×AO):= [(6022,.inst 897 6021),(6021,.adict [(90,.ref 6024),(99,.ref 6018),(100,.ref 1294),(92,.ref 6034),(29,.ref 2011),(101,.str t 0),(58,.int (3*j:Nat) 0)]),
 (6024,.inst 736 6023),(6023,G9 j),(6025,.lst [.ref 6027,.ref 1257,.ref 6030]),(6027,.tup [tx "begin",.int 9 0]),(6030,.tup [tx "end",.int 0 0]),(6032,Dg j),
 (6018,.inst 981 6017),(6017,.adict [(31,.ref 2014)]),(6034,.inst 764 6033),(6033,.adict [(83,.int 0 0),(84,.bool false),(82,.bool false)])]
noncomputable def oK:List (Nat×Value):= [(44,.ref 2000),(112,.ref 6004),(58,.int 3 0),(90,.ref 6010),(142,.ref 6022),(145,.ref 6040)]
noncomputable def fh(v:Value):List (Nat×Value):= [(44,.ref 2000),(112,.ref 6004),(58,.int 3 0),(90,.ref 6010),(142,.ref 6022),(145,.ref 6040),(64,v)]
noncomputable def rBody:List IS:=Fj (b_do_read.getD 4 .bad)
noncomputable def el:IE:=Fi (b_do_read.getD 4 .bad)
noncomputable def rS:IS:=rBody.getD 2 .bad
noncomputable def itR:It->Bool
 | .elem _=>true| .var=>true|_=>false
section
variable{B:Base}
theorem ww(P:PB B)(st:Bool)(t0 t1:Str){X:List (Nat×AO)}(hX:Low 6010 X):
  (JB (CO B) (b_do_read.take 3) ⟨6010,none,20,(dg st "read"++RG++WG 0++MK++IN t0 t1)++X,zI⟩ (some (.ok .next,⟨6200,none,20,(ai st++cQ 0 t0++bK 0++RG++WG 1++MK++IN t0 t1)++X,oK⟩)))/\
  (JB (CO B) (b_do_read.take 3) ⟨6010,none,20,(dg st "read"++RG++WG 1++MK++IN t0 t1)++X,zI⟩ (some (.ok .next,⟨6200,none,20,(ai st++cQ 0 t1++bK 0++RG++WG 2++MK++IN t0 t1)++X,oK⟩))):=by
 cases st with
 |true=>exact⟨jb P 60 2016 [2015] rfl hX (by kernel_rfl),jb P 60 2016 [2015] rfl hX (by kernel_rfl)⟩
 |false=>exact⟨jb P 60 2016 [2015] rfl hX (by kernel_rfl),jb P 60 2016 [2015] rfl hX (by kernel_rfl)⟩
theorem CJ(P:PB B)(st:Bool)(V:Sig)(t0 t1:Str){X:List (Nat×AO)}(hX:Low 6010 X):
  JB (CO B) b_do_read ⟨6010,none,20,(dg st "read"++RG++MG 5090 V++WG 2++MK++IN t0 t1)++X,zI⟩ (match st with
   |true=>some (.ok (.ret (.int 4 0)),⟨7000,none,20,(RG++MG 6900 (VS V (-1))++WG 2++MK++IN t0 t1)++X,[]⟩)
   |false=>some (.err 6950,⟨7000,none,20,(jm 6950 .fI++RG++MG 6900 V++WG 2++MK++IN t0 t1)++X,[]⟩)):=by
 cases st with
 |true=>exact jb P 60 2016 [2004] rfl hX (by kernel_rfl)
 |false=>exact jb P 60 2016 [2004] rfl hX (by kernel_rfl)
noncomputable abbrev NR(j:Nat)(ld:List (Nat×AO)):St:=⟨nb j,none,20,ld,oK⟩
noncomputable def Ei(B:Base)(n j:Nat)(X:List (Nat×AO))(it:It):=cD ah tokF (nb j) 2038 [6039,6041,6043] (GK n j it) X (nb j+10) none (fh (.ref (nb j))) 20 (.ok .next) (fc (CO B) TB (RN B 60) bA (NR j (Dy n j it++X)))
theorem xK(X:List (Nat×AO))(it:It)(hr:itR it=true)(h:gx it=true):∀n j,j<n->n<=4->(Ei B n j X it).1=(Ei B n j X it).2:=by
 cases it with
 |elem m=>cases m with
  |a2=>cases h
  |a3=>cases h
  |_=>refine cG ?_ ?_ ?_ ?_ ?_ ?_ ?_ ?_ ?_ ?_<;>kernel_rfl
 |var=>refine cG ?_ ?_ ?_ ?_ ?_ ?_ ?_ ?_ ?_ ?_<;>kernel_rfl
 |_=>cases hr
noncomputable def C9(B:Base)(cb:Nat)(n j:Nat)(V:Sig)(X:List (Nat×AO))(it:It)(f:Fa):=cD ah tokF (nb j) (cb+4) [2004] (jm 6950 f++aG (ib j) it++(IL n++RG)++MG 6900 V) X 7000 none [] 20 (.err 6950)
 (fc (CO B) TB (RN B 60) bA (NR j ((Dy n j it++MG cb V)++X)))
noncomputable def Aj:Nat->Nat
 |0=>5090|_=>6370
theorem C8(V:Sig)(X:List (Nat×AO)):∀n j,j<n->n<=4->(C9 B (Aj j) n j V X (.elem .a2) .f40).1=(C9 B (Aj j) n j V X (.elem .a2) .f40).2/\(C9 B (Aj j) n j V X (.elem .a3) .fE).1=(C9 B (Aj j) n j V X (.elem .a3) .fE).2:=by
 refine cG ?_ ?_ ?_ ?_ ?_ ?_ ?_ ?_ ?_ ?_<;>exact⟨by kernel_rfl,by kernel_rfl⟩
noncomputable def Eh(B:Base)(n:Nat)(X:List (Nat×AO)):=cD ah tokF (nb n) 2038 [6039,6043] (oJ++(IL n++RG)) X (nb n+10) none (fh .none) 20 (.ok .next)
 (fc (CO B) TB (RN B 60) bA (NR n ((bK n++(IL n++RG))++X)))
theorem C7(X:List (Nat×AO)):∀n,n<5->(Eh B n X).1=(Eh B n X).2
 |0,_=>by kernel_rfl
 |1,_=>by kernel_rfl
 |2,_=>by kernel_rfl
 |3,_=>by kernel_rfl
 |4,_=>by kernel_rfl
noncomputable def wC:It->List (Nat×AO)
 | .elem n=> [(6300,.tup [.int 0 0,.ref 6301,.none]),(6301,.tup [.int 0 0,.int (GL n) 0,.int 0 0,.ref 6302])]
 |_=> [(6300,.tup [.int 0 0,.ref 2034,.none])]
noncomputable def aV(r:List Fl)(j:Nat):Fl:=r.getD j .fb
noncomputable def EF:Fl->Value
 | .f7=> .int 7 0| .f40=> .int 40 0| .f21=> .int 21 0|_=> .none
noncomputable def z9(B:Base)(X:List (Nat×AO))(it:It)(r:List Fl)(j:Nat):=cD ah tokF 6340 2038 [] (cQ (j+1) (aK r)++wC it++RG) X 6360 none ((6,EF (aV r j))::fh (.ref 6300)) 20 (.ok .next)
 ((RN B 60).b (rBody.take 2) ⟨6340,none,20,(cQ j (aK r)++wC it++RG)++X,fh (.ref 6300)⟩)
noncomputable def n8:Fl->Bool
 | .fx=>false|_=>true
theorem cz{P:List Fl->Nat->Prop}(h0:∀j,j<4->P [] j)(h1:∀a,P [a] 0/\P [a] 1/\P [a] 2/\P [a] 3)(h2:∀a b,P [a,b] 0/\P [a,b] 1/\P [a,b] 2/\P [a,b] 3)(h3:∀a b c,P [a,b,c] 0/\P [a,b,c] 1/\P [a,b,c] 2/\P [a,b,c] 3):
  ∀r:List Fl,r.length<4->∀j,j<4->P r j
 | [],_,j,hj=>h0 j hj
 | [a],_,j,hj=>match j,hj with|0,_=>(h1 a).1|1,_=>(h1 a).2.1|2,_=>(h1 a).2.2.1|3,_=>(h1 a).2.2.2
 | [a,b],_,j,hj=>match j,hj with|0,_=>(h2 a b).1|1,_=>(h2 a b).2.1|2,_=>(h2 a b).2.2.1|3,_=>(h2 a b).2.2.2
 | [a,b,c],_,j,hj=>match j,hj with|0,_=>(h3 a b c).1|1,_=>(h3 a b c).2.1|2,_=>(h3 a b c).2.2.1|3,_=>(h3 a b c).2.2.2
 |_::_::_::_::_,h,_,_=>absurd h (by simp)
theorem E3(X:List (Nat×AO))(it:It)(hr:itR it=true):∀r:List Fl,r.length<4->∀j,j<4->n8 (aV r j)=true->(z9 B X it r j).1=(z9 B X it r j).2:=by
 cases it with
 |elem n=>
  refine cz (P:=fun r j=>n8 (aV r j)=true->(z9 B X (.elem n) r j).1=(z9 B X (.elem n) r j).2) (cU ?_ ?_ ?_ ?_) (fun a=>⟨?_,?_,?_,?_⟩) (fun a b=>⟨?_,?_,?_,?_⟩) (fun a b c=>⟨?_,?_,?_,?_⟩)
  ·intro _;kernel_rfl
  ·intro _;kernel_rfl
  ·intro _;kernel_rfl
  ·intro _;kernel_rfl
  ·intro h;cases a with|fx=>cases h|_=>kernel_rfl
  ·intro _;kernel_rfl
  ·intro _;kernel_rfl
  ·intro _;kernel_rfl
  ·intro h;cases a with|fx=>cases h|_=>kernel_rfl
  ·intro h;cases b with|fx=>cases h|_=>kernel_rfl
  ·intro _;kernel_rfl
  ·intro _;kernel_rfl
  ·intro h;cases a with|fx=>cases h|_=>kernel_rfl
  ·intro h;cases b with|fx=>cases h|_=>kernel_rfl
  ·intro h;cases c with|fx=>cases h|_=>kernel_rfl
  ·intro _;kernel_rfl
 |var=>
  refine cz (P:=fun r j=>n8 (aV r j)=true->(z9 B X .var r j).1=(z9 B X .var r j).2) (cU ?_ ?_ ?_ ?_) (fun a=>⟨?_,?_,?_,?_⟩) (fun a b=>⟨?_,?_,?_,?_⟩) (fun a b c=>⟨?_,?_,?_,?_⟩)
  ·intro _;kernel_rfl
  ·intro _;kernel_rfl
  ·intro _;kernel_rfl
  ·intro _;kernel_rfl
  ·intro h;cases a with|fx=>cases h|_=>kernel_rfl
  ·intro _;kernel_rfl
  ·intro _;kernel_rfl
  ·intro _;kernel_rfl
  ·intro h;cases a with|fx=>cases h|_=>kernel_rfl
  ·intro h;cases b with|fx=>cases h|_=>kernel_rfl
  ·intro _;kernel_rfl
  ·intro _;kernel_rfl
  ·intro h;cases a with|fx=>cases h|_=>kernel_rfl
  ·intro h;cases b with|fx=>cases h|_=>kernel_rfl
  ·intro h;cases c with|fx=>cases h|_=>kernel_rfl
  ·intro _;kernel_rfl
 |_=>cases hr
noncomputable def z8(B:Base)(st:Bool)(V:Sig)(X:List (Nat×AO))(it:It)(r:List Fl)(j:Nat):=match st with
 |true=>cD ah tokF 6340 6324 [2004] (RG++MG 6900 (VS V 43)) X 7000 none [] 20 (.ok (.ret (.int 4 0)))
   ((RN B 60).b (rBody.take 2) ⟨6340,none,20,(cQ j (aK r)++wC it++ai true++RG++MG 6320 V)++X,fh (.ref 6300)⟩)
 |false=>cD ah tokF 6340 6324 [2004] (jm 6950 .f43++RG++MG 6900 V) X 7000 none [] 20 (.err 6950)
   ((RN B 60).b (rBody.take 2) ⟨6340,none,20,(cQ j (aK r)++wC it++ai false++RG++MG 6320 V)++X,fh (.ref 6300)⟩)
theorem Bz(st:Bool)(V:Sig)(X:List (Nat×AO))(it:It)(hr:itR it=true):∀r:List Fl,r.length<4->∀j,j<4->aV r j= .fx->(z8 B st V X it r j).1=(z8 B st V X it r j).2:=by
 cases it with
 |elem n=>
  refine cz (P:=fun r j=>aV r j= .fx->(z8 B st V X (.elem n) r j).1=(z8 B st V X (.elem n) r j).2) (cU ?_ ?_ ?_ ?_) (fun a=>⟨?_,?_,?_,?_⟩) (fun a b=>⟨?_,?_,?_,?_⟩) (fun a b c=>⟨?_,?_,?_,?_⟩)<;>intro h<;>cases h<;>cases st<;>kernel_rfl
 |var=>
  refine cz (P:=fun r j=>aV r j= .fx->(z8 B st V X .var r j).1=(z8 B st V X .var r j).2) (cU ?_ ?_ ?_ ?_) (fun a=>⟨?_,?_,?_,?_⟩) (fun a b=>⟨?_,?_,?_,?_⟩) (fun a b c=>⟨?_,?_,?_,?_⟩)<;>intro h<;>cases h<;>cases st<;>kernel_rfl
 |_=>cases hr
noncomputable def Sig.put(V:Sig)(it:It)(v:Nv):Sig:=match it with
 | .elem n=>match Cd n with
  | .val .v1=>{V with a:=v}
  | .val .v2=>{V with b:=v}
  | .val .v3=>{V with c:=v}
  |_=>V
 |_=>{V with x:=v}
noncomputable def GB(B:Base)(X:List (Nat×AO))(V:Sig)(it:It)(v:Nv):=cD ah tokF 6360 6324 [2004] (RG++MG 6370 (V.put it v)) X 6400 none oK 20 (.ok .next)
 (fc (CO B) TB (RN B 60) rS ⟨6360,none,20,(wC it++RG++MG 6320 V)++X,(6,.int v.val 0)::fh (.ref 6300)⟩)
theorem za(X:List (Nat×AO))(V:Sig)(it:It)(hr:itR it=true)(hn:gx it=true)(v:Nv):(GB B X V it v).1=(GB B X V it v).2:=by
 cases it with
 |elem n=>cases n with
  |a2=>cases hn
  |a3=>cases hn
  |_=>kernel_rfl
 |var=>kernel_rfl
 |_=>cases hr
noncomputable def GA(B:Base)(X:List (Nat×AO))(V:Sig)(it:It):=cD ah tokF 6360 6324 [2004] (RG++MG 6370 V) X 6400 none oK 20 (.ok .next)
 (fc (CO B) TB (RN B 60) rS ⟨6360,none,20,(wC it++RG++MG 6320 V)++X,(6,.none)::fh (.ref 6300)⟩)
theorem yb(X:List (Nat×AO))(V:Sig)(it:It)(hr:itR it=true):(GA B X V it).1=(GA B X V it).2:=by
 cases it with
 |elem n=>kernel_rfl
 |var=>kernel_rfl
 |_=>cases hr
noncomputable def E6(B:Base)(st:Bool)(V:Sig)(X:List (Nat×AO))(t:Str)(j:Nat):=cD ah tokF 6340 6324 [2004] (RG++MG 6900 (σF st V)) X 7000 none [] 20 (.ok (.ret (.int 4 0)))
 ((RN B 60).b (b_do_read.drop 5) ⟨6340,none,20,(cQ j t++ai st++RG++MG 6320 V)++X,fh .none⟩)
theorem E5(st:Bool)(V:Sig)(X:List (Nat×AO))(t:Str):∀j,j<5->(E6 B st V X t j).1=(E6 B st V X t j).2
 |0,_=>by cases st<;>kernel_rfl
 |1,_=>by cases st<;>kernel_rfl
 |2,_=>by cases st<;>kernel_rfl
 |3,_=>by cases st<;>kernel_rfl
 |4,_=>by cases st<;>kernel_rfl
end
inductive RR where
 |fin (V:Sig)|own (V:Sig)|bad (f:Fa) (V:Sig)
noncomputable def bC(V:Sig)(it:It)(f:Fl):Sig:=match f.res with
 | .num v=>V.put it v
 |_=>V
noncomputable def dz(row:List Fl):List It->Nat->Sig->RR
 | [],_,V=> .fin V
 |it::r,j,V=>match gx it with
  |false=> .bad (pK it) V
  |true=>match n8 (aV row j) with
   |false=> .own V
   |true=>dz row r (j+1) (bC V it (aV row j))
theorem jG{row:List Fl}{it:It}{r:List It}{j:Nat}{V:Sig}:dz row (it::r) j V=match gx it with
  |false=> .bad (pK it) V
  |true=>match n8 (aV row j) with
   |false=> .own V
   |true=>dz row r (j+1) (bC V it (aV row j)):=rfl
theorem lL{row:List Fl}{it:It}{r:List It}{j:Nat}{V:Sig}(h:gx it=false):dz row (it::r) j V= .bad (pK it) V:=by rw[jG,h]
theorem qU{row:List Fl}{it:It}{r:List It}{j:Nat}{V:Sig}(h:gx it=true)(hf:n8 (aV row j)=false):dz row (it::r) j V= .own V:=by rw[jG,h,hf]
theorem o9{row:List Fl}{it:It}{r:List It}{j:Nat}{V:Sig}(h:gx it=true)(hf:n8 (aV row j)=true):dz row (it::r) j V=dz row r (j+1) (bC V it (aV row j)):=by rw[jG,h,hf]
noncomputable def rG:It->List (Nat×AO)
 | .elem _=> [(6302,.tup [])]
 |_=> []
theorem Eb(c:Nat){it:It}(h:itR it=true):cw 6300 c it=wC it++rG it:=by cases it<;>first|rfl|exact dL h|cases h
theorem yp{f:Fl}(h:n8 f=false):f= .fx:=by cases f<;>first|rfl|exact dL h|cases h
noncomputable def vx(st:Bool)(V:Sig)(n j:Nat)(it:It)(t:Str)(Z:List (Nat×AO)):List (Nat×AO):=cw 6300 (ib j) it++(aG (ib j) it++(cQ j t++(ai st++(bK ((j:Int)+1)++(IL n++(RG++(MG 6320 V++Z)))))))
noncomputable def o8(st:Bool)(n:Nat)(t:Str)(Z:List (Nat×AO)):RR->Out AF
 | .fin V=>some (.ok .next,⟨6340,none,20,cQ n t++(ai st++(RG++(MG 6320 V++Z))),fh .none⟩)
 | .own V=>match st with
  |true=>some (.ok (.ret (.int 4 0)),⟨7000,none,20,RG++(MG 6900 (VS V 43)++Z),[]⟩)
  |false=>some (.err 6950,⟨7001,none,20,pz 6950 7000 .f43++(RG++(MG 6900 V++Z)),[]⟩)
 | .bad f V=>some (.err 6950,⟨7001,none,20,pz 6950 7000 f++(RG++(MG 6900 V++Z)),[]⟩)
theorem bl(j:Nat)(t:Str):Low 6100 (cQ j t):=by
 match j with
 |0=>exact aJ (by rfl)
 |j+1=>exact aJ (by rfl)
theorem lX(it:It):Low 6310 (rG it):=by cases it<;>exact aJ (by rfl)
theorem xW(V:Sig):Low 6340 (MG 6320 V):=aJ (by rfl)
theorem qf(V:Sig):Low 6400 (MG 6370 V):=aJ (by rfl)
section
variable{B:Base}(st:Bool)
theorem gA(P:PB B)(led:List (Nat×AO)):JT (CO B) el ⟨6340,none,20,led,fh (.ref 6300)⟩ (some (.ok true,⟨6340,none,20,led,fh (.ref 6300)⟩)):=jt P 10 (by kernel_rfl)
theorem qS(P:PB B)(led:List (Nat×AO)):JT (CO B) el ⟨6340,none,20,led,fh .none⟩ (some (.ok false,⟨6340,none,20,led,fh .none⟩)):=jt P 10 (by kernel_rfl)
theorem lK:rBody=rBody.take 2++ [rS,bA]:=rfl
theorem GH(P:PB B){n j:Nat}{it:It}{X:List (Nat×AO)}(hj:j<n)(hn:n<=4)(hX:Low (nb j) X)(hr:itR it=true)(h:gx it=true):
  JS (CO B) bA ⟨nb j,none,20,aG (ib j) it++bK j++(IL n++RG)++X,oK⟩ (some (.ok .next,⟨nb j+10,none,20,(cw (nb j) (ib j) it++aG (ib j) it++bK ((j:Int)+1)++(IL n++RG))++X,fh (.ref (nb j))⟩)):=by
 have e:=xK (B:=B) X it hr h n j hj hn
 unfold Ei at e
 exact js P 60 2038 [6039,6041,6043] (ls (na (by decide) (kY j))) hX e
theorem CK(P:PB B){n j:Nat}{it:It}{V:Sig}{X:List (Nat×AO)}(hj:j<n)(hn:n<=4)(hX:Low 6200 X)(h:gx it=false):
  JS (CO B) bA ⟨nb j,none,20,(aG (ib j) it++bK j++(IL n++RG)++MG (Aj j) V)++X,oK⟩ (some (.err 6950,⟨7000,none,20,(jm 6950 (pK it)++aG (ib j) it++(IL n++RG)++MG 6900 V)++X,[]⟩)):=by
 have e:=C8 (B:=B) V X n j hj hn
 unfold C9 at e
 have hb:=kY j
 have h0:=ls (na (by decide:1345<=6200) hb)
 rcases ig h with⟨rfl,h2⟩|⟨rfl,h2⟩<;>rw[h2]
 ·exact js P 60 (Aj j+4) [2004] h0 (hX.mono hb) e.1
 ·exact js P 60 (Aj j+4) [2004] h0 (hX.mono hb) e.2
theorem GD(P:PB B){n:Nat}{X:List (Nat×AO)}(hn:n<5)(hX:Low (nb n) X):
  JS (CO B) bA ⟨nb n,none,20,(bK n++(IL n++RG))++X,oK⟩ (some (.ok .next,⟨nb n+10,none,20,(oJ++(IL n++RG))++X,fh .none⟩)):=by
 have e:=C7 (B:=B) X n hn
 unfold Eh at e
 exact js P 60 2038 [6039,6043] (ls (na (by decide) (kY n))) hX e
theorem tr(b cb:Nat)(hb:(b=6200/\cb=5090)\/(b=6400/\cb=6370))(j:Nat)(hj:j<4)(it:It)(hr:itR it=true)(V:Sig){X:List (Nat×AO)}(hX:Low 6210 X):∃f,Weak (CO B) f ⟨b+10,none,20,(cw b (ib j) it++MG cb V)++X,fh (.ref b)⟩ ⟨6340,none,20,(cw 6300 (ib j) it++MG 6320 V)++X,fh (.ref 6300)⟩/\∀k,k<6210->f k=k:=by
 rcases hb with⟨rfl,rfl⟩|⟨rfl,rfl⟩
 ·cases it with
  |elem m=>revert j hj;refine cU ?_ ?_ ?_ ?_<;>exact wk B rfl 5094 [2004] hX (by kernel_rfl)
  |var=>revert j hj;refine cU ?_ ?_ ?_ ?_<;>exact wk B rfl 5094 [2004] hX (by kernel_rfl)
  |_=>cases hr
 ·cases it with
  |elem m=>revert j hj;refine cU ?_ ?_ ?_ ?_<;>exact wk B rfl 6374 [2004] hX (by kernel_rfl)
  |var=>revert j hj;refine cU ?_ ?_ ?_ ?_<;>exact wk B rfl 6374 [2004] hX (by kernel_rfl)
  |_=>cases hr
theorem qR(b cb:Nat)(hb:(b=6200/\cb=5090)\/(b=6400/\cb=6370))(V:Sig){X:List (Nat×AO)}(hX:Low 6210 X):∃f,Weak (CO B) f ⟨b+10,none,20,MG cb V++X,fh .none⟩ ⟨6340,none,20,MG 6320 V++X,fh .none⟩/\∀k,k<6210->f k=k:=by
 rcases hb with⟨rfl,rfl⟩|⟨rfl,rfl⟩
 ·exact wk B rfl 5094 [2004] hX (by kernel_rfl)
 ·exact wk B rfl 6374 [2004] hX (by kernel_rfl)
theorem GE(P:PB B){n j:Nat}{it:It}{row:List Fl}{V:Sig}{Z:List (Nat×AO)}(hj:j<4)(hrow:row.length<4)(hZ:Low 6100 Z)(hr:itR it=true)(h:n8 (aV row j)=true):
  JB (CO B) (rBody.take 2) ⟨6340,none,20,vx st V n j it (aK row) Z,fh (.ref 6300)⟩ (some (.ok .next,⟨6360,none,20,(cQ (j+1) (aK row)++wC it++RG)++(rG it++(aG (ib j) it++(ai st++(bK ((j:Int)+1)++(IL n++(MG 6320 V++Z)))))),(6,EF (aV row j))::fh (.ref 6300)⟩)):=by
 have hX:Low 6340 (rG it++(aG (ib j) it++(ai st++(bK ((j:Int)+1)++(IL n++(MG 6320 V++Z)))))):=((lX it).mono (by decide)).app (((aW j it).mono (by decide)).app (((aX st).mono (by decide)).app (((bk _).mono (by decide)).app (((aS n).mono (by decide)).app ((xW V).app (hZ.mono (by decide)))))))
 have e:=E3 (B:=B) (rG it++(aG (ib j) it++(ai st++(bK ((j:Int)+1)++(IL n++(MG 6320 V++Z)))))) it hr row hrow j hj h
 unfold z9 at e
 refine JB.pre (jb P 60 2038 [] rfl hX e) (aB fun a=>?_)
 unfold vx
 rw[Eb _ hr]
 exact aF [] [_,_,_,_,_,_,_,_,_,_] (.a (.a (.r [0] (.l 1)) (.l 2)) (.r [3,4,5,6,7,8] (.l 9))) (.a (.r [1] (.l 3)) (.r [4,0,5,6,7,2,8] (.l 9))) rfl _
theorem E9(P:PB B){n j:Nat}{it:It}{row:List Fl}{V:Sig}{Z:List (Nat×AO)}(hj:j<4)(hrow:row.length<4)(hZ:Low 6100 Z)(hr:itR it=true)(h:n8 (aV row j)=false):
  JB (CO B) (rBody.take 2) ⟨6340,none,20,vx st V n j it (aK row) Z,fh (.ref 6300)⟩ (match st with
   |true=>some (.ok (.ret (.int 4 0)),⟨7000,none,20,(RG++MG 6900 (VS V 43))++(aG (ib j) it++(IL n++Z)),[]⟩)
   |false=>some (.err 6950,⟨7000,none,20,(jm 6950 .f43++RG++MG 6900 V)++(aG (ib j) it++(IL n++Z)),[]⟩)):=by
 have hX:Low 6340 (rG it++(bK ((j:Int)+1)++(aG (ib j) it++(IL n++Z)))):=((lX it).mono (by decide)).app (((bk _).mono (by decide)).app (((aW j it).mono (by decide)).app (((aS n).mono (by decide)).app (hZ.mono (by decide)))))
 have e:=Bz (B:=B) st V (rG it++(bK ((j:Int)+1)++(aG (ib j) it++(IL n++Z)))) it hr row hrow j hj (yp h)
 unfold z8 at e
 cases st with
 |true=>
  refine JB.post_sub (B:=B) (JB.pre (jb P 60 6324 [2004] rfl hX e) (aB fun a=>?_)) (l2:=rG it++bK ((j:Int)+1)) (aB fun a=>?_)
  ·unfold vx;rw[Eb _ hr];exact aF [] [_,_,_,_,_,_,_,_,_,_] (.a (.a (.a (.a (.r [0] (.l 1)) (.l 2)) (.l 3)) (.l 4)) (.r [5,6,7,8] (.l 9))) (.a (.r [1] (.l 5)) (.r [7,0,2,6,8,3,4] (.l 9))) rfl _
  ·exact aF [] [_,_,_,_,_,_,_] (.a (.a (.r [0] (.l 1)) (.r [2,3] (.l 4))) (.r [5] (.l 6))) (.a (.r [0] (.l 1)) (.r [5,6,2,3] (.l 4))) rfl _
 |false=>
  refine JB.post_sub (B:=B) (JB.pre (jb P 60 6324 [2004] rfl hX e) (aB fun a=>?_)) (l2:=rG it++bK ((j:Int)+1)) (aB fun a=>?_)
  ·unfold vx;rw[Eb _ hr];exact aF [] [_,_,_,_,_,_,_,_,_,_] (.a (.a (.a (.a (.r [0] (.l 1)) (.l 2)) (.l 3)) (.l 4)) (.r [5,6,7,8] (.l 9))) (.a (.r [1] (.l 5)) (.r [7,0,2,6,8,3,4] (.l 9))) rfl _
  ·exact aF [] [_,_,_,_,_,_,_,_] (.a (.a (.a (.r [0] (.l 1)) (.l 2)) (.r [3,4] (.l 5))) (.r [6] (.l 7))) (.a (.a (.r [0] (.l 1)) (.l 2)) (.r [6,7,3,4] (.l 5))) rfl _
noncomputable def E4(B:Base)(X:List (Nat×AO))(V:Sig)(it:It)(f:Fl):=cD ah tokF 6360 6324 [2004] (RG++MG 6370 (bC V it f)) X 6400 none oK 20 (.ok .next)
 (fc (CO B) TB (RN B 60) rS ⟨6360,none,20,(wC it++RG++MG 6320 V)++X,(6,EF f)::fh (.ref 6300)⟩)
theorem GF(P:PB B){n j:Nat}{it:It}{f:Fl}{t:Str}{V:Sig}{Z:List (Nat×AO)}(hZ:Low 6100 Z)(hr:itR it=true)(hn:gx it=true):
  JS (CO B) rS ⟨6360,none,20,(cQ (j+1) t++wC it++RG)++(rG it++(aG (ib j) it++(ai st++(bK ((j:Int)+1)++(IL n++(MG 6320 V++Z)))))),(6,EF f)::fh (.ref 6300)⟩
   (some (.ok .next,⟨6400,none,20,(RG++MG 6370 (bC V it f))++(cQ (j+1) t++(aG (ib j) it++(ai st++(bK ((j:Int)+1)++(IL n++Z))))),oK⟩)):=by
 have hX:Low 6360 (cQ (j+1) t++(rG it++(aG (ib j) it++(ai st++(bK ((j:Int)+1)++(IL n++Z)))))):=((bl _ _).mono (by decide)).app (((lX it).mono (by decide)).app (((aW j it).mono (by decide)).app (((aX st).mono (by decide)).app (((bk _).mono (by decide)).app (((aS n).mono (by decide)).app (hZ.mono (by decide)))))))
 have e:(E4 B (cQ (j+1) t++(rG it++(aG (ib j) it++(ai st++(bK ((j:Int)+1)++(IL n++Z)))))) V it f).1=(E4 B (cQ (j+1) t++(rG it++(aG (ib j) it++(ai st++(bK ((j:Int)+1)++(IL n++Z)))))) V it f).2:=by
  cases f with
  |f7=>exact za (B:=B) _ V it hr hn .v7
  |f40=>exact za (B:=B) _ V it hr hn .v40
  |f21=>exact za (B:=B) _ V it hr hn .v21
  |fx=>exact yb (B:=B) _ V it hr
  |fb=>exact yb (B:=B) _ V it hr
 unfold E4 at e
 refine JS.post_sub (B:=B) (JS.pre (js P 60 6324 [2004] rfl hX e) (aB fun a=>?_)) (l2:=rG it) (aB fun a=>?_)
 ·exact aF [] [_,_,_,_,_,_,_,_,_,_] (.a (.a (.r [0] (.l 1)) (.l 2)) (.r [3,4,5,6,7,8] (.l 9))) (.a (.a (.r [3] (.l 0)) (.l 1)) (.r [4,5,6,7,8,2] (.l 9))) rfl _
 ·exact aF [] [_,_,_,_,_,_,_,_,_] (.a (.a (.r [0] (.l 1)) (.r [2,3,4,5,6] (.l 7))) (.l 8)) (.a (.r [0] (.l 1)) (.r [2,8,3,4,5,6] (.l 7))) rfl _
end
theorem jj{S:Core}{st st1:St}{v:Value}{a r:List IS}(h:JB S a st (some (.ok (.ret v),st1))):JB S (a++r) st (some (.ok (.ret v),st1)):=by
 intro FN sc cx C x hm J g s Q E hk hP
 obtain⟨xa,xr,rfl,ha,hr⟩:=d7 hm
 rw[ec]
 refine ca ?_
 refine Sat.bind (f:=fun f st2=>some (.ok f,st2)) (h FN sc cx C _ ha) hk hP fun f st2 hz J1 g1 s1 f' x1 hf hP1=>?_
 cases hz
 cases hf with
 |ret hv=>exact oj (hP1.ret0 x1.ok (.ret hv))
theorem pw{S:Core}{st st1:St}{k:Nat}{a r:List IS}(h:JB S a st (some (.err k,st1))):JB S (a++r) st (some (.err k,st1)):=by
 intro FN sc cx C x hm J g s Q E hk hP
 obtain⟨xa,xr,rfl,ha,hr⟩:=d7 hm
 rw[ec]
 refine ca ?_
 exact Sat.bind (f:=fun ι ι=>(none:Out AF)) (h FN sc cx C _ ha) hk hP fun f st2 hz=>(by cases hz)
section
variable{B:Base}(st:Bool)
theorem uC(P:PB B){Y:List (Nat×AO)}(hY:Low 6100 Y){n m:Nat}{row:List Fl}{V:Sig}(pre post:List It)(it:It)(hj:pre.length<4)(hrow:row.length<4)(hr:itR it=true)(hit:gx it=true)(h:n8 (aV row pre.length)=false):
  Turns (CO B) el rBody 6210 (m+1) ⟨6340,none,20,vx st V n pre.length it (aK row) (aA 0 pre++(aA (pre.length+1) post++Y)),fh (.ref 6300)⟩ (o8 st n (aK row) (IL n++(aA 0 (pre++it::post)++Y)) (dz row (it::post) pre.length V)):=by
 have hZ:Low 6100 (aA 0 pre++(aA (pre.length+1) post++Y)):=((aE _ _).mono (by decide)).app (((aE _ _).mono (by decide)).app hY)
 have hall:=aw pre post it
 have jT:=E9 st P (n:=n) (V:=V) hj hrow hZ hr h
 rw[qU hit h,lK]
 cases st with
 |true=>
  refine .ret (gA P _) (jj (JB.post (B:=B) jT (aB fun a=>?_)))
  rw[hall];exact aF [] [_,_,_,_,_,_,_] (.r [0,1,2] (.a (.r [3,4] (.l 5)) (.l 6))) (.a (.r [0] (.l 1)) (.r [4,2,3,5] (.l 6))) rfl _
 |false=>
  refine .err (gA P _) (pw (JB.post (B:=B) (l':=jm 6950 .f43++(RG++(MG 6900 V++(IL n++(aA 0 (pre++it::post)++Y))))) jT (aB fun a=>?_))) rfl
  rw[hall];exact aF [] [_,_,_,_,_,_,_,_] (.r [0,1,2,3] (.a (.r [4,5] (.l 6)) (.l 7))) (.a (.a (.r [0] (.l 1)) (.l 2)) (.r [5,3,4,6] (.l 7))) rfl _
theorem wu(P:PB B){Y:List (Nat×AO)}(hY:Low 6100 Y){n:Nat}(hn:n<=4){row:List Fl}(hrow:row.length<4):∀(post:List It) (pre:List It) (it:It) (V:Sig),n=pre.length+(post.length+1)->itR it=true->(∀i∈post,itR i=true)->gx it=true->
  Turns (CO B) el rBody 6210 (post.length+2) ⟨6340,none,20,vx st V n pre.length it (aK row) (aA 0 pre++(aA (pre.length+1) post++Y)),fh (.ref 6300)⟩ (o8 st n (aK row) (IL n++(aA 0 (pre++it::post)++Y)) (dz row (it::post) pre.length V)):=by
 intro post
 induction post with
 |nil=>
  intro pre it V hlen hr hrs hit
  have hj:pre.length<4:=Dv hlen hn
  cases hf:n8 (aV row pre.length) with
  |false=>exact uC st P hY pre [] it hj hrow hr hit hf
  |true=>
   have hZ:Low 6100 (aA 0 pre++(aA (pre.length+1) []++Y)):=((aE _ _).mono (by decide)).app (((aE _ _).mono (by decide)).app hY)
   have hall:=aw pre [] it
   have hn':n=pre.length+1:=by simpa using hlen
   have jT:=GE st P (n:=n) (V:=V) hj hrow hZ hr hf
   have jS:=GF st P (n:=n) (j:=pre.length) (f:=aV row pre.length) (t:=aK row) (V:=V) hZ hr hit
   have hX:Low 6400 (MG 6370 (bC V it (aV row pre.length))++(cQ (pre.length+1) (aK row)++(ai st++(aG (ib pre.length) it++(aA 0 pre++Y))))):=(qf _).app (((bl _ _).mono (by decide)).app (((aX st).mono (by decide)).app (((aW _ _).mono (by decide)).app (((aE _ _).mono (by decide)).app (hY.mono (by decide))))))
   have jN:JS (CO B) bA ⟨6400,none,20,(bK ((pre.length:Int)+1)++(IL (pre.length+1)++RG))++(MG 6370 (bC V it (aV row pre.length))++(cQ (pre.length+1) (aK row)++(ai st++(aG (ib pre.length) it++(aA 0 pre++Y))))),oK⟩ _:=GD P (n:=pre.length+1) (by omega) hX
   subst hn'
   have jN2:=JS.post_sub (B:=B) (JS.pre (l:=(RG++MG 6370 (bC V it (aV row pre.length)))++(cQ (pre.length+1) (aK row)++(aG (ib pre.length) it++(ai st++(bK ((pre.length:Int)+1)++(IL (pre.length+1)++(aA 0 pre++(aA (pre.length+1) []++Y)))))))) jN (aB fun a=>by
    exact aF [] [_,_,_,_,_,_,_,_,_] (.a (.r [0,1] (.l 2)) (.r [3,4,5,6,7] (.l 8))) (.a (.r [2] (.l 3)) (.r [4,6,5,0,1,7] (.a .n (.l 8)))) rfl _)) (l':=MG 6370 (bC V it (aV row pre.length))++(cQ (pre.length+1) (aK row)++(ai st++(RG++(IL (pre.length+1)++(aA 0 (pre++ [it])++Y)))))) (l2:=oJ) (aB fun a=>by
    rw[hall];exact aF [] [_,_,_,_,_,_,_,_,_] (.a (.r [0,1,2,3,4] (.a (.r [5,6] .n) (.l 7))) (.l 8)) (.a (.r [8,4] (.l 3)) (.r [0,1,2,6,5] (.l 7))) rfl _)
   obtain⟨f,W,hf2⟩:=qR (B:=B) 6400 6370 (.inr ⟨rfl,rfl⟩) (bC V it (aV row pre.length)) (X:=cQ (pre.length+1) (aK row)++(ai st++(RG++(IL (pre.length+1)++(aA 0 (pre++ [it])++Y)))))
    (((bl _ _).mono (by decide)).app (((aX st).mono (by decide)).app ((low_RG.mono (by decide)).app (((aS _).mono (by decide)).app (((aE _ _).mono (by decide)).app (hY.mono (by decide)))))))
   refine .next (gA P _) (by rw[lK];exact ba jT (aN jS (aN jN2 c5))) W hf2 ?_
   rw[o9 hit hf]
   refine .stop ?_
   have hs:=qS P (B:=B) (MG 6320 (bC V it (aV row pre.length))++(cQ (pre.length+1) (aK row)++(ai st++(RG++(IL (pre.length+1)++(aA 0 (pre++ [it])++Y))))))
   refine fun FN sc cx C x hm=>Sat.after (S:=⟨CO B,FN⟩) (rv:=fun ι b=>b) (fun ι ι ι ι h=>h) (hs FN sc cx C x hm) (.ok (a9 (S:=CO B) (st:=⟨6340,none,20,MG 6320 (bC V it (aV row pre.length))++(cQ (pre.length+1) (aK row)++(ai st++(RG++(IL (pre.length+1)++(aA 0 (pre++ [it])++Y))))),fh .none⟩) (aB fun a=>?_)) (fun ι ι=>rfl) rfl)
   simp only[xz];ac_rfl
 |cons it2 post ih=>
  intro pre it V hlen hr hrs hit
  have hj:pre.length<4:=Dv hlen hn
  have hj2:pre.length+1<n:=Ft (m:=post.length) hlen
  have hr2:=hrs it2 (.head _)
  cases hf:n8 (aV row pre.length) with
  |false=>exact uC st P hY pre (it2::post) it hj hrow hr hit hf
  |true=>
   have hZ:Low 6100 (aA 0 pre++(aA (pre.length+1) (it2::post)++Y)):=((aE _ _).mono (by decide)).app (((aE _ _).mono (by decide)).app hY)
   have hall:=aw pre (it2::post) it
   have jT:=GE st P (n:=n) (V:=V) hj hrow hZ hr hf
   have jS:=GF st P (n:=n) (j:=pre.length) (f:=aV row pre.length) (t:=aK row) (V:=V) hZ hr hit
   rw[o9 hit hf]
   cases hit2:gx it2 with
   |true=>
    have hX:Low 6400 (MG 6370 (bC V it (aV row pre.length))++(cQ (pre.length+1) (aK row)++(ai st++(aG (ib pre.length) it++(aA 0 pre++(aA (pre.length+1+1) post++Y)))))):=(qf _).app (((bl _ _).mono (by decide)).app (((aX st).mono (by decide)).app (((aW _ _).mono (by decide)).app (((aE _ _).mono (by decide)).app (((aE _ _).mono (by decide)).app (hY.mono (by decide)))))))
    have jN:JS (CO B) bA ⟨6400,none,20,aG (ib (pre.length+1)) it2++bK ((pre.length:Int)+1)++(IL n++RG)++(MG 6370 (bC V it (aV row pre.length))++(cQ (pre.length+1) (aK row)++(ai st++(aG (ib pre.length) it++(aA 0 pre++(aA (pre.length+1+1) post++Y)))))),oK⟩ (some (.ok .next,⟨6400+10,none,20,(cw 6400 (ib (pre.length+1)) it2++aG (ib (pre.length+1)) it2++bK (((pre.length+1:Nat):Int)+1)++(IL n++RG))++(MG 6370 (bC V it (aV row pre.length))++(cQ (pre.length+1) (aK row)++(ai st++(aG (ib pre.length) it++(aA 0 pre++(aA (pre.length+1+1) post++Y)))))),fh (.ref 6400)⟩)):=
     GH P (n:=n) (j:=pre.length+1) hj2 hn hX hr2 hit2
    have jN2:=JS.post (B:=B) (JS.pre (l:=(RG++MG 6370 (bC V it (aV row pre.length)))++(cQ (pre.length+1) (aK row)++(aG (ib pre.length) it++(ai st++(bK ((pre.length:Int)+1)++(IL n++(aA 0 pre++(aA (pre.length+1) (it2::post)++Y)))))))) jN (aB fun a=>by
     exact aF [] [_,_,_,_,_,_,_,_,_,_,_] (.a (.a (.r [0] (.l 1)) (.r [2] (.l 3))) (.r [4,5,6,7,8,9] (.l 10))) (.a (.r [3] (.l 4)) (.r [5,7,6,1,2,8] (.a (.r [0] (.l 9)) (.l 10)))) rfl _)) (l':=(cw 6400 (ib (pre.length+1)) it2++MG 6370 (bC V it (aV row pre.length)))++(aG (ib (pre.length+1)) it2++(cQ (pre.length+1) (aK row)++(ai st++(bK (((pre.length+1:Nat):Int)+1)++(IL n++(RG++(aA 0 (pre++ [it])++(aA (pre.length+1+1) post++Y))))))))) (aB fun a=>by
     rw[aw pre [] it];exact aF [] [_,_,_,_,_,_,_,_,_,_,_,_] (.a (.r [0] (.l 1)) (.r [2,3,4,5,6,7] (.a (.r [8,9] .n) (.r [10] (.l 11))))) (.a (.a (.a (.r [0] (.l 2)) (.l 5)) (.r [6] (.l 7))) (.r [1,3,4,9,8,10] (.l 11))) rfl _)
    obtain⟨f,W,hf2⟩:=tr (B:=B) 6400 6370 (.inr ⟨rfl,rfl⟩) (pre.length+1) (sw hj2 hn) it2 hr2 (bC V it (aV row pre.length)) (X:=aG (ib (pre.length+1)) it2++(cQ (pre.length+1) (aK row)++(ai st++(bK (((pre.length+1:Nat):Int)+1)++(IL n++(RG++(aA 0 (pre++ [it])++(aA (pre.length+1+1) post++Y))))))))
     (Low.mono (((aW _ _).mono (by decide)).app ((bl _ _).app ((aX st).app ((bk _).app (((aS _).mono (by decide)).app ((low_RG.mono (by decide)).app (((aE _ _).mono (by decide)).app (((aE _ _).mono (by decide)).app hY)))))))) (by decide))
    refine .next (gA P _) (by rw[lK];exact ba jT (aN jS (aN jN2 c5))) (W.reorder (l':=vx st (bC V it (aV row pre.length)) n (pre.length+1) it2 (aK row) (aA 0 (pre++ [it])++(aA (pre.length+1+1) post++Y))) (aB fun a=>by unfold vx;exact aF [] [_,_,_,_,_,_,_,_,_,_,_] (.r [0,1,2,3,4,5,6,7,8,9] (.l 10)) (.a (.r [0] (.l 7)) (.r [1,2,3,4,5,6,8,9] (.l 10))) rfl _)) hf2 ?_
    have hT:=ih (pre++ [it]) it2 (bC V it (aV row pre.length)) (by rw[Hv];exact Fq (m:=post.length) hlen) hr2 (fun i hi=>hrs i (.tail _ hi)) hit2
    rw[H1] at hT
    rw[show(pre++ [it]).length=pre.length+1 by simp] at hT
    exact hT
   |false=>
    have hX:Low 6200 (cQ (pre.length+1) (aK row)++(ai st++(aG (ib pre.length) it++(aA 0 pre++(aA (pre.length+1+1) post++Y))))):=((bl _ _).mono (by decide)).app (((aX st).mono (by decide)).app (((aW _ _).mono (by decide)).app (((aE _ _).mono (by decide)).app (((aE _ _).mono (by decide)).app (hY.mono (by decide))))))
    have jN:JS (CO B) bA ⟨6400,none,20,(aG (ib (pre.length+1)) it2++bK ((pre.length:Int)+1)++(IL n++RG)++MG 6370 (bC V it (aV row pre.length)))++(cQ (pre.length+1) (aK row)++(ai st++(aG (ib pre.length) it++(aA 0 pre++(aA (pre.length+1+1) post++Y))))),oK⟩ _:=
     CK P (n:=n) (j:=pre.length+1) hj2 hn hX hit2
    have jN2:=JS.post_sub (B:=B) (JS.pre (l:=(RG++MG 6370 (bC V it (aV row pre.length)))++(cQ (pre.length+1) (aK row)++(aG (ib pre.length) it++(ai st++(bK ((pre.length:Int)+1)++(IL n++(aA 0 pre++(aA (pre.length+1) (it2::post)++Y)))))))) jN (aB fun a=>by
     exact aF [] [_,_,_,_,_,_,_,_,_,_,_] (.a (.a (.a (.r [0] (.l 1)) (.r [2] (.l 3))) (.l 4)) (.r [5,6,7,8,9] (.l 10))) (.a (.r [3] (.l 4)) (.r [5,7,6,1,2,8] (.a (.r [0] (.l 9)) (.l 10)))) rfl _)) (l':=jm 6950 (pK it2)++(RG++(MG 6900 (bC V it (aV row pre.length))++(IL n++(aA 0 (pre++it::it2::post)++Y))))) (l2:=cQ (pre.length+1) (aK row)++ai st) (aB fun a=>by
     rw[hall];exact aF [] [_,_,_,_,_,_,_,_,_,_,_] (.a (.r [0,1,2,3] (.a (.r [4,5,6] (.l 7)) (.l 8))) (.r [9] (.l 10))) (.a (.a (.a (.r [0] (.l 6)) (.r [3] (.l 1))) (.l 2)) (.r [9,10,5,4,7] (.l 8))) rfl _)
    rw[lL hit2]
    exact .err (gA P _) (by rw[lK];exact ba jT (aN jS (c6 jN2))) rfl
end
set_option genCtorIdx true in
inductive Tk where
 |t0|t1|t2
noncomputable def Tk.n:Tk->Nat
 | .t0=>0| .t1=>1| .t2=>2
section
variable{B:Base}(st:Bool)
noncomputable def wA(st:Bool)(n:Nat)(Z:List (Nat×AO)):RR->Out AF
 | .fin V=>some (.ok (.ret (.int 4 0)),⟨7000,none,20,RG++(MG 6900 (σF st V)++Z),[]⟩)
 |w=>o8 st n ⟨#[]⟩ Z w
theorem qT(n:Nat)(t:Str)(Z:List (Nat×AO)):∀w,nq (o8 st n t Z w)=o8 st n t Z w
 | .fin V=>rfl
 | .own V=>by cases st<;>rfl
 | .bad f V=>rfl
theorem uB(P:PB B){n:Nat}{V:Sig}{t:Str}{Z:List (Nat×AO)}(hn:n<5)(hZ:Low 6100 Z):
  JB (CO B) (b_do_read.drop 5) ⟨6340,none,20,cQ n t++(ai st++(RG++(MG 6320 V++Z))),fh .none⟩ (wA st n Z (.fin V)):=by
 have e:=E5 (B:=B) st V Z t n hn
 unfold E6 at e
 refine JB.post (B:=B) (JB.pre (jb P 60 6324 [2004] rfl (hZ.mono (by decide)) e) (aB fun a=>?_)) (aB fun a=>?_)
 ·exact aF [] [_,_,_,_,_] (.a (.a (.a (.r [0] (.l 1)) (.l 2)) (.l 3)) (.l 4)) (.r [0,1,2,3] (.l 4)) rfl _
 ·exact aF [] [_,_,_] (.r [0,1] (.l 2)) (.a (.r [0] (.l 1)) (.l 2)) rfl _
theorem nA:b_do_read=b_do_read.take 3++(bA:: .while_ el rBody::b_do_read.drop 5):=rfl
theorem tq(P:PB B){n:Nat}{t:Str}{Z:List (Nat×AO)}{w:RR}{s0:St}(hn:n<5)(hZ:Low 6100 Z)(h:JS (CO B) (.while_ el rBody) s0 (o8 st n t Z w)):
  JB (CO B) (.while_ el rBody::b_do_read.drop 5) s0 (wA st n Z w):=by
 cases w with
 |fin V=>exact aN h (uB st P hn hZ)
 |own V=>cases st with
  |true=>exact bZ h
  |false=>exact c6 h
 |bad f V=>exact c6 h
theorem uA(P:PB B){V:Sig}{row:List Fl}{Y:List (Nat×AO)}{its:List It}(hn:its.length<=4)(hrow:row.length<4)(hr:∀i∈its,itR i=true)(hY:Low 6100 Y):
  JB (CO B) (bA:: .while_ el rBody::b_do_read.drop 5) ⟨6200,none,20,ai st++(cQ 0 (aK row)++(bK 0++(RG++(MG 5090 V++(IL its.length++(aA 0 its++Y)))))),oK⟩ (wA st its.length (IL its.length++(aA 0 its++Y)) (dz row its 0 V)):=by
 have hI:Low 6100 (IL its.length++(aA 0 its++Y)):=((aS _).mono (by decide)).app (((aE _ _).mono (by decide)).app hY)
 cases its with
 |nil=>
  have hX:Low 6200 (ai st++(cQ 0 (aK row)++(MG 5090 V++(aA 0 []++Y)))):=((aX st).mono (by decide)).app (((bl _ _).mono (by decide)).app (((bw V).mono (by decide)).app (((aE [] 0).mono (by decide)).app (hY.mono (by decide)))))
  have jN:JS (CO B) bA ⟨6200,none,20,(bK 0++(IL 0++RG))++(ai st++(cQ 0 (aK row)++(MG 5090 V++(aA 0 []++Y)))),oK⟩ _:=GD P (n:=0) (by decide) hX
  refine aN (JS.post_sub (B:=B) (JS.pre jN (aB fun a=>?_)) (l':=MG 5090 V++(cQ 0 (aK row)++(ai st++(RG++(IL 0++(aA 0 []++Y)))))) (l2:=oJ) (aB fun a=>?_)) (tq st P (t:=aK row) (by decide) hI ?_)
  ·simp only[xz,Hx];ac_rfl
  ·exact aF [] [_,_,_,_,_,_,_,_] (.a (.r [0,1,2,3,4,5] (.l 6)) (.l 7)) (.a (.r [7,4] (.l 3)) (.r [2,1,0,5] (.l 6))) rfl _
  ·obtain⟨f,W,hf⟩:=qR (B:=B) 6200 5090 (.inl ⟨rfl,rfl⟩) V (X:=cQ 0 (aK row)++(ai st++(RG++(IL 0++(aA 0 []++Y)))))
    (((bl _ _).mono (by decide)).app (((aX st).mono (by decide)).app ((low_RG.mono (by decide)).app (((aS _).mono (by decide)).app (((aE _ _).mono (by decide)).app (hY.mono (by decide)))))))
   have:=gZ (W.reorder (l':=cQ 0 (aK row)++(ai st++(RG++(MG 6320 V++(IL 0++(aA 0 []++Y)))))) (aB fun a=>by exact aF [] [_,_,_,_,_,_,_] (.r [0,1,2,3,4,5] (.l 6)) (.r [3,0,1,2,4,5] (.l 6)) rfl _)) hf (c:=el) (b:=rBody) (n:=1) (.stop (qS P _))
   rwa [show(some (Res.ok AF.next,_):Out AF)=o8 st 0 (aK row) (IL 0++(aA 0 []++Y)) (.fin V) from rfl,qT] at this
 |cons it post=>
  have hr1:=hr it (.head _)
  cases hit:gx it with
  |true=>
   have hZ:Low 6200 (ai st++(cQ 0 (aK row)++(MG 5090 V++(aA (0+1) post++Y)))):=((aX st).mono (by decide)).app (((bl _ _).mono (by decide)).app (((bw V).mono (by decide)).app (((aE _ _).mono (by decide)).app (hY.mono (by decide)))))
   have jN:JS (CO B) bA ⟨6200,none,20,aG (ib 0) it++bK 0++(IL (it::post).length++RG)++(ai st++(cQ 0 (aK row)++(MG 5090 V++(aA (0+1) post++Y)))),oK⟩ _:=GH (B:=B) P (n:=(it::post).length) (j:=0) (it:=it) (by simp) hn hZ hr1 hit
   refine aN (JS.post (B:=B) (JS.pre jN (aB fun a=>?_)) (l':=(cw (nb 0) (ib 0) it++MG 5090 V)++(aG (ib 0) it++(cQ 0 (aK row)++(ai st++(bK (((0:Nat):Int)+1)++(IL (it::post).length++(RG++(aA 0 []++(aA (0+1) post++Y))))))))) (aB fun a=>?_)) (tq st P (t:=aK row) (by simp at hn⊢;omega) hI ?_)
   ·exact aF [] [_,_,_,_,_,_,_,_,_] (.a (.a (.r [0] (.l 1)) (.r [2] (.l 3))) (.r [4,5,6,7] (.l 8))) (.r [4,5,1,3,6,2] (.a (.r [0] (.l 7)) (.l 8))) rfl _
   ·exact aF [] [_,_,_,_,_,_,_,_,_,_] (.a (.r [0] (.l 1)) (.r [2,3,4,5,6,7] (.a .n (.r [8] (.l 9))))) (.a (.a (.a (.r [0] (.l 2)) (.l 5)) (.r [6] (.l 7))) (.r [4,3,1,8] (.l 9))) rfl _
   ·obtain⟨f,W,hf⟩:=tr (B:=B) 6200 5090 (.inl ⟨rfl,rfl⟩) 0 (by decide) it hr1 V (X:=aG (ib 0) it++(cQ 0 (aK row)++(ai st++(bK (((0:Nat):Int)+1)++(IL (it::post).length++(RG++(aA 0 []++(aA (0+1) post++Y))))))))
     (((aW _ _).mono (by decide)).app (((bl _ _).mono (by decide)).app (((aX st).mono (by decide)).app (((bk _).mono (by decide)).app (((aS _).mono (by decide)).app ((low_RG.mono (by decide)).app (((aE _ _).mono (by decide)).app (((aE _ _).mono (by decide)).app (hY.mono (by decide))))))))))
    have hT:=wu (B:=B) st P hY hn hrow post [] it V (by simp) hr1 (fun i hi=>hr i (.tail _ hi)) hit
    have:=gZ (W.reorder (l':=vx st V (it::post).length 0 it (aK row) (aA 0 []++(aA (0+1) post++Y))) (aB fun a=>by unfold vx;exact aF [] [_,_,_,_,_,_,_,_,_,_,_] (.r [0,1,2,3,4,5,6,7,8,9] (.l 10)) (.a (.r [0] (.l 7)) (.r [1,2,3,4,5,6,8,9] (.l 10))) rfl _)) hf (c:=el) (b:=rBody) hT
    rwa [qT] at this
  |false=>
   rw[lL hit]
   have hZ2:Low 6200 (ai st++(cQ 0 (aK row)++(aA (0+1) post++Y))):=((aX st).mono (by decide)).app (((bl _ _).mono (by decide)).app (((aE _ _).mono (by decide)).app (hY.mono (by decide))))
   have jN:JS (CO B) bA ⟨6200,none,20,(aG (ib 0) it++bK 0++(IL (it::post).length++RG)++MG 5090 V)++(ai st++(cQ 0 (aK row)++(aA (0+1) post++Y))),oK⟩ _:=CK (B:=B) P (n:=(it::post).length) (j:=0) (it:=it) (by simp) hn hZ2 hit
   refine c6 (JS.after (JS.post_sub (B:=B) (JS.pre jN (aB fun a=>?_)) (l':=jm 6950 (pK it)++(RG++(MG 6900 V++(IL (it::post).length++(aA 0 (it::post)++Y))))) (l2:=cQ 0 (aK row)++ai st) (aB fun a=>?_)) (j0 (n0:=6200) rfl rfl (by decide) ?_))
   ·exact aF [] [_,_,_,_,_,_,_,_,_] (.a (.a (.a (.r [0] (.l 1)) (.r [2] (.l 3))) (.l 4)) (.r [5,6,7] (.l 8))) (.r [5,6,1,3,4,2] (.a (.r [0] (.l 7)) (.l 8))) rfl _
   ·exact aF [] [_,_,_,_,_,_,_,_,_] (.a (.r [0,1,2,3] (.a (.r [4] (.l 5)) (.l 6))) (.r [7] (.l 8))) (.a (.a (.a (.r [0] (.l 4)) (.r [3] (.l 1))) (.l 2)) (.r [8,7,5] (.l 6))) rfl _
   ·exact(low_RG.mono (by decide)).app ((aJ (by rfl:bU 6910 (MG 6900 V)=true)).app (((aS _).mono (by decide)).app (((aE _ _).mono (by decide)).app (hY.mono (by decide)))))
noncomputable def CG(st:Bool)(V:Sig)(its:List It)(r0 r1:List Fl)(outs:List Str):Tk->Out AF
 | .t0=>wA st its.length (IL its.length++(aA 0 its++YY 1 (aK r0) (aK r1) outs)) (dz r0 its 0 V)
 | .t1=>wA st its.length (IL its.length++(aA 0 its++YY 2 (aK r0) (aK r1) outs)) (dz r1 its 0 V)
 | .t2=>match st with
  |true=>some (.ok (.ret (.int 4 0)),⟨7000,none,20,RG++(MG 6900 (VS V (-1))++(IL its.length++(aA 0 its++YY 2 (aK r0) (aK r1) outs))),[]⟩)
  |false=>some (.err 6950,⟨7001,none,20,pz 6950 7000 .fI++(RG++(MG 6900 V++(IL its.length++(aA 0 its++YY 2 (aK r0) (aK r1) outs)))),[]⟩)
theorem lz(P:PB B){V:Sig}{its:List It}{r0 r1:List Fl}{outs:List Str}(hn:its.length<=4)(h0:r0.length<4)(h1:r1.length<4)(hr:∀i∈its,itR i=true)(tk:Tk):
  JB (CO B) b_do_read ⟨6010,none,20,dg st "read"++(RG++(MG 5090 V++(IL its.length++(aA 0 its++YY (tk.n:Int) (aK r0) (aK r1) outs)))),zI⟩ (CG st V its r0 r1 outs tk):=by
 have hX:Low 5100 (MG 5090 V++(IL its.length++(aA 0 its++(OU outs++ZG)))):=(aJ (by rfl:bU 5100 (MG 5090 V)=true)).app ((aS _).app ((aE _ _).app ((lZ outs).app (aJ (by rfl:bU 5100 ZG=true)))))
 have hX2:Low 5100 (IL its.length++(aA 0 its++(OU outs++ZG))):=(aS _).app ((aE _ _).app ((lZ outs).app (aJ (by rfl:bU 5100 ZG=true))))
 have hb:=ww (B:=B) P st (aK r0) (aK r1) (hX.mono (by decide))
 cases tk with
 |t0=>
  rw[nA]
  have hp:=JB.pre (l:=dg st "read"++(RG++(MG 5090 V++(IL its.length++(aA 0 its++YY 0 (aK r0) (aK r1) outs))))) hb.1 (aB fun a=>by unfold YY;exact aF [] [_,_,_,_,_,_,_,_,_,_] (.a (.a (.a (.a (.r [0] (.l 1)) (.l 2)) (.l 3)) (.l 4)) (.r [5,6,7,8] (.l 9))) (.r [0,1,5,6,7,2,3,4,8] (.l 9)) rfl _)
  refine ba (JB.post (B:=B) hp (l':=ai st++(cQ 0 (aK r0)++(bK 0++(RG++(MG 5090 V++(IL its.length++(aA 0 its++YY 1 (aK r0) (aK r1) outs))))))) (aB fun a=>?_)) (uA st P hn h0 hr ((dT _ _ _ _).mono (by decide)))
  unfold YY;exact aF [] [_,_,_,_,_,_,_,_,_,_,_,_] (.r [0,1,2,3,4,5,6,7,8,9,10] (.l 11)) (.a (.a (.a (.a (.a (.a (.r [0] (.l 1)) (.l 2)) (.l 3)) (.l 7)) (.l 8)) (.l 9)) (.r [4,5,6,10] (.l 11))) rfl _
 |t1=>
  rw[nA]
  have hp:=JB.pre (l:=dg st "read"++(RG++(MG 5090 V++(IL its.length++(aA 0 its++YY 1 (aK r0) (aK r1) outs))))) hb.2 (aB fun a=>by unfold YY;exact aF [] [_,_,_,_,_,_,_,_,_,_] (.a (.a (.a (.a (.r [0] (.l 1)) (.l 2)) (.l 3)) (.l 4)) (.r [5,6,7,8] (.l 9))) (.r [0,1,5,6,7,2,3,4,8] (.l 9)) rfl _)
  refine ba (JB.post (B:=B) hp (l':=ai st++(cQ 0 (aK r1)++(bK 0++(RG++(MG 5090 V++(IL its.length++(aA 0 its++YY 2 (aK r0) (aK r1) outs))))))) (aB fun a=>?_)) (uA st P hn h1 hr ((dT _ _ _ _).mono (by decide)))
  unfold YY;exact aF [] [_,_,_,_,_,_,_,_,_,_,_,_] (.r [0,1,2,3,4,5,6,7,8,9,10] (.l 11)) (.a (.a (.a (.a (.a (.a (.r [0] (.l 1)) (.l 2)) (.l 3)) (.l 7)) (.l 8)) (.l 9)) (.r [4,5,6,10] (.l 11))) rfl _
 |t2=>
  have he:=CJ (B:=B) P st V (aK r0) (aK r1) (hX2.mono (by decide:5100<=6010))
  have hp:=JB.pre (l:=dg st "read"++(RG++(MG 5090 V++(IL its.length++(aA 0 its++YY 2 (aK r0) (aK r1) outs))))) he (aB fun a=>by unfold YY;exact aF [] [_,_,_,_,_,_,_,_,_,_] (.a (.a (.a (.a (.a (.r [0] (.l 1)) (.l 2)) (.l 3)) (.l 4)) (.l 5)) (.r [6,7,8] (.l 9))) (.r [0,1,2,6,7,3,4,5,8] (.l 9)) rfl _)
  cases st with
  |true=>exact JB.post (B:=B) hp (aB fun a=>by unfold YY;exact aF [] [_,_,_,_,_,_,_,_,_] (.r [0,1,2,3,4,5,6,7] (.l 8)) (.a (.a (.a (.a (.r [0] (.l 1)) (.l 4)) (.l 5)) (.l 6)) (.r [2,3,7] (.l 8))) rfl _)
  |false=>
   refine JB.after (JB.post (B:=B) (l':=jm 6950 .fI++(RG++(MG 6900 V++(IL its.length++(aA 0 its++YY 2 (aK r0) (aK r1) outs))))) hp (aB fun a=>by unfold YY;exact aF [] [_,_,_,_,_,_,_,_,_,_] (.r [0,1,2,3,4,5,6,7,8] (.l 9)) (.a (.a (.a (.a (.a (.r [0] (.l 1)) (.l 2)) (.l 5)) (.l 6)) (.l 7)) (.r [3,4,8] (.l 9))) rfl _)) (j0 (n0:=6010) rfl rfl (by decide) ?_)
   exact(low_RG.mono (by decide)).app ((aJ (by rfl:bU 6910 (MG 6900 V)=true)).app (((aS _).mono (by decide)).app (((aE _ _).mono (by decide)).app ((dT _ _ _ _).mono (by decide)))))
end
noncomputable def C5(n:Nat){α:Type}:Out α->Bool
 |some (_,st)=>gy st.nx n
 |none=>false
section
variable{B:Base}
theorem yT{es:List IE}{F:Fs}{st0:St}{n0 m nx' dp':Nat}{mm:List Nat}{A' X:List (Nat×AO)}{hd':Option Nat}{lo':List (Nat×Value)}{vs2:List Value}(h0:gy 1345 n0=true)(hX:Low n0 X)
  (e:(cD (fun f vs=>vs.map (ren f)) (fun vs=>vs.flatMap tokV) n0 m mm A' X nx' hd' lo' dp' (.ok vs2) (d0 F es st0)).1=(cD (fun f vs=>vs.map (ren f)) (fun vs=>vs.flatMap tokV) n0 m mm A' X nx' hd' lo' dp' (.ok vs2) (d0 F es st0)).2) (e2:C5 n0 (d0 F es st0)=true):
  ∃f st1,d0 F es st0=some (.ok (vs2.map (ren f)),st1)/\Weak (CO B) f st1 ⟨nx',hd',dp',A'++X,lo'⟩/\∀k,k<st1.nx->f k=k:=by
 obtain⟨r,st1,f,e1,W,hf,hr⟩:=sv (S:=CO B) (na (by decide:1340<=1345) (al h0)) (lowG B (al h0)) hX e
 rw[e1] at e2
 subst hr
 exact⟨f,st1,e1,W,fun k hk=>hf k (sw hk (al e2))⟩
theorem dW(P:PB B){f:IE}{es:List IE}{st st0:St}{k n n0 m nx' dp':Nat}{mm:List Nat}{A' X:List (Nat×AO)}{hd':Option Nat}{lo':List (Nat×Value)}{vs2:List Value}{o:Out Value}(hf:JE (CO B) f st (some (.ok (.ref k),st0)))(hk:ll TB (.ref k)=true)(h0:gy 1345 n0=true)(hX:Low n0 X)
  (e:(cD (fun f vs=>vs.map (ren f)) (fun vs=>vs.flatMap tokV) n0 m mm A' X nx' hd' lo' dp' (.ok vs2) (d0 (RN B n) es st0)).1=(cD (fun f vs=>vs.map (ren f)) (fun vs=>vs.flatMap tokV) n0 m mm A' X nx' hd' lo' dp' (.ok vs2) (d0 (RN B n) es st0)).2) (e2:C5 n0 (d0 (RN B n) es st0)=true)
  (hc:CallSat (CO B) k vs2 ⟨nx',hd',dp',A'++X,lo'⟩ o):JE (CO B) (.call f es) st o:=by
 obtain⟨g,st1,e1,W,hg⟩:=yT (B:=B) h0 hX e e2
 exact mU P.TO P.FO P.oo hf hk e1 (CallSat.before hc W hg)
theorem CallSat.pre{k:Nat}{vs:List Value}{nx dp:Nat}{hd:Option Nat}{l l':List (Nat×AO)}{lo:List (Nat×Value)}{o:Out Value}(h:CallSat (CO B) k vs ⟨nx,hd,dp,l',lo⟩ o)(p:l'.Perm l):CallSat (CO B) k vs ⟨nx,hd,dp,l,lo⟩ o:=by
 have:=CallSat.before (f:=id) h (a9 (st:=⟨nx,hd,dp,l,lo⟩) p) fun ι ι=>rfl
 rwa [bc ak] at this
theorem yJ(P:PB B)(st:Bool)(V:Sig){its:List It}{tk:Int}{t0 t1:Str}{outs:List Str}(LB:List (Nat×AO))(hn:its.length<=4)(ho:outs.length<3):
  CallSat (CO B) 1205 [.ref 2000,.ref 6004,.int 3 0,.ref 6003] ⟨6010,none,21,(dg st "write"++(RG++(MG 5090 V++(IL its.length++(aA 0 its++YY tk t0 t1 outs)))))++LB,[]⟩
   (bE LB (ap ⟨6010,none,21,[],[]⟩ (yr st V its.length its tk t0 t1 outs (d8 V its [])))):=by
 have:=bf P.FO (k:=1205) (vs:= [.ref 2000,.ref 6004,.int 3 0,.ref 6003]) (st:=⟨6010,none,21,(dg st "write"++(RG++(MG 5090 V++(IL its.length++(aA 0 its++YY tk t0 t1 outs)))))++LB,[]⟩) (LA:=dg st "write"++(RG++(MG 5090 V++(IL its.length++(aA 0 its++YY tk t0 t1 outs))))) (LB:=LB) (d:=20) (lo:=zI) (fi:=⟨false,[44,112,58,139],[],[],b_do_write⟩) (by kernel_rfl) rfl rfl rfl (jq st V P hn ho)
 exact this
theorem yL(P:PB B)(st:Bool)(V:Sig){its:List It}{r0 r1:List Fl}{outs:List Str}(LB:List (Nat×AO))(hn:its.length<=4)(h0:r0.length<4)(h1:r1.length<4)(hr:∀i∈its,itR i=true)(tk:Tk):
  CallSat (CO B) 1184 [.ref 2000,.ref 6004,.int 3 0,.ref 6003] ⟨6010,none,21,(dg st "read"++(RG++(MG 5090 V++(IL its.length++(aA 0 its++YY (tk.n:Int) (aK r0) (aK r1) outs)))))++LB,[]⟩
   (bE LB (ap ⟨6010,none,21,[],[]⟩ (CG st V its r0 r1 outs tk))):=by
 have:=bf P.FO (k:=1184) (vs:= [.ref 2000,.ref 6004,.int 3 0,.ref 6003]) (st:=⟨6010,none,21,(dg st "read"++(RG++(MG 5090 V++(IL its.length++(aA 0 its++YY (tk.n:Int) (aK r0) (aK r1) outs)))))++LB,[]⟩) (LA:=dg st "read"++(RG++(MG 5090 V++(IL its.length++(aA 0 its++YY (tk.n:Int) (aK r0) (aK r1) outs))))) (LB:=LB) (d:=20) (lo:=zI) (fi:=⟨false,[44,112,58,139],[],[],b_do_read⟩) (by kernel_rfl) rfl rfl rfl (lz st P hn h0 h1 hr tk)
 exact this
noncomputable def hTry:List IS:=match b_l_heard.getD 3 .bad with
 | .try_ b _ _ _=>b
 |_=> []
noncomputable def eH:List IS:=match b_l_heard.getD 3 .bad with
 | .try_ _ _ _ h=>h
 |_=> []
noncomputable def yn:IE:=match hTry.getD 0 .bad with
 | .ret e=>e
 |_=> .bad
noncomputable def qm:IE:=match yn with
 | .call f _=>f
 |_=> .bad
noncomputable def dD:List IE:=match yn with
 | .call _ es=>es
 |_=> []
noncomputable def DT(rd st:Bool):List (Nat×AO):= [(5000,.tup [.bool rd,.bool st,.ref 5001])]
noncomputable def hW(rd:Bool):String:=match rd with
 |true=>"read"
 |false=>"write"
noncomputable def vZ(st:Bool):List (Nat×AO):=match st with
 |true=> [(5101,.sdict [(ag "UNIT",tx "*"),(ag "FMT",tx "*"),(ag "IOSTAT",.ref 5102)]),(5102,.tup [tx "var",.int 0 0,tx "S"])]
 |false=> [(5101,.sdict [(ag "UNIT",tx "*"),(ag "FMT",tx "*")])]
noncomputable def EI:List (Nat×Value):= [(44,.ref 2000),(195,.ref 5000)]
noncomputable def Ds(rd:Bool):List (Nat×Value):= [(44,.ref 2000),(195,.ref 5000),(90,.ref 5101),(67,tx (hW rd))]
theorem xu:b_l_heard=b_l_heard.take 3++ [.try_ [.ret (.call qm dD)] 101 130 eH]:=rfl
theorem xy(P:PB B)(rd st:Bool){X:List (Nat×AO)}(hX:Low 5100 X):JB (CO B) (b_l_heard.take 3) ⟨5100,none,22,DT rd st++X,EI⟩ (some (.ok .next,⟨5110,none,22,(vZ st++DT rd st)++X,Ds rd⟩)):=by
 cases rd<;>cases st<;>exact jb P 60 5000 [] rfl hX (by kernel_rfl)
noncomputable def hK(rd:Bool):Nat:=match rd with
 |true=>1184
 |false=>1205
theorem FP(P:PB B)(rd st:Bool){X:List (Nat×AO)}(hX:Low 5110 X):JE (CO B) qm ⟨5110,none,22,(vZ st++DT rd st)++X,Ds rd⟩ (some (.ok (.ref (hK rd)),⟨5110,none,22,(vZ st++DT rd st)++X,Ds rd⟩)):=by
 cases rd<;>cases st<;>exact je P 60 5000 [] rfl hX (by kernel_rfl)
theorem vH(P:PB B)(rd st:Bool){X:List (Nat×AO)}{o:Out Value}(hX:Low 5110 X)(hc:CallSat (CO B) (hK rd) [.ref 2000,.ref 6004,.int 3 0,.ref 6003] ⟨6010,none,21,(dg st (hW rd)++DT rd st)++X,[]⟩ o):
  JE (CO B) (.call qm dD) ⟨5110,none,22,(vZ st++DT rd st)++X,Ds rd⟩ o:=by
 have hf:=FP P rd st hX
 cases rd<;>cases st
 ·exact dW P (n:=60) (n0:=6000) (m:=5000) (mm:= []) hf (by kernel_rfl) rfl (hX.mono (by decide)) (by kernel_rfl) (by kernel_rfl) hc
 ·exact dW P (n:=60) (n0:=6000) (m:=5000) (mm:= []) hf (by kernel_rfl) rfl (hX.mono (by decide)) (by kernel_rfl) (by kernel_rfl) hc
 ·exact dW P (n:=60) (n0:=6000) (m:=5000) (mm:= []) hf (by kernel_rfl) rfl (hX.mono (by decide)) (by kernel_rfl) (by kernel_rfl) hc
 ·exact dW P (n:=60) (n0:=6000) (m:=5000) (mm:= []) hf (by kernel_rfl) rfl (hX.mono (by decide)) (by kernel_rfl) (by kernel_rfl) hc
end
structure HR where
 out:Option Int
 V:Sig
 tk:Tk
 outs:List Str
noncomputable def Tk.s:Tk->Tk
 | .t0=> .t1|_=> .t2
noncomputable def aq(st:Bool)(V:Sig)(c:Int)(tk:Tk)(outs:List Str):HR:=match st with
 |true=>⟨none,VS V c,tk,outs⟩
 |false=>⟨some c,V,tk,outs⟩
noncomputable def bv(st:Bool)(V:Sig)(tk:Tk)(outs:List Str):WR->HR
 | .fin vs=>⟨none,σF st V,tk,outs++ [bQ vs]⟩
 | .own=>aq st V 41 tk outs
 | .bad f=>⟨some f.code,V,tk,outs⟩
noncomputable def b0(st:Bool)(tk:Tk)(outs:List Str):RR->HR
 | .fin V=>⟨none,σF st V,tk,outs⟩
 | .own V=>aq st V 43 tk outs
 | .bad f V=>⟨some f.code,V,tk,outs⟩
noncomputable def af(d:Deed)(r0 r1:List Fl)(V:Sig)(tk:Tk)(outs:List Str):HR:=match d.rd with
 |false=>bv d.st V tk outs (d8 V d.its [])
 |true=>match tk with
  | .t0=>b0 d.st .t1 outs (dz r0 d.its 0 V)
  | .t1=>b0 d.st .t2 outs (dz r1 d.its 0 V)
  | .t2=>aq d.st V (-1) .t2 outs
noncomputable def j6(d:Deed):Prop:=d.its.length<=4/\(d.rd=true->∀i∈d.its,itR i=true)
section
variable{B:Base}
theorem AR(f:Fa)(X L:List (Nat×AO))(lo:List (Nat×Value)):(cD ah tokF 6910 6951 [] [(7100,.tup [tx "out",.int f.code 0])] X 7200 none [] 21 (.ok (.ret (.ref 7100))) (tryO TB (RN B 60) 101 130 eH ⟨5110,none,22,L,lo⟩ (some (.err 6950,⟨7002,none,21,pz 6950 7001 f++X,[]⟩)))).1=
  (cD ah tokF 6910 6951 [] [(7100,.tup [tx "out",.int f.code 0])] X 7200 none [] 21 (.ok (.ret (.ref 7100))) (tryO TB (RN B 60) 101 130 eH ⟨5110,none,22,L,lo⟩ (some (.err 6950,⟨7002,none,21,pz 6950 7001 f++X,[]⟩)))).2:=by
 cases f<;>kernel_rfl
noncomputable def iO(X:List (Nat×AO))(V:Sig):Option Int->Out AF
 |none=>some (.ok (.ret (.int 4 0)),⟨7200,none,21,RG++(MG 6900 V++X),[]⟩)
 |some c=>some (.ok (.ret (.ref 7100)),⟨7200,none,21,[(7100,.tup [tx "out",.int c 0])]++(RG++(MG 6900 V++X)),[]⟩)
theorem jX(P:PB B){L X:List (Nat×AO)}{lo:List (Nat×Value)}{V:Sig}(h:JE (CO B) (.call qm dD) ⟨5110,none,22,L,lo⟩ (some (.ok (.int 4 0),⟨7000,none,21,RG++(MG 6900 V++X),[]⟩))):
  JS (CO B) (.try_ [.ret (.call qm dD)] 101 130 eH) ⟨5110,none,22,L,lo⟩ (iO X V none):=by
 have h2:=vt P.TO P.FO P.oo (n:=60) (Cc:=101) (m:=130) (h:=eH) (bZ (r:= []) (pv h))
 exact JS.after h2 (.ok (f:=id) (v:=AF.ret (.int 4 0)) (dH (B:=B) (by decide) (by decide)) (fun ι ι=>rfl) rfl)
theorem gO(P:PB B){L X:List (Nat×AO)}{lo:List (Nat×Value)}{V:Sig}{f:Fa}(hX:Low 6910 X)(h:JE (CO B) (.call qm dD) ⟨5110,none,22,L,lo⟩ (some (.err 6950,⟨7002,none,21,pz 6950 7001 f++(RG++(MG 6900 V++X)),[]⟩))):
  JS (CO B) (.try_ [.ret (.call qm dD)] 101 130 eH) ⟨5110,none,22,L,lo⟩ (iO X V (some f.code)):=by
 have h2:=vt P.TO P.FO P.oo (n:=60) (Cc:=101) (m:=130) (h:=eH) (c6 (r:= []) (pv h))
 have hZ:Low 6910 (RG++(MG 6900 V++X)):=(low_RG.mono (by decide)).app ((aJ (by rfl:bU 6910 (MG 6900 V)=true)).app hX)
 exact JS.after h2 (WkO.mono (ku (S:=CO B) (n0:=6910) (by show 1340<=6910;decide) (lowG B (by decide)) hZ (AR f (RG++(MG 6900 V++X)) L lo)) (by show 5110<=6910;decide))
theorem bx(rd st:Bool):Low 5100 (DT rd st):=aI rfl rfl rfl aO
theorem xt(P:PB B)(st:Bool)(V:Sig){its:List It}{tk:Int}{t0 t1:Str}{outs:List Str}(hn:its.length<=4)(ho:outs.length<3){L:List (Nat×AO)}{lo:List (Nat×Value)}
  (hj:∀o,CallSat (CO B) 1205 [.ref 2000,.ref 6004,.int 3 0,.ref 6003] ⟨6010,none,21,(dg st "write"++DT false st)++(RG++(MG 5090 V++(IL its.length++(aA 0 its++YY tk t0 t1 outs)))),[]⟩ o->JE (CO B) (.call qm dD) ⟨5110,none,22,L,lo⟩ o):
  ∀tk',tk=Tk.n tk'->JS (CO B) (.try_ [.ret (.call qm dD)] 101 130 eH) ⟨5110,none,22,L,lo⟩ (iO (IL its.length++(aA 0 its++(YY tk t0 t1 (bv st V tk' outs (d8 V its [])).outs++DT false st))) (bv st V tk' outs (d8 V its [])).V (bv st V tk' outs (d8 V its [])).out):=by
 rintro tk' rfl
 have hc:=hj _ (CallSat.pre (yJ P st V (its:=its) (tk:=(tk'.n:Int)) (t0:=t0) (t1:=t1) (outs:=outs) (DT false st) hn ho) (aB fun a=>by exact aF [] [_,_,_,_,_,_,_] (.a (.r [0,1,2,3,4] (.l 5)) (.l 6)) (.a (.r [0] (.l 6)) (.r [1,2,3,4] (.l 5))) rfl _))
 have hX:∀outs,Low 6910 (IL its.length++(aA 0 its++(YY (tk'.n:Int) t0 t1 outs++DT false st))):=fun outs=>((aS _).mono (by decide)).app (((aE _ _).mono (by decide)).app (((dT _ _ _ _).mono (by decide)).app ((bx _ _).mono (by decide))))
 cases hw:d8 V its [] with
 |fin vs=>
  rw[hw] at hc
  dsimp only[bv,aq]
  refine jX P ?_
  have:bE (DT false st) (ap ⟨6010,none,21,[],[]⟩ (yr st V its.length its (tk'.n:Int) t0 t1 outs (.fin vs)))=some (.ok (.int 4 0),⟨7000,none,21,(RG++(MG 6900 (σF st V)++(IL its.length++(aA 0 its++YY (tk'.n:Int) t0 t1 (outs++ [bQ vs])))))++DT false st,[]⟩):=rfl
  rw[this] at hc
  exact hc.after (au (aB fun a=>by exact aF [] [_,_,_,_,_,_] (.r [0,1,2,3,4] (.l 5)) (.a (.r [0,1,2,3] (.l 4)) (.l 5)) rfl _))
 |own=>
  rw[hw] at hc
  cases st with
  |true=>
   dsimp only[bv,aq]
   refine jX P ?_
   have:bE (DT false true) (ap ⟨6010,none,21,[],[]⟩ (yr true V its.length its (tk'.n:Int) t0 t1 outs .own))=some (.ok (.int 4 0),⟨7000,none,21,(RG++(MG 6900 (VS V 41)++(IL its.length++(aA 0 its++YY (tk'.n:Int) t0 t1 outs))))++DT false true,[]⟩):=rfl
   rw[this] at hc
   exact hc.after (au (aB fun a=>by exact aF [] [_,_,_,_,_,_] (.r [0,1,2,3,4] (.l 5)) (.a (.r [0,1,2,3] (.l 4)) (.l 5)) rfl _))
  |false=>
   dsimp only[bv,aq]
   refine gO P (f:= .f41) (hX _) ?_
   have:bE (DT false false) (ap ⟨6010,none,21,[],[]⟩ (yr false V its.length its (tk'.n:Int) t0 t1 outs .own))=some (.err 6950,⟨7002,none,21,(pz 6950 7001 .f41++(RG++(MG 6900 V++(IL its.length++(aA 0 its++YY (tk'.n:Int) t0 t1 outs)))))++DT false false,[]⟩):=rfl
   rw[this] at hc
   exact hc.after (au (aB fun a=>by exact aF [] [_,_,_,_,_,_,_] (.r [0,1,2,3,4,5] (.l 6)) (.a (.r [0,1,2,3,4] (.l 5)) (.l 6)) rfl _))
 |bad f=>
  rw[hw] at hc
  dsimp only[bv,aq]
  refine gO P (f:=f) (hX _) ?_
  have:bE (DT false st) (ap ⟨6010,none,21,[],[]⟩ (yr st V its.length its (tk'.n:Int) t0 t1 outs (.bad f)))=some (.err 6950,⟨7002,none,21,(pz 6950 7001 f++(RG++(MG 6900 V++(IL its.length++(aA 0 its++YY (tk'.n:Int) t0 t1 outs)))))++DT false st,[]⟩):=rfl
  rw[this] at hc
  exact hc.after (au (aB fun a=>by exact aF [] [_,_,_,_,_,_,_] (.r [0,1,2,3,4,5] (.l 6)) (.a (.r [0,1,2,3,4] (.l 5)) (.l 6)) rfl _))
end
section
variable{B:Base}
theorem ql(P:PB B)(st:Bool){its:List It}{tk:Tk}{t0 t1:Str}{outs:List Str}{w:RR}{L:List (Nat×AO)}{lo:List (Nat×Value)}
  (hc:JE (CO B) (.call qm dD) ⟨5110,none,22,L,lo⟩ (bE (DT true st) (ap ⟨6010,none,21,[],[]⟩ (wA st its.length (IL its.length++(aA 0 its++YY (tk.n:Int) t0 t1 outs)) w)))):
  JS (CO B) (.try_ [.ret (.call qm dD)] 101 130 eH) ⟨5110,none,22,L,lo⟩ (iO (IL its.length++(aA 0 its++(YY ((b0 st tk outs w).tk.n:Int) t0 t1 (b0 st tk outs w).outs++DT true st))) (b0 st tk outs w).V (b0 st tk outs w).out):=by
 have hX:∀outs,Low 6910 (IL its.length++(aA 0 its++(YY (tk.n:Int) t0 t1 outs++DT true st))):=fun outs=>((aS _).mono (by decide)).app (((aE _ _).mono (by decide)).app (((dT _ _ _ _).mono (by decide)).app ((bx _ _).mono (by decide))))
 cases w with
 |fin V=>
  dsimp only[b0,aq]
  refine jX P ?_
  have:bE (DT true st) (ap ⟨6010,none,21,[],[]⟩ (wA st its.length (IL its.length++(aA 0 its++YY (tk.n:Int) t0 t1 outs)) (.fin V)))=some (.ok (.int 4 0),⟨7000,none,21,(RG++(MG 6900 (σF st V)++(IL its.length++(aA 0 its++YY (tk.n:Int) t0 t1 outs))))++DT true st,[]⟩):=rfl
  rw[this] at hc
  exact hc.after (au (aB fun a=>by exact aF [] [_,_,_,_,_,_] (.r [0,1,2,3,4] (.l 5)) (.a (.r [0,1,2,3] (.l 4)) (.l 5)) rfl _))
 |own V=>
  cases st with
  |true=>
   dsimp only[b0,aq]
   refine jX P ?_
   have:bE (DT true true) (ap ⟨6010,none,21,[],[]⟩ (wA true its.length (IL its.length++(aA 0 its++YY (tk.n:Int) t0 t1 outs)) (.own V)))=some (.ok (.int 4 0),⟨7000,none,21,(RG++(MG 6900 (VS V 43)++(IL its.length++(aA 0 its++YY (tk.n:Int) t0 t1 outs))))++DT true true,[]⟩):=rfl
   rw[this] at hc
   exact hc.after (au (aB fun a=>by exact aF [] [_,_,_,_,_,_] (.r [0,1,2,3,4] (.l 5)) (.a (.r [0,1,2,3] (.l 4)) (.l 5)) rfl _))
  |false=>
   dsimp only[b0,aq]
   refine gO P (f:= .f43) (hX _) ?_
   have:bE (DT true false) (ap ⟨6010,none,21,[],[]⟩ (wA false its.length (IL its.length++(aA 0 its++YY (tk.n:Int) t0 t1 outs)) (.own V)))=some (.err 6950,⟨7002,none,21,(pz 6950 7001 .f43++(RG++(MG 6900 V++(IL its.length++(aA 0 its++YY (tk.n:Int) t0 t1 outs)))))++DT true false,[]⟩):=rfl
   rw[this] at hc
   exact hc.after (au (aB fun a=>by exact aF [] [_,_,_,_,_,_,_] (.r [0,1,2,3,4,5] (.l 6)) (.a (.r [0,1,2,3,4] (.l 5)) (.l 6)) rfl _))
 |bad f V=>
  dsimp only[b0,aq]
  refine gO P (f:=f) (hX _) ?_
  have:bE (DT true st) (ap ⟨6010,none,21,[],[]⟩ (wA st its.length (IL its.length++(aA 0 its++YY (tk.n:Int) t0 t1 outs)) (.bad f V)))=some (.err 6950,⟨7002,none,21,(pz 6950 7001 f++(RG++(MG 6900 V++(IL its.length++(aA 0 its++YY (tk.n:Int) t0 t1 outs)))))++DT true st,[]⟩):=rfl
  rw[this] at hc
  exact hc.after (au (aB fun a=>by exact aF [] [_,_,_,_,_,_,_] (.r [0,1,2,3,4,5] (.l 6)) (.a (.r [0,1,2,3,4] (.l 5)) (.l 6)) rfl _))
theorem xw(P:PB B)(st:Bool){its:List It}{r0 r1:List Fl}{outs:List Str}{V:Sig}{L:List (Nat×AO)}{lo:List (Nat×Value)}
  (hc:JE (CO B) (.call qm dD) ⟨5110,none,22,L,lo⟩ (bE (DT true st) (ap ⟨6010,none,21,[],[]⟩ (CG st V its r0 r1 outs .t2)))):
  JS (CO B) (.try_ [.ret (.call qm dD)] 101 130 eH) ⟨5110,none,22,L,lo⟩ (iO (IL its.length++(aA 0 its++(YY 2 (aK r0) (aK r1) outs++DT true st))) (aq st V (-1) .t2 outs).V (aq st V (-1) .t2 outs).out):=by
 have hX:Low 6910 (IL its.length++(aA 0 its++(YY 2 (aK r0) (aK r1) outs++DT true st))):=((aS _).mono (by decide)).app (((aE _ _).mono (by decide)).app (((dT _ _ _ _).mono (by decide)).app ((bx _ _).mono (by decide))))
 cases st with
 |true=>
  dsimp only[aq]
  refine jX P ?_
  have:bE (DT true true) (ap ⟨6010,none,21,[],[]⟩ (CG true V its r0 r1 outs .t2))=some (.ok (.int 4 0),⟨7000,none,21,(RG++(MG 6900 (VS V (-1))++(IL its.length++(aA 0 its++YY 2 (aK r0) (aK r1) outs))))++DT true true,[]⟩):=rfl
  rw[this] at hc
  exact hc.after (au (aB fun a=>by exact aF [] [_,_,_,_,_,_] (.r [0,1,2,3,4] (.l 5)) (.a (.r [0,1,2,3] (.l 4)) (.l 5)) rfl _))
 |false=>
  dsimp only[aq]
  refine gO P (f:= .fI) hX ?_
  have:bE (DT true false) (ap ⟨6010,none,21,[],[]⟩ (CG false V its r0 r1 outs .t2))=some (.err 6950,⟨7002,none,21,(pz 6950 7001 .fI++(RG++(MG 6900 V++(IL its.length++(aA 0 its++YY 2 (aK r0) (aK r1) outs)))))++DT true false,[]⟩):=rfl
  rw[this] at hc
  exact hc.after (au (aB fun a=>by exact aF [] [_,_,_,_,_,_,_] (.r [0,1,2,3,4,5] (.l 6)) (.a (.r [0,1,2,3,4] (.l 5)) (.l 6)) rfl _))
theorem pN(P:PB B)(d:Deed)(hd:j6 d){r0 r1:List Fl}(h0:r0.length<4)(h1:r1.length<4)(V:Sig)(tk:Tk)(outs:List Str)(ho:outs.length<3):
  JB (CO B) b_l_heard ⟨5100,none,22,DT d.rd d.st++(RG++(MG 5090 V++(IL d.its.length++(aA 0 d.its++YY (tk.n:Int) (aK r0) (aK r1) outs)))),EI⟩
   (iO (IL d.its.length++(aA 0 d.its++(YY ((af d r0 r1 V tk outs).tk.n:Int) (aK r0) (aK r1) (af d r0 r1 V tk outs).outs++DT d.rd d.st))) (af d r0 r1 V tk outs).V (af d r0 r1 V tk outs).out):=by
 obtain⟨rd,st,its⟩:=d
 obtain⟨hn,hr⟩:=hd
 dsimp only at hn hr⊢
 have hX:Low 5100 (RG++(MG 5090 V++(IL its.length++(aA 0 its++YY (tk.n:Int) (aK r0) (aK r1) outs)))):=low_RG.app ((bw V).app ((aS _).app ((aE _ _).app (dT _ _ _ _))))
 have fin:∀{X:List (Nat×AO)} {V':Sig} {a:Option Int},JS (CO B) (.try_ [.ret (.call qm dD)] 101 130 eH) ⟨5110,none,22,(vZ st++DT rd st)++(RG++(MG 5090 V++(IL its.length++(aA 0 its++YY (tk.n:Int) (aK r0) (aK r1) outs)))),Ds rd⟩ (iO X V' a)->
   JB (CO B) b_l_heard ⟨5100,none,22,DT rd st++(RG++(MG 5090 V++(IL its.length++(aA 0 its++YY (tk.n:Int) (aK r0) (aK r1) outs)))),EI⟩ (iO X V' a):=fun{X V' a} h=>by
  rw[xu]
  refine ba (xy P rd st hX) ?_
  cases a with
  |none=>exact bZ h
  |some c=>exact bZ h
 cases rd with
 |false=>
  have:=xt P st V (its:=its) (tk:=(tk.n:Int)) (t0:=aK r0) (t1:=aK r1) (outs:=outs) hn ho (fun o hc=>vH P false st (hX.mono (by decide)) hc) tk rfl
  have e:(bv st V tk outs (d8 V its [])).tk=tk:=by
   cases d8 V its [] with
   |fin vs=>rfl
   |own=>cases st<;>rfl
   |bad f=>rfl
  have q:=fin this
  show JB (CO B) b_l_heard _ (iO (IL its.length++(aA 0 its++(YY ((bv st V tk outs (d8 V its [])).tk.n:Int) (aK r0) (aK r1) (bv st V tk outs (d8 V its [])).outs++DT false st))) (bv st V tk outs (d8 V its [])).V (bv st V tk outs (d8 V its [])).out)
  rw[e]
  exact q
 |true=>
  have hc:=vH P true st (hX.mono (by decide)) (CallSat.pre (l:=(dg st "read"++DT true st)++(RG++(MG 5090 V++(IL its.length++(aA 0 its++YY (tk.n:Int) (aK r0) (aK r1) outs))))) (yL P st V (its:=its) (r0:=r0) (r1:=r1) (outs:=outs) (DT true st) hn h0 h1 (hr rfl) tk) (aB fun a=>by
   exact aF [] [_,_,_,_,_,_,_] (.a (.r [0,1,2,3,4] (.l 5)) (.l 6)) (.a (.r [0] (.l 6)) (.r [1,2,3,4] (.l 5))) rfl _))
  cases tk with
  |t0=>exact fin (ql P st (tk:= .t1) hc)
  |t1=>exact fin (ql P st (tk:= .t2) hc)
  |t2=>
   have q:=fin (xw P st hc)
   have e:(aq st V (-1) .t2 outs).tk= .t2/\(aq st V (-1) .t2 outs).outs=outs:=by cases st<;>exact⟨rfl,rfl⟩
   show JB (CO B) b_l_heard _ (iO (IL its.length++(aA 0 its++(YY ((aq st V (-1) .t2 outs).tk.n:Int) (aK r0) (aK r1) (aq st V (-1) .t2 outs).outs++DT true st))) (aq st V (-1) .t2 outs).V (aq st V (-1) .t2 outs).out)
   rw[e.1,e.2]
   exact q
end
noncomputable def Gr:IS->List IS
 | .if_ _ a _=>a
 |_=> []
noncomputable def Gq:IS->List IS
 | .if_ _ _ b=>b
 |_=> []
noncomputable def FM:IS->IE
 | .if_ c _ _=>c
 |_=> .bad
noncomputable def DW:IS->List IS
 | .forR _ _ b=>b
 | .for_ _ _ b=>b
 |_=> []
noncomputable def AY:IS->IE
 | .forR _ i _=>i
 | .for_ _ i _=>i
 |_=> .bad
noncomputable def oq(V:Sig):List Value:= [.int V.s 0,.int V.x.val 0,.int V.a.val 0,.int V.b.val 0,.int V.c.val 0]
noncomputable def DX(f:Fl):Value:= .str ⟨#[f.codes.getD 0 0,f.codes.getD 1 0,f.codes.getD 2 0]⟩ 0
noncomputable def bB:List Fl->List Value
 | []=> []
 |f::r=>DX f::bB r
noncomputable def cK(tk:Int):List (Nat×AO):= [(3000,.sdict [(ag "cells",.ref 3001),(ag "out",.ref 3002),(ag "rows",.ref 3003),(ag "taken",.int tk 0)])]
noncomputable def c9(V:Sig):List (Nat×AO):= [(3001,.lst (oq V))]
noncomputable def cZ(outs:List Str):List (Nat×AO):= [(3002,.lst (outs.map fun x=> .str x 0))]
noncomputable def cu(r0 r1:List Fl):List (Nat×AO):= [(3003,.lst [.ref 3004,.ref 3005]),(3004,.lst (bB r0)),(3005,.lst (bB r1))]
noncomputable def nS:IS:=b_l_moved.getD 2 .bad
noncomputable def mBody:List IS:=DW nS
noncomputable def mI:IS:=mBody.getD 0 .bad
noncomputable def Cv:IS:=mBody.getD 3 .bad
noncomputable def mW:List IS:=Gq Cv
noncomputable def mR:List IS:=Gr Cv
theorem lS:mBody=mI::((mBody.drop 1).take 2++ [.if_ (FM Cv) mR mW]):=rfl
theorem GQ:mW=mW.getD 0 .bad::(mW.drop 1):=rfl
theorem Cu:nS= .forR 58 (AY nS) mBody:=rfl
theorem m_split:b_l_moved=b_l_moved.take 2++(nS::b_l_moved.drop 3):=rfl
noncomputable def iL(l:Str):List (Nat×Value):= [(199,.ref 3000),(195,.ref 5000),(94,.str l 0)]
noncomputable def si(l:Str)(j:Nat):List (Nat×Value):= [(199,.ref 3000),(195,.ref 5000),(94,.str l 0),(58,.int (j:Int) 0)]
section
variable{B:Base}
noncomputable def Ex(B:Base)(rd st:Bool)(n j:Nat)(X:List (Nat×AO))(l:Str):=cD ah tokF 5210 5001 [] (DT rd st++IL n) X 5210 none ((64,.ref (ib j))::si l j) 20 (.ok .next)
 (fc (CO B) TB (RN B 60) mI ⟨5210,none,20,(DT rd st++IL n)++X,si l j⟩)
theorem Ew(rd st:Bool)(X:List (Nat×AO))(l:Str):∀n j,j<n->n<=4->(Ex B rd st n j X l).1=(Ex B rd st n j X l).2:=by
 refine cG ?_ ?_ ?_ ?_ ?_ ?_ ?_ ?_ ?_ ?_<;>kernel_rfl
noncomputable def Dz:Nd->Option Nv
 | .a0| .c1=>some .v1| .a1| .c2=>some .v2| .c3=>some .v3|_=>none
noncomputable def nj:It->Int
 | .elem n=>match Dz n with
  |some v=>1+v.val
  |none=>0
 | .nod n=>match Dz n with
  |some v=>1+v.val
  |none=>0
 | .k4=>5
 | .k13=>14
 | .var=>1
noncomputable def qw(it:It):Value:= .int (nj it) 0
noncomputable def EV:It->Value
 | .elem n=>match Dz n with
  |some v=> .int v.val 0
  |none=> .none
 | .nod n=>match Dz n with
  |some v=> .int v.val 0
  |none=> .none
 | .k4=> .int 4 0
 | .k13=> .int 13 0
 | .var=> .none
noncomputable def zH(l:Str)(j:Nat)(it:It):List (Nat×Value):= [(199,.ref 3000),(195,.ref 5000),(94,.str l 0),(58,.int (j:Int) 0),(64,.ref (ib j)),(15,qw it),(6,EV it)]
noncomputable def ut(b:Nat):It->Nat
 | .elem _=>b+2
 |_=>b
noncomputable def zv(B:Base)(j:Nat)(X:List (Nat×AO))(l:Str)(it:It):=cD ah tokF 5210 (ut (ib j) it) [] (aG (ib j) it) X 5300 none (zH l j it) 20 (.ok .next)
 ((RN B 60).b ((mBody.drop 1).take 2) ⟨5210,none,20,aG (ib j) it++X,(64,.ref (ib j))::si l j⟩)
theorem Cm(X:List (Nat×AO))(l:Str)(it:It)(h:sg it=true):∀j,j<4->(zv B j X l it).1=(zv B j X l it).2:=by
 cases it with
 |elem m=>cases m with
  |a2=>cases h
  |a3=>cases h
  |_=>refine cU ?_ ?_ ?_ ?_<;>kernel_rfl
 |nod m=>cases m with
  |a2=>cases h
  |a3=>cases h
  |_=>refine cU ?_ ?_ ?_ ?_<;>kernel_rfl
 |_=>refine cU ?_ ?_ ?_ ?_<;>kernel_rfl
noncomputable def lP(B:Base)(j:Nat)(X:List (Nat×AO))(l:Str)(it:It)(c:Int):=cD ah tokF 5210 (ut (ib j) it) [] ([(5400,.tup [tx "out",.int c 0])]++aG (ib j) it) X 5410 none [] 20 (.ok (.ret (.ref 5400)))
 ((RN B 60).b ((mBody.drop 1).take 2) ⟨5210,none,20,aG (ib j) it++X,(64,.ref (ib j))::si l j⟩)
theorem Cj(X:List (Nat×AO))(l:Str):∀j,j<4->((lP B j X l (.elem .a2) 40).1=(lP B j X l (.elem .a2) 40).2/\(lP B j X l (.elem .a3) (-1)).1=(lP B j X l (.elem .a3) (-1)).2)/\((lP B j X l (.nod .a2) 40).1=(lP B j X l (.nod .a2) 40).2/\(lP B j X l (.nod .a3) (-1)).1=(lP B j X l (.nod .a3) (-1)).2):=by
 refine cU ?_ ?_ ?_ ?_<;>exact⟨⟨by kernel_rfl,by kernel_rfl⟩,by kernel_rfl,by kernel_rfl⟩
noncomputable def EA(B:Base)(tk:Int)(V:Sig)(j:Nat)(X:List (Nat×AO))(l:Str)(it:It):=cD ah tokF 5300 (ut (ib j) it) [] (cK tk++c9 V++aG (ib j) it) X 5310 none [(199,.ref 3000),(195,.ref 5000),(94,.str l 0),(6,.int (gL V it) 0)] 20 (.ok .next)
 (fc (CO B) TB (RN B 60) (mW.getD 0 .bad) ⟨5300,none,20,(cK tk++c9 V++aG (ib j) it)++X,zH l j it⟩)
theorem Cf(tk:Int)(V:Sig)(X:List (Nat×AO))(l:Str)(it:It)(h:sg it=true):∀j,j<4->(EA B tk V j X l it).1=(EA B tk V j X l it).2:=by
 cases it with
 |elem m=>cases m with
  |a2=>cases h
  |a3=>cases h
  |_=>refine cU ?_ ?_ ?_ ?_<;>kernel_rfl
 |nod m=>cases m with
  |a2=>cases h
  |a3=>cases h
  |_=>refine cU ?_ ?_ ?_ ?_<;>kernel_rfl
 |_=>refine cU ?_ ?_ ?_ ?_<;>kernel_rfl
noncomputable def Eu(B:Base)(rd st:Bool)(X:List (Nat×AO))(vs:List Nv)(v:Nv):=cD ah tokF 5310 5000 [] (DT rd st) X 5310 none (iL (bQ (vs++ [v]))) 20 (.ok .next)
 ((RN B 60).b (mW.drop 1) ⟨5310,none,20,DT rd st++X,[(199,.ref 3000),(195,.ref 5000),(94,.str (bQ vs) 0),(6,.int v.val 0)]⟩)
theorem Et(rd st:Bool)(X:List (Nat×AO))(v:Nv):∀vs:List Nv,vs.length<4->(Eu B rd st X vs v).1=(Eu B rd st X vs v).2
 | [],_=>by cases v<;>kernel_rfl
 | [a],_=>by cases v<;>kernel_rfl
 | [a,b],_=>by cases v<;>kernel_rfl
 | [a,b,c],_=>by cases v<;>kernel_rfl
 |_::_::_::_::_,h=>absurd h (by simp)
theorem AC(rd st:Bool)(X:List (Nat×AO))(l:Str):(cD ah tokF 5310 5000 [] ([(5400,.tup [tx "own",.int 41 0])]++DT rd st) X 5410 none [] 20 (.ok (.ret (.ref 5400)))
 ((RN B 60).b (mW.drop 1) ⟨5310,none,20,DT rd st++X,[(199,.ref 3000),(195,.ref 5000),(94,.str l 0),(6,.int 13 0)]⟩)).1=(cD ah tokF 5310 5000 [] ([(5400,.tup [tx "own",.int 41 0])]++DT rd st) X 5410 none [] 20 (.ok (.ret (.ref 5400)))
 ((RN B 60).b (mW.drop 1) ⟨5310,none,20,DT rd st++X,[(199,.ref 3000),(195,.ref 5000),(94,.str l 0),(6,.int 13 0)]⟩)).2:=by kernel_rfl
noncomputable def Dw:Tk->Nat
 | .t2=>3005|_=>3004
noncomputable def AB(B:Base)(tk:Tk)(j:Nat)(X:List (Nat×AO))(l:Str)(c:Int)(r:List Fl):=cD ah tokF 5300 (Dw tk) [] (cK (tk.n:Int)++ [(3003,.lst [.ref 3004,.ref 3005]),(Dw tk,.lst (bB r))]) X 5310 none [(199,.ref 3000),(195,.ref 5000),(94,.str l 0),(15,.int c 0),(183,DX (aV r j))] 20 (.ok .next)
 ((RN B 60).b (mR.take 2) ⟨5300,none,20,(cK (tk.n:Int)++ [(3003,.lst [.ref 3004,.ref 3005]),(Dw tk,.lst (bB r))])++X,[(199,.ref 3000),(195,.ref 5000),(94,.str l 0),(58,.int (j:Int) 0),(15,.int c 0)]⟩)
theorem Cr(X:List (Nat×AO))(l:Str)(c:Int):∀r:List Fl,r.length<4->∀j,j<4->(AB B .t1 j X l c r).1=(AB B .t1 j X l c r).2/\(AB B .t2 j X l c r).1=(AB B .t2 j X l c r).2:=by
 refine cz (cU ?_ ?_ ?_ ?_) (fun a=>⟨?_,?_,?_,?_⟩) (fun a b=>⟨?_,?_,?_,?_⟩) (fun a b c=>⟨?_,?_,?_,?_⟩)<;>exact⟨by kernel_rfl,by kernel_rfl⟩
noncomputable def Er(B:Base)(tk:Int)(V:Sig)(X:List (Nat×AO))(l:Str)(it:It)(f:Fl):=cD ah tokF 5310 3001 [] (cK tk++c9 (bC V it f)) X 5310 none (iL l) 20 (.ok .next)
 ((RN B 60).b (mR.drop 2) ⟨5310,none,20,(cK tk++c9 V)++X,[(199,.ref 3000),(195,.ref 5000),(94,.str l 0),(15,qw it),(183,DX f)]⟩)
theorem Ep(tk:Int)(V:Sig)(X:List (Nat×AO))(l:Str)(it:It)(hr:itR it=true)(hn:gx it=true)(f:Fl)(hf:n8 f=true):(Er B tk V X l it f).1=(Er B tk V X l it f).2:=by
 cases it with
 |elem n=>cases n with
  |a2=>cases hn
  |a3=>cases hn
  |_=>cases f with
   |fx=>cases hf
   |_=>kernel_rfl
 |var=>cases f with
  |fx=>cases hf
  |_=>kernel_rfl
 |_=>cases hr
noncomputable def AA(B:Base)(tk:Int)(V:Sig)(X:List (Nat×AO))(l:Str)(c:Value):=cD ah tokF 5310 3001 [] ([(5400,.tup [tx "own",.int 43 0])]++cK tk++c9 V) X 5410 none [] 20 (.ok (.ret (.ref 5400)))
 ((RN B 60).b (mR.drop 2) ⟨5310,none,20,(cK tk++c9 V)++X,[(199,.ref 3000),(195,.ref 5000),(94,.str l 0),(15,c),(183,DX .fx)]⟩)
theorem Cq(tk:Int)(V:Sig)(X:List (Nat×AO))(l:Str)(c:Value):(AA B tk V X l c).1=(AA B tk V X l c).2:=by kernel_rfl
end
noncomputable def PF:List (Nat×AO):= [(5200,.fn)]
noncomputable def ar(rd st:Bool)(tk:Int)(V:Sig)(outs:List Str)(r0 r1:List Fl)(its:List It):List (Nat×AO):=cK tk++(c9 V++(cZ outs++(cu r0 r1++(DT rd st++(IL its.length++aA 0 its)))))
theorem bH:∀r:List Fl,(bB r).flatMap tokV= []
 | []=>rfl
 |_::r=>bH r
theorem cA(tk:Int):Low 5100 (cK tk):=aJ (by rfl)
theorem bP(V:Sig):Low 5100 (c9 V):=aJ (by rfl)
theorem bJ(outs:List Str):Low 5100 (cZ outs):=aI rfl (cy outs) rfl aO
theorem bO(r0 r1:List Fl):Low 5100 (cu r0 r1):=aI rfl rfl rfl (aI rfl (bH _) rfl (aI rfl (bH _) rfl aO))
theorem low_PF:Low 5201 PF:=aJ (by rfl)
theorem qe(rd st:Bool)(tk:Int)(V:Sig)(outs:List Str)(r0 r1:List Fl)(its:List It):Low 5100 (ar rd st tk V outs r0 r1 its):=(cA tk).app ((bP V).app ((bJ outs).app ((bO r0 r1).app ((bx rd st).app ((aS _).app (aE _ _))))))
theorem nB{n j:Nat}{st:St}(h:j<n):aU n j st=some (some (.int (j:Int) 0)):=by
 unfold aU
 rw[ls (Iz h),show u8 j n=true from ls h]
theorem kP{n:Nat}{st:St}:aU n n st=some none:=by
 unfold aU
 rw[ls (wh n)]
 have:u8 n n=false:=by
  cases z:u8 n n with
  |false=>rfl
  |true=>exact absurd (al z) (Kg n)
 rw[this]
section
variable{B:Base}(rd st:Bool)(V:Sig)
theorem lR(P:PB B){tk:Int}{outs:List Str}{r0 r1:List Fl}{l:Str}(pre post:List It)(it:It)(hn:(pre++it::post).length<=4){r:List IS}{o:Out AF}
  (h:JB (CO B) ((mBody.drop 1).take 2++r) ⟨5210,none,20,aG (ib pre.length) it++(PF++(cK tk++(c9 V++(cZ outs++(cu r0 r1++(DT rd st++(IL (pre++it::post).length++(aA 0 pre++aA (pre.length+1) post)))))))),(64,.ref (ib pre.length))::si l pre.length⟩ o):
  JB (CO B) (mI::((mBody.drop 1).take 2++r)) ⟨5210,none,20,PF++ar rd st tk V outs r0 r1 (pre++it::post),si l pre.length⟩ o:=by
 have hX:Low 5210 (PF++(cK tk++(c9 V++(cZ outs++(cu r0 r1++aA 0 (pre++it::post)))))):=(low_PF.mono (by decide)).app (((cA tk).mono (by decide)).app (((bP V).mono (by decide)).app (((bJ outs).mono (by decide)).app (((bO r0 r1).mono (by decide)).app ((aE _ _).mono (by decide))))))
 have e:=Ew (B:=B) rd st (PF++(cK tk++(c9 V++(cZ outs++(cu r0 r1++aA 0 (pre++it::post)))))) l (pre++it::post).length pre.length (by simp) hn
 unfold Ex at e
 refine aN (JS.post (B:=B) (JS.pre (js P 60 5001 [] rfl hX e) (aB fun a=>?_)) (aB fun a=>?_)) h
 ·unfold ar;exact aF [] [_,_,_,_,_,_,_,_] (.a (.r [0] (.l 1)) (.r [2,3,4,5,6] (.l 7))) (.r [2,3,4,5,6,0,1] (.l 7)) rfl _
 ·rw[aw];exact aF [] [_,_,_,_,_,_,_,_,_,_] (.r [0,1,2,3,4,5,6,7,8] (.l 9)) (.a (.r [6] (.l 7)) (.r [1,2,3,4,5,8,0] (.l 9))) rfl _
theorem pC(P:PB B){X:List (Nat×AO)}{l:Str}{j:Nat}{it:It}(hj:j<4)(hX:Low 5210 X)(hk:sg it=true):JB (CO B) ((mBody.drop 1).take 2) ⟨5210,none,20,aG (ib j) it++X,(64,.ref (ib j))::si l j⟩ (some (.ok .next,⟨5300,none,20,aG (ib j) it++X,zH l j it⟩)):=by
 have e:=Cm (B:=B) X l it hk j hj
 unfold zv at e
 exact jb P 60 _ [] rfl hX e
theorem xh{it:It}(h:sg it=false):((it= .elem .a2\/it= .nod .a2)/\pK it= .f40/\∀V,jp V it= .bad .f40)\/(it= .elem .a3/\∀V,jp V it= .bad .fE)\/(it= .nod .a3/\∀V,jp V it= .bad .fE):=by
 cases it with
 |elem m=>cases m<;>first|exact .inl ⟨.inl rfl,rfl,fun ι=>rfl⟩|exact .inr (.inl ⟨rfl,fun ι=>rfl⟩)|(cases h;done)
 |nod m=>cases m<;>first|exact .inl ⟨.inr rfl,rfl,fun ι=>rfl⟩|exact .inr (.inr ⟨rfl,fun ι=>rfl⟩)|(cases h;done)
 |_=>cases h
theorem xT(P:PB B){X:List (Nat×AO)}{l:Str}{j:Nat}{it:It}(hj:j<4)(hX:Low 5210 X)(hk:sg it=false):∃f:Fa,(∀V,jp V it= .bad f)/\JB (CO B) ((mBody.drop 1).take 2) ⟨5210,none,20,aG (ib j) it++X,(64,.ref (ib j))::si l j⟩ (some (.ok (.ret (.ref 5400)),⟨5410,none,20,([(5400,.tup [tx "out",.int f.code 0])]++aG (ib j) it)++X,[]⟩)):=by
 have e:=Cj (B:=B) X l j hj
 unfold lP at e
 rcases xh hk with⟨rfl|rfl,h1,h2⟩|⟨rfl,h2⟩|⟨rfl,h2⟩
 ·exact⟨.f40,h2,jb P 60 _ [] rfl hX e.1.1⟩
 ·exact⟨.f40,h2,jb P 60 _ [] rfl hX e.2.1⟩
 ·exact⟨.fE,h2,jb P 60 _ [] rfl hX e.1.2⟩
 ·exact⟨.fE,h2,jb P 60 _ [] rfl hX e.2.2⟩
theorem pD(P:PB B){X:List (Nat×AO)}{l:Str}{j:Nat}{it:It}:JT (CO B) (FM Cv) ⟨5300,none,20,DT rd st++X,zH l j it⟩ (some (.ok rd,⟨5300,none,20,DT rd st++X,zH l j it⟩)):=jt P 20 (by kernel_rfl)
theorem JT.pre{c:IE}{nx dp:Nat}{hd:Option Nat}{l l':List (Nat×AO)}{lo:List (Nat×Value)}{q:Bool}(h:JT (CO B) c ⟨nx,hd,dp,l',lo⟩ (some (.ok q,⟨nx,hd,dp,l',lo⟩)))(p:l'.Perm l):JT (CO B) c ⟨nx,hd,dp,l,lo⟩ (some (.ok q,⟨nx,hd,dp,l,lo⟩)):=fun FN sc cx C x hm=>
 Sat.after (S:=⟨CO B,FN⟩) (rv:=fun ι b=>b) (fun ι ι ι ι h=>h) (Sat.before (S:=⟨CO B,FN⟩) (f:=id) (h FN sc cx C x hm) (a9 (st:=⟨nx,hd,dp,l,lo⟩) p) fun ι ι=>rfl) (.ok (a9 (S:=CO B) (st:=⟨nx,hd,dp,l',lo⟩) p.symm) (fun ι ι=>rfl) rfl)
end
section
variable{B:Base}(st:Bool)
theorem xS(P:PB B){V:Sig}{tk:Int}{outs:List Str}{r0 r1:List Fl}{vs:List Nv}(pre post:List It)(it:It)(v:Nv)(hn:(pre++it::post).length<=4)(hvs:vs.length=pre.length)(hv:jp V it= .val v):
  JB (CO B) mBody ⟨5210,none,20,PF++ar false st tk V outs r0 r1 (pre++it::post),si (bQ vs) pre.length⟩ (some (.ok .next,⟨5310,none,20,PF++ar false st tk V outs r0 r1 (pre++it::post),iL (bQ (vs++ [v]))⟩)):=by
 obtain⟨hK,hV⟩:=lf hv
 have hj:pre.length<4:=by simp at hn;omega
 have hXa:Low 5201 (PF++(cZ outs++(cu r0 r1++(IL (pre++it::post).length++(aA 0 pre++aA (pre.length+1) post))))):=low_PF.app (((bJ outs).mono (by decide)).app (((bO r0 r1).mono (by decide)).app (((aS _).mono (by decide)).app (((aE _ _).mono (by decide)).app ((aE _ _).mono (by decide))))))
 have hX1:Low 5201 (PF++(cK tk++(c9 V++(cZ outs++(cu r0 r1++(DT false st++(IL (pre++it::post).length++(aA 0 pre++aA (pre.length+1) post)))))))):=low_PF.app (((cA tk).mono (by decide)).app (((bP V).mono (by decide)).app (((bJ outs).mono (by decide)).app (((bO r0 r1).mono (by decide)).app (((bx _ _).mono (by decide)).app (((aS _).mono (by decide)).app (((aE _ _).mono (by decide)).app ((aE _ _).mono (by decide)))))))))
 rw[lS]
 refine lR false st V P pre post it hn (ba (pC P hj (hX1.mono (by decide)) hK) ?_)
 have e1:=Cf (B:=B) tk V (DT false st++(PF++(cZ outs++(cu r0 r1++(IL (pre++it::post).length++(aA 0 pre++aA (pre.length+1) post)))))) (bQ vs) it hK pre.length hj
 unfold EA at e1
 rw[hV] at e1
 have j1:=js P 60 _ [] rfl (((bx false st).mono (by decide)).app (hXa.mono (by decide)):Low 5300 _) e1
 have e2:=Et (B:=B) false st (cK tk++(c9 V++(aG (ib pre.length) it++(PF++(cZ outs++(cu r0 r1++(IL (pre++it::post).length++(aA 0 pre++aA (pre.length+1) post)))))))) v vs (by omega)
 unfold Eu at e2
 have j2:=jb P 60 5000 [] rfl ((((cA tk).mono (by decide)).app (((bP V).mono (by decide)).app (((aW _ _).mono (by decide)).app (hXa.mono (by decide)))):Low 5310 _)) e2
 refine aN (iM (JT.pre (pD false st P) (l:=aG (ib pre.length) it++(PF++(cK tk++(c9 V++(cZ outs++(cu r0 r1++(DT false st++(IL (pre++it::post).length++(aA 0 pre++aA (pre.length+1) post))))))))) (l':=DT false st++(aG (ib pre.length) it++(PF++(cK tk++(c9 V++(cZ outs++(cu r0 r1++(IL (pre++it::post).length++(aA 0 pre++aA (pre.length+1) post))))))))) (aB fun a=>by exact aF [] [_,_,_,_,_,_,_,_,_,_] (.r [0,1,2,3,4,5,6,7,8] (.l 9)) (.r [1,2,3,4,5,6,0,7,8] (.l 9)) rfl _)) ?_) c5
 show JB (CO B) mW _ _
 rw[GQ]
 refine aN (JS.pre j1 (aB fun a=>?_)) (JB.post (B:=B) (JB.pre j2 (aB fun a=>?_)) (aB fun a=>?_))
 ·exact aF [] [_,_,_,_,_,_,_,_,_,_] (.a (.a (.r [0] (.l 1)) (.l 2)) (.r [3,4,5,6,7,8] (.l 9))) (.r [2,4,0,1,5,6,3,7,8] (.l 9)) rfl _
 ·exact aF [] [_,_,_,_,_,_,_,_,_,_] (.r [0,1,2,3,4,5,6,7,8] (.l 9)) (.a (.a (.r [1] (.l 2)) (.l 3)) (.r [0,4,5,6,7,8] (.l 9))) rfl _
 ·unfold ar;rw[aw];exact aF [] [_,_,_,_,_,_,_,_,_,_] (.r [0,1,2,3,4,5,6,7,8] (.l 9)) (.r [5,1,2,8,0,3,4,6,7] (.l 9)) rfl _
theorem uc(P:PB B){V:Sig}{tk:Int}{outs:List Str}{r0 r1:List Fl}{l:Str}(pre post:List It)(hn:(pre++ .k13::post).length<=4):
  JB (CO B) mBody ⟨5210,none,20,PF++ar false st tk V outs r0 r1 (pre++ .k13::post),si l pre.length⟩ (some (.ok (.ret (.ref 5400)),⟨5410,none,20,[(5400,.tup [tx "own",.int 41 0])]++(PF++ar false st tk V outs r0 r1 (pre++ .k13::post)),[]⟩)):=by
 have hj:pre.length<4:=by simp at hn;omega
 have hXa:Low 5201 (PF++(cZ outs++(cu r0 r1++(IL (pre++ .k13::post).length++(aA 0 pre++aA (pre.length+1) post))))):=low_PF.app (((bJ outs).mono (by decide)).app (((bO r0 r1).mono (by decide)).app (((aS _).mono (by decide)).app (((aE _ _).mono (by decide)).app ((aE _ _).mono (by decide))))))
 have hX1:Low 5201 (PF++(cK tk++(c9 V++(cZ outs++(cu r0 r1++(DT false st++(IL (pre++ .k13::post).length++(aA 0 pre++aA (pre.length+1) post)))))))):=low_PF.app (((cA tk).mono (by decide)).app (((bP V).mono (by decide)).app (((bJ outs).mono (by decide)).app (((bO r0 r1).mono (by decide)).app (((bx _ _).mono (by decide)).app (((aS _).mono (by decide)).app (((aE _ _).mono (by decide)).app ((aE _ _).mono (by decide)))))))))
 rw[lS]
 refine lR false st V P pre post .k13 hn (ba (pC P (it:= .k13) hj (hX1.mono (by decide)) rfl) ?_)
 have e1:=Cf (B:=B) tk V (DT false st++(PF++(cZ outs++(cu r0 r1++(IL (pre++ .k13::post).length++(aA 0 pre++aA (pre.length+1) post)))))) l .k13 rfl pre.length hj
 unfold EA at e1
 have j1:=js P 60 _ [] rfl (((bx false st).mono (by decide)).app (hXa.mono (by decide)):Low 5300 _) e1
 have e2:=AC (B:=B) false st (cK tk++(c9 V++(aG (ib pre.length) .k13++(PF++(cZ outs++(cu r0 r1++(IL (pre++ .k13::post).length++(aA 0 pre++aA (pre.length+1) post)))))))) l
 have j2:=jb P 60 5000 [] rfl ((((cA tk).mono (by decide)).app (((bP V).mono (by decide)).app (((aW pre.length .k13).mono (by decide)).app (hXa.mono (by decide)))):Low 5310 _)) e2
 refine bZ (iM (JT.pre (pD false st P) (l:=aG (ib pre.length) .k13++(PF++(cK tk++(c9 V++(cZ outs++(cu r0 r1++(DT false st++(IL (pre++ .k13::post).length++(aA 0 pre++aA (pre.length+1) post))))))))) (l':=DT false st++(aG (ib pre.length) .k13++(PF++(cK tk++(c9 V++(cZ outs++(cu r0 r1++(IL (pre++ .k13::post).length++(aA 0 pre++aA (pre.length+1) post))))))))) (aB fun a=>by exact aF [] [_,_,_,_,_,_,_,_,_,_] (.r [0,1,2,3,4,5,6,7,8] (.l 9)) (.r [1,2,3,4,5,6,0,7,8] (.l 9)) rfl _)) ?_)
 show JB (CO B) mW _ _
 rw[GQ]
 refine aN (JS.pre j1 (aB fun a=>?_)) (JB.post (B:=B) (JB.pre j2 (aB fun a=>?_)) (aB fun a=>?_))
 ·exact aF [] [_,_,_,_,_,_,_,_,_,_] (.a (.a (.r [0] (.l 1)) (.l 2)) (.r [3,4,5,6,7,8] (.l 9))) (.r [2,4,0,1,5,6,3,7,8] (.l 9)) rfl _
 ·exact aF [] [_,_,_,_,_,_,_,_,_,_] (.r [0,1,2,3,4,5,6,7,8] (.l 9)) (.a (.a (.r [1] (.l 2)) (.l 3)) (.r [0,4,5,6,7,8] (.l 9))) rfl _
 ·unfold ar;rw[aw];exact aF [_] [_,_,_,_,_,_,_,_,_,_] (.a (.c 0 .n) (.r [0,1,2,3,4,5,6,7,8] (.l 9))) (.a (.a (.c 0 .n) (.l 5)) (.r [1,2,8,0,3,4,6,7] (.l 9))) rfl _
theorem yh(P:PB B){rd:Bool}{V:Sig}{tk:Int}{outs:List Str}{r0 r1:List Fl}{l:Str}(pre post:List It)(it:It)(hn:(pre++it::post).length<=4)(hk:sg it=false):
  ∃f:Fa,(∀V,jp V it= .bad f)/\JB (CO B) mBody ⟨5210,none,20,PF++ar rd st tk V outs r0 r1 (pre++it::post),si l pre.length⟩ (some (.ok (.ret (.ref 5400)),⟨5410,none,20,[(5400,.tup [tx "out",.int f.code 0])]++(PF++ar rd st tk V outs r0 r1 (pre++it::post)),[]⟩)):=by
 have hj:pre.length<4:=by simp at hn;omega
 have hX1:Low 5201 (PF++(cK tk++(c9 V++(cZ outs++(cu r0 r1++(DT rd st++(IL (pre++it::post).length++(aA 0 pre++aA (pre.length+1) post)))))))):=low_PF.app (((cA tk).mono (by decide)).app (((bP V).mono (by decide)).app (((bJ outs).mono (by decide)).app (((bO r0 r1).mono (by decide)).app (((bx _ _).mono (by decide)).app (((aS _).mono (by decide)).app (((aE _ _).mono (by decide)).app ((aE _ _).mono (by decide)))))))))
 obtain⟨f,h1,h2⟩:=xT P (l:=l) (it:=it) hj (hX1.mono (by decide:5201<=5210)) hk
 refine⟨f,h1,?_⟩
 rw[lS]
 refine lR rd st V P pre post it hn (jj (JB.post (B:=B) h2 (aB fun a=>?_)))
 unfold ar;rw[aw];exact aF [_] [_,_,_,_,_,_,_,_,_,_] (.a (.c 0 .n) (.r [0,1,2,3,4,5,6,7,8] (.l 9))) (.a (.a (.c 0 .n) (.l 8)) (.r [0,1,2,3,4,5,6,7] (.l 9))) rfl _
theorem AE(P:PB B){V:Sig}{tk:Tk}{outs:List Str}{r0 r1 row:List Fl}{l:Str}(hrow:(tk= .t1/\row=r0)\/(tk= .t2/\row=r1))(hlen:row.length<4)(pre post:List It)(it:It)(hn:(pre++it::post).length<=4)(hr:itR it=true)(hN:gx it=true):
  JB (CO B) mBody ⟨5210,none,20,PF++ar true st (tk.n:Int) V outs r0 r1 (pre++it::post),si l pre.length⟩ (match n8 (aV row pre.length) with
   |true=>some (.ok .next,⟨5310,none,20,PF++ar true st (tk.n:Int) (bC V it (aV row pre.length)) outs r0 r1 (pre++it::post),iL l⟩)
   |false=>some (.ok (.ret (.ref 5400)),⟨5410,none,20,[(5400,.tup [tx "own",.int 43 0])]++(PF++ar true st (tk.n:Int) V outs r0 r1 (pre++it::post)),[]⟩)):=by
 have hK:sg it=true:=by
  cases it with
  |elem m=>cases m<;>first|rfl|(cases hN;done)
  |var=>rfl
  |_=>cases hr
 have hj:pre.length<4:=by simp at hn;omega
 have hX1:Low 5201 (PF++(cK (tk.n:Int)++(c9 V++(cZ outs++(cu r0 r1++(DT true st++(IL (pre++it::post).length++(aA 0 pre++aA (pre.length+1) post)))))))):=low_PF.app (((cA _).mono (by decide)).app (((bP V).mono (by decide)).app (((bJ outs).mono (by decide)).app (((bO r0 r1).mono (by decide)).app (((bx _ _).mono (by decide)).app (((aS _).mono (by decide)).app (((aE _ _).mono (by decide)).app ((aE _ _).mono (by decide)))))))))
 rw[lS]
 refine lR true st V P pre post it hn (ba (pC P hj (hX1.mono (by decide)) hK) ?_)
 have fin:∀{o:Out AF},JB (CO B) mR ⟨5300,none,20,aG (ib pre.length) it++(PF++(cK (tk.n:Int)++(c9 V++(cZ outs++(cu r0 r1++(DT true st++(IL (pre++it::post).length++(aA 0 pre++aA (pre.length+1) post)))))))),zH l pre.length it⟩ o->
   JS (CO B) (.if_ (FM Cv) mR mW) ⟨5300,none,20,aG (ib pre.length) it++(PF++(cK (tk.n:Int)++(c9 V++(cZ outs++(cu r0 r1++(DT true st++(IL (pre++it::post).length++(aA 0 pre++aA (pre.length+1) post)))))))),zH l pre.length it⟩ o:=fun h=>
  iM (JT.pre (pD true st P) (l':=DT true st++(aG (ib pre.length) it++(PF++(cK (tk.n:Int)++(c9 V++(cZ outs++(cu r0 r1++(IL (pre++it::post).length++(aA 0 pre++aA (pre.length+1) post))))))))) (aB fun a=>by exact aF [] [_,_,_,_,_,_,_,_,_,_] (.r [0,1,2,3,4,5,6,7,8] (.l 9)) (.r [1,2,3,4,5,6,0,7,8] (.l 9)) rfl _)) h
 obtain⟨oth,hoth,hot⟩:∃oth:List (Nat×AO),(cu r0 r1).Perm ([(3003,.lst [.ref 3004,.ref 3005]),(Dw tk,.lst (bB row))]++oth)/\Low 5100 oth:=by
  rcases hrow with⟨rfl,rfl⟩|⟨rfl,rfl⟩
  ·exact⟨[(3005,.lst (bB r1))],Lb _,aI rfl (bH _) rfl aO⟩
  ·exact⟨[(3004,.lst (bB r0))],(Ik _ _ _).cons _,aI rfl (bH _) rfl aO⟩
 have hT:Low 5201 (oth++(aG (ib pre.length) it++(PF++(c9 V++(cZ outs++(DT true st++(IL (pre++it::post).length++(aA 0 pre++aA (pre.length+1) post)))))))):=(hot.mono (by decide)).app (((aW _ _).mono (by decide)).app (low_PF.app (((bP V).mono (by decide)).app (((bJ outs).mono (by decide)).app (((bx _ _).mono (by decide)).app (((aS _).mono (by decide)).app (((aE _ _).mono (by decide)).app ((aE _ _).mono (by decide)))))))))
 have e1:(AB B tk pre.length (oth++(aG (ib pre.length) it++(PF++(c9 V++(cZ outs++(DT true st++(IL (pre++it::post).length++(aA 0 pre++aA (pre.length+1) post)))))))) l (nj it) row).1=(AB B tk pre.length (oth++(aG (ib pre.length) it++(PF++(c9 V++(cZ outs++(DT true st++(IL (pre++it::post).length++(aA 0 pre++aA (pre.length+1) post)))))))) l (nj it) row).2:=by
  rcases hrow with⟨rfl,rfl⟩|⟨rfl,rfl⟩
  ·exact(Cr _ l (nj it) row hlen pre.length hj).1
  ·exact(Cr _ l (nj it) row hlen pre.length hj).2
 unfold AB at e1
 have j1:=jb P 60 _ [] rfl (hT.mono (by decide:5201<=5300)) e1
 have hT2:Low 5201 (cZ outs++(cu r0 r1++(aG (ib pre.length) it++(PF++(DT true st++(IL (pre++it::post).length++(aA 0 pre++aA (pre.length+1) post))))))):=((bJ outs).mono (by decide)).app (((bO r0 r1).mono (by decide)).app (((aW _ _).mono (by decide)).app (low_PF.app (((bx _ _).mono (by decide)).app (((aS _).mono (by decide)).app (((aE _ _).mono (by decide)).app ((aE _ _).mono (by decide))))))))
 have go:∀{o:Out AF},JB (CO B) (mR.drop 2) ⟨5310,none,20,(cK (tk.n:Int)++c9 V)++(cZ outs++(cu r0 r1++(aG (ib pre.length) it++(PF++(DT true st++(IL (pre++it::post).length++(aA 0 pre++aA (pre.length+1) post))))))),[(199,.ref 3000),(195,.ref 5000),(94,.str l 0),(15,qw it),(183,DX (aV row pre.length))]⟩ o->
   JB (CO B) mR ⟨5300,none,20,aG (ib pre.length) it++(PF++(cK (tk.n:Int)++(c9 V++(cZ outs++(cu r0 r1++(DT true st++(IL (pre++it::post).length++(aA 0 pre++aA (pre.length+1) post)))))))),zH l pre.length it⟩ o:=fun{o} h=>by
  have hs:mR=mR.take 2++mR.drop 2:=rfl
  rw[hs]
  refine JB.before (f:=id) (ba j1 (JB.pre h (aB fun a=>?_))) (ky (l:=aG (ib pre.length) it++(PF++(cK (tk.n:Int)++(c9 V++(cZ outs++(cu r0 r1++(DT true st++(IL (pre++it::post).length++(aA 0 pre++aA (pre.length+1) post))))))))) (aB fun a=>?_) rfl) fun ι ι=>rfl
  ·simp only[xz,j8 hoth];ac_rfl
  ·simp only[xz,j8 hoth];ac_rfl
 cases hf:n8 (aV row pre.length) with
 |true=>
  have e2:=Ep (B:=B) (tk.n:Int) V (cZ outs++(cu r0 r1++(aG (ib pre.length) it++(PF++(DT true st++(IL (pre++it::post).length++(aA 0 pre++aA (pre.length+1) post))))))) l it hr hN (aV row pre.length) hf
  unfold Er at e2
  have j2:=jb P 60 3001 [] rfl (hT2.mono (by decide:5201<=5310)) e2
  refine aN (fin (go (JB.post (B:=B) j2 (aB fun a=>?_)))) c5
  unfold ar;rw[aw];exact aF [] [_,_,_,_,_,_,_,_,_,_] (.r [0,1,2,3,4,5,6,7,8] (.l 9)) (.a (.r [1] (.l 2)) (.r [3,4,8,0,5,6,7] (.l 9))) rfl _
 |false=>
  have e2:=Cq (B:=B) (tk.n:Int) V (cZ outs++(cu r0 r1++(aG (ib pre.length) it++(PF++(DT true st++(IL (pre++it::post).length++(aA 0 pre++aA (pre.length+1) post))))))) l (qw it)
  unfold AA at e2
  have j2:=jb P 60 3001 [] rfl (hT2.mono (by decide:5201<=5310)) e2
  rw[<-yp hf] at j2
  refine bZ (fin (go (JB.post (B:=B) j2 (aB fun a=>?_))))
  unfold ar;rw[aw];exact aF [_] [_,_,_,_,_,_,_,_,_,_] (.a (.c 0 .n) (.r [0,1,2,3,4,5,6,7,8] (.l 9))) (.a (.a (.a (.c 0 .n) (.l 1)) (.l 2)) (.r [3,4,8,0,5,6,7] (.l 9))) rfl _
end
noncomputable def GN(L:List (Nat×AO)):WR->AF×St
 | .fin vs=>(.next,⟨5210,none,20,PF++L,iL (bQ vs)⟩)
 | .own=>(.ret (.ref 5400),⟨5410,none,20,[(5400,.tup [tx "own",.int 41 0])]++(PF++L),[]⟩)
 | .bad f=>(.ret (.ref 5400),⟨5410,none,20,[(5400,.tup [tx "out",.int f.code 0])]++(PF++L),[]⟩)
noncomputable def GO(L:Sig->List (Nat×AO))(l:Str):RR->AF×St
 | .fin V=>(.next,⟨5210,none,20,PF++L V,iL l⟩)
 | .own V=>(.ret (.ref 5400),⟨5410,none,20,[(5400,.tup [tx "own",.int 43 0])]++(PF++L V),[]⟩)
 | .bad f V=>(.ret (.ref 5400),⟨5410,none,20,[(5400,.tup [tx "out",.int f.code 0])]++(PF++L V),[]⟩)
section
variable{B:Base}(st:Bool)
theorem nQ{L:List (Nat×AO)}{l:Str}(hL:Low 5100 L):∃f,Weak (CO B) f ⟨5310,none,20,PF++L,iL l⟩ ⟨5210,none,20,PF++L,iL l⟩/\∀k,k<5201->f k=k:=
 i7 (B:=B) (n0:=5201) (by decide) (low_PF.app (hL.mono (by decide))) rfl (by decide) (by intro k hk;cases hk)
theorem xe(V:Sig)(it:It):(∃v,jp V it= .val v)\/it= .k13\/sg it=false:=by
 cases it with
 |elem m=>cases m<;>first|exact .inr (.inr rfl)|exact .inl ⟨_,rfl⟩
 |nod m=>cases m<;>first|exact .inr (.inr rfl)|exact .inl ⟨_,rfl⟩
 |k13=>exact .inr (.inl rfl)
 |_=>exact .inl ⟨_,rfl⟩
theorem u7(P:PB B){V:Sig}{tk:Int}{outs:List Str}{r0 r1:List Fl}(post:List It):∀(pre:List It) (vs:List Nv),(pre++post).length<=4->vs.length=pre.length->
  FT (CO B) 5200 58 mBody (aU (pre++post).length) 5201 (post.length+1) pre.length ⟨5210,none,20,PF++ar false st tk V outs r0 r1 (pre++post),iL (bQ vs)⟩ (GN (ar false st tk V outs r0 r1 (pre++post)) (d8 V post vs)).1 (GN (ar false st tk V outs r0 r1 (pre++post)) (d8 V post vs)).2:=by
 induction post with
 |nil=>
  intro pre vs hn hvs
  refine .done rfl ?_
  rw[wT]
  exact kP
 |cons it post ih0=>
  intro pre vs hn hvs
  have hget:aU (pre++it::post).length pre.length ⟨5210,none,20,PF++ar false st tk V outs r0 r1 (pre++it::post),iL (bQ vs)⟩=some (some (.int (pre.length:Int) 0)):=nB (by simp)
  rcases xe V it with⟨v,hv⟩|rfl|hk
  ·rw[i8 hv]
   obtain⟨f,W,hf⟩:=nQ (B:=B) (l:=bQ (vs++ [v])) (qe false st tk V outs r0 r1 (pre++it::post))
   have ih:=ih0 (pre++ [it]) (vs++ [v]) (by simpa using hn) (by simp[hvs])
   rw[H1] at ih
   rw[show(pre++ [it]).length=pre.length+1 by simp] at ih
   exact .next rfl hget (xS st P pre post it v hn hvs hv) (.inl rfl) W hf ih
  ·exact .ret rfl hget (uc st P pre post hn)
  ·obtain⟨f,h1,h2⟩:=yh st P (rd:=false) (V:=V) (tk:=tk) (outs:=outs) (r0:=r0) (r1:=r1) (l:=bQ vs) pre post it hn hk
   rw[kz (h1 _)]
   exact .ret rfl hget h2
theorem DK{it:It}(h:itR it=true):sg it=gx it:=by
 cases it with
 |elem m=>cases m<;>rfl
 |var=>rfl
 |_=>cases h
theorem Dp{it:It}{f:Fa}(hr:itR it=true)(h:∀V,jp V it= .bad f):f=pK it:=by
 have:=h ⟨0,.v1,.v1,.v1,.v1⟩
 cases it with
 |elem m=>cases m<;>first|(cases this;rfl)|cases this
 |var=>cases this
 |_=>cases hr
theorem xN(P:PB B){tk:Tk}{outs:List Str}{r0 r1 row:List Fl}{l:Str}(hrow:(tk= .t1/\row=r0)\/(tk= .t2/\row=r1))(hlen:row.length<4)(post:List It):∀(pre:List It) (V:Sig),(pre++post).length<=4->(∀i∈post,itR i=true)->
  FT (CO B) 5200 58 mBody (aU (pre++post).length) 5201 (post.length+1) pre.length ⟨5210,none,20,PF++ar true st (tk.n:Int) V outs r0 r1 (pre++post),iL l⟩ (GO (fun V=>ar true st (tk.n:Int) V outs r0 r1 (pre++post)) l (dz row post pre.length V)).1 (GO (fun V=>ar true st (tk.n:Int) V outs r0 r1 (pre++post)) l (dz row post pre.length V)).2:=by
 induction post with
 |nil=>
  intro pre V hn hr
  refine .done rfl ?_
  rw[wT]
  exact kP
 |cons it post ih0=>
  intro pre V hn hr
  have hget:aU (pre++it::post).length pre.length ⟨5210,none,20,PF++ar true st (tk.n:Int) V outs r0 r1 (pre++it::post),iL l⟩=some (some (.int (pre.length:Int) 0)):=nB (by simp)
  have hr1:=hr it (.head _)
  cases hN:gx it with
  |false=>
   obtain⟨f,h1,h2⟩:=yh st P (rd:=true) (V:=V) (tk:=(tk.n:Int)) (outs:=outs) (r0:=r0) (r1:=r1) (l:=l) pre post it hn (by rw[DK hr1];exact hN)
   rw[lL hN,<-Dp hr1 h1]
   exact .ret rfl hget h2
  |true=>
   have hJ:=AE st P (V:=V) (outs:=outs) (l:=l) hrow hlen pre post it hn hr1 hN
   cases hf:n8 (aV row pre.length) with
   |true=>
    rw[o9 hN hf]
    rw[hf] at hJ
    obtain⟨f,W,hf2⟩:=nQ (B:=B) (l:=l) (qe true st (tk.n:Int) (bC V it (aV row pre.length)) outs r0 r1 (pre++it::post))
    have ih:=ih0 (pre++ [it]) (bC V it (aV row pre.length)) (by simpa using hn) (fun i hi=>hr i (.tail _ hi))
    rw[H1] at ih
    rw[show(pre++ [it]).length=pre.length+1 by simp] at ih
    exact .next rfl hget hJ (.inl rfl) W hf2 ih
   |false=>
    rw[qU hN hf]
    rw[hf] at hJ
    exact .ret rfl hget hJ
end
noncomputable def dn:List (Nat×Value):= [(199,.ref 3000),(195,.ref 5000)]
inductive MV where
 |fin|own (c:Int)|out (c:Int)
noncomputable def BF:MV->List (Nat×AO)
 | .fin=> []
 | .own c=> [(5400,.tup [tx "own",.int c 0])]
 | .out c=> [(5400,.tup [tx "out",.int c 0])]
noncomputable def Em:MV->Value
 | .fin=> .none
 |_=> .ref 5400
noncomputable def Fp:WR->MV
 | .fin _=> .fin
 | .own=> .own 41
 | .bad f=> .out f.code
noncomputable def zf:RR->MV×Sig
 | .fin V=>(.fin,V)
 | .own V=>(.own 43,V)
 | .bad f V=>(.out f.code,V)
noncomputable def Cg(m:MV)(L:List (Nat×AO)):Out AF:=some (.ok (.ret (Em m)),⟨5410,none,20,BF m++L,[]⟩)
section
variable{B:Base}(st:Bool)
theorem FA(P:PB B){tk:Int}{X:List (Nat×AO)}(hX:Low 5150 X):JB (CO B) (b_l_moved.take 2) ⟨5150,none,20,(cK tk++DT false st)++X,dn⟩ (some (.ok .next,⟨5200,none,20,(cK tk++DT false st)++X,iL (bQ [])⟩)):=jb P 60 5000 [] rfl hX (by kernel_rfl)
theorem FC(P:PB B){X:List (Nat×AO)}(hX:Low 5150 X):
  JB (CO B) (b_l_moved.take 2) ⟨5150,none,20,(cK 0++ [(3003,.lst [.ref 3004,.ref 3005])]++DT true st)++X,dn⟩ (some (.ok .next,⟨5200,none,20,(cK 1++ [(3003,.lst [.ref 3004,.ref 3005])]++DT true st)++X,iL (bQ [])⟩))/\
  JB (CO B) (b_l_moved.take 2) ⟨5150,none,20,(cK 1++ [(3003,.lst [.ref 3004,.ref 3005])]++DT true st)++X,dn⟩ (some (.ok .next,⟨5200,none,20,(cK 2++ [(3003,.lst [.ref 3004,.ref 3005])]++DT true st)++X,iL (bQ [])⟩))/\
  JB (CO B) b_l_moved ⟨5150,none,20,(cK 2++ [(3003,.lst [.ref 3004,.ref 3005])]++DT true st)++X,dn⟩ (some (.ok (.ret (.ref 5400)),⟨5410,none,20,([(5400,.tup [tx "own",.int (-1) 0])]++cK 2++ [(3003,.lst [.ref 3004,.ref 3005])]++DT true st)++X,[]⟩)):=
 ⟨jb P 60 5000 [] rfl hX (by kernel_rfl),jb P 60 5000 [] rfl hX (by kernel_rfl),jb P 60 5000 [] rfl hX (by kernel_rfl)⟩
theorem Ct(P:PB B){rd:Bool}{l:Str}{X:List (Nat×AO)}(hX:Low 5200 X):∀n,n<5->JE (CO B) (AY nS) ⟨5200,none,20,(DT rd st++IL n)++X,iL l⟩ (some (.ok (.int (n:Int) 0),⟨5200,none,20,(DT rd st++IL n)++X,iL l⟩))
 |0,_=>je P 60 5001 [] rfl hX (by kernel_rfl)
 |1,_=>je P 60 5001 [] rfl hX (by kernel_rfl)
 |2,_=>je P 60 5001 [] rfl hX (by kernel_rfl)
 |3,_=>je P 60 5001 [] rfl hX (by kernel_rfl)
 |4,_=>je P 60 5001 [] rfl hX (by kernel_rfl)
theorem Ey(P:PB B){tk:Int}{l:Str}{X:List (Nat×AO)}(hX:Low 5210 X):∀outs:List Str,outs.length<3->JB (CO B) (b_l_moved.drop 3) ⟨5210,none,20,(cK tk++cZ outs++DT false st)++X,iL l⟩ (some (.ok (.ret .none),⟨5410,none,20,(cK tk++cZ (outs++ [l])++DT false st)++X,[]⟩))
 | [],_=>jb P 60 5000 [] rfl hX (by kernel_rfl)
 | [a],_=>jb P 60 5000 [] rfl hX (by kernel_rfl)
 | [a,b],_=>jb P 60 5000 [] rfl hX (by kernel_rfl)
 |_::_::_::_,h=>absurd h (by simp)
theorem Ez(P:PB B){l:Str}{X:List (Nat×AO)}(hX:Low 5210 X):JB (CO B) (b_l_moved.drop 3) ⟨5210,none,20,DT true st++X,iL l⟩ (some (.ok (.ret .none),⟨5410,none,20,DT true st++X,[]⟩)):=jb P 60 5000 [] rfl hX (by kernel_rfl)
theorem gu(P:PB B){rd:Bool}{tk:Int}{V:Sig}{outs:List Str}{r0 r1:List Fl}{its:List It}{l:Str}{m:Nat}{f:AF}{s2:St}(hn:its.length<=4)(hT:FT (CO B) 5200 58 mBody (aU its.length) 5201 m 0 ⟨5210,none,20,PF++ar rd st tk V outs r0 r1 its,iL l⟩ f s2)(hp:aa 5200 s2.led=true):
  JS (CO B) nS ⟨5200,none,20,ar rd st tk V outs r0 r1 its,iL l⟩ (some (.ok f,{s2 with led:=Mine.del s2.led 5200})):=by
 rw[Cu]
 have hX:Low 5200 (cK tk++(c9 V++(cZ outs++(cu r0 r1++aA 0 its)))):=((cA tk).mono (by decide)).app (((bP V).mono (by decide)).app (((bJ outs).mono (by decide)).app (((bO r0 r1).mono (by decide)).app ((aE _ _).mono (by decide)))))
 have he:=Ct st P (rd:=rd) (l:=l) hX its.length (by omega)
 have he2:JE (CO B) (AY nS) ⟨5200,none,20,ar rd st tk V outs r0 r1 its,iL l⟩ (some (.ok (.int (its.length:Int) 0),⟨5200,none,20,ar rd st tk V outs r0 r1 its,iL l⟩)):=
  JE.after (JE.before (f:=id) he (a9 (st:=⟨5200,none,20,ar rd st tk V outs r0 r1 its,iL l⟩) (aB fun a=>by unfold ar;first|exact aF [] [_,_,_,_,_,_,_] (.r [0,1,2,3,4,5] (.l 6)) (.a (.r [4] (.l 5)) (.r [0,1,2,3] (.l 6))) rfl _|exact aF [] [_,_,_,_,_,_,_] (.a (.r [4] (.l 5)) (.r [0,1,2,3] (.l 6))) (.r [0,1,2,3,4,5] (.l 6)) rfl _|ac_rfl)) fun ι ι=>rfl) (au (aB fun a=>by unfold ar;exact aF [] [_,_,_,_,_,_,_] (.r [0,1,2,3,4,5] (.l 6)) (.a (.r [4] (.l 5)) (.r [0,1,2,3] (.l 6))) rfl _))
 refine rI he2 (.go (f0:=id) (sta:=⟨5210,none,20,PF++ar rd st tk V outs r0 r1 its,iL l⟩) rfl ?_ ?_ ?_ (fun ι ι=>rfl) hT hp)
 ·exact ls (by omega)
 ·exact(H4 _ _).mpr (by omega)
 ·exact dH (B:=B) (nx:=5201) (nx':=5210) (by decide) (by decide)
theorem nR(P:PB B){tk:Int}{V:Sig}{outs:List Str}{r0 r1:List Fl}{its:List It}(hn:its.length<=4)(ho:outs.length<3):
  JB (CO B) b_l_moved ⟨5150,none,20,ar false st tk V outs r0 r1 its,dn⟩ (Cg (Fp (d8 V its [])) (ar false st tk V (match d8 V its [] with| .fin vs=>outs++ [bQ vs]|_=>outs) r0 r1 its)):=by
 have hX:Low 5100 (c9 V++(cZ outs++(cu r0 r1++(IL its.length++aA 0 its)))):=(bP V).app ((bJ outs).app ((bO r0 r1).app ((aS _).app (aE _ _))))
 have hX2:Low 5100 (c9 V++(cu r0 r1++(IL its.length++aA 0 its))):=(bP V).app ((bO r0 r1).app ((aS _).app (aE _ _)))
 have hT:=u7 st P (V:=V) (tk:=tk) (outs:=outs) (r0:=r0) (r1:=r1) its [] [] hn rfl
 rw[m_split]
 refine ba (JB.post (B:=B) (JB.pre (FA st P (tk:=tk) (hX.mono (by decide:5100<=5150))) (aB fun a=>?_)) (l':=ar false st tk V outs r0 r1 its) (aB fun a=>?_)) ?_
 ·unfold ar;exact aF [] [_,_,_,_,_,_,_] (.a (.r [0] (.l 1)) (.r [2,3,4,5] (.l 6))) (.r [0,2,3,4,1,5] (.l 6)) rfl _
 ·unfold ar;exact aF [] [_,_,_,_,_,_,_] (.r [0,1,2,3,4,5] (.l 6)) (.a (.r [0] (.l 4)) (.r [1,2,3,5] (.l 6))) rfl _
 rw[Hw] at hT
 cases hw:d8 V its [] with
 |fin vs=>
  rw[hw] at hT
  refine aN (gu st P hn hT rfl) ?_
  have:=Ey st P (tk:=tk) (l:=bQ vs) (hX2.mono (by decide:5100<=5210)) outs ho
  refine JB.post (B:=B) (JB.pre (l:=ar false st tk V outs r0 r1 its) this (aB fun a=>?_)) (aB fun a=>?_)
  ·unfold ar;exact aF [] [_,_,_,_,_,_,_] (.a (.a (.r [0] (.l 1)) (.l 2)) (.r [3,4,5] (.l 6))) (.r [0,3,1,4,2,5] (.l 6)) rfl _
  ·unfold ar BF Fp;simp only[xz,H0];ac_rfl
 |own=>
  rw[hw] at hT
  exact bZ (gu st P hn hT rfl)
 |bad f=>
  rw[hw] at hT
  exact bZ (gu st P hn hT rfl)
theorem iG(P:PB B){tk:Tk}{V:Sig}{outs:List Str}{r0 r1 row:List Fl}{its:List It}(hrow:(tk= .t1/\row=r0)\/(tk= .t2/\row=r1))(hlen:row.length<4)(hn:its.length<=4)(hr:∀i∈its,itR i=true):
  JB (CO B) (nS::b_l_moved.drop 3) ⟨5200,none,20,ar true st (tk.n:Int) V outs r0 r1 its,iL (bQ [])⟩ (Cg (zf (dz row its 0 V)).1 (ar true st (tk.n:Int) (zf (dz row its 0 V)).2 outs r0 r1 its)):=by
 have hT:=xN st P (outs:=outs) (r0:=r0) (r1:=r1) (l:=bQ []) hrow hlen its [] V hn hr
 rw[Hw] at hT
 have hX:∀V,Low 5100 (cK (tk.n:Int)++(c9 V++(cZ outs++(cu r0 r1++(IL its.length++aA 0 its))))):=fun V=>(cA _).app ((bP V).app ((bJ outs).app ((bO r0 r1).app ((aS _).app (aE _ _)))))
 show JB (CO B) _ _ (Cg (zf (dz row its ([]:List It).length V)).1 (ar true st (tk.n:Int) (zf (dz row its ([]:List It).length V)).2 outs r0 r1 its))
 cases hw:dz row its ([]:List It).length V with
 |fin V'=>
  rw[hw] at hT
  refine aN (gu st P hn hT rfl) ?_
  have:=Ez st P (l:=bQ []) ((hX V').mono (by decide:5100<=5210))
  refine JB.post (B:=B) (JB.pre (l:=ar true st (tk.n:Int) V' outs r0 r1 its) this (aB fun a=>?_)) (aB fun a=>?_)
  ·unfold ar;exact aF [] [_,_,_,_,_,_,_] (.r [0,1,2,3,4,5] (.l 6)) (.r [1,2,3,4,0,5] (.l 6)) rfl _
  ·unfold ar BF zf;simp only[xz,H0];ac_rfl
 |own V'=>
  rw[hw] at hT
  exact bZ (gu st P hn hT rfl)
 |bad f V'=>
  rw[hw] at hT
  exact bZ (gu st P hn hT rfl)
noncomputable def lO(V:Sig)(its:List It)(r0 r1:List Fl):Tk->MV×Sig
 | .t0=>zf (dz r0 its 0 V)
 | .t1=>zf (dz r1 its 0 V)
 | .t2=>(.own (-1),V)
theorem oy(P:PB B){V:Sig}{outs:List Str}{r0 r1:List Fl}{its:List It}(h0:r0.length<4)(h1:r1.length<4)(hn:its.length<=4)(hr:∀i∈its,itR i=true)(tk:Tk):
  JB (CO B) b_l_moved ⟨5150,none,20,ar true st (tk.n:Int) V outs r0 r1 its,dn⟩ (Cg (lO V its r0 r1 tk).1 (ar true st (tk.s.n:Int) (lO V its r0 r1 tk).2 outs r0 r1 its)):=by
 have hX:Low 5100 (c9 V++(cZ outs++([(3004,.lst (bB r0)),(3005,.lst (bB r1))]++(IL its.length++aA 0 its)))):=(bP V).app ((bJ outs).app ((aI (k:=3004) (x:= .lst (bB r0)) rfl (bH _) rfl (aI (k:=3005) (x:= .lst (bB r1)) rfl (bH _) rfl aO)).app ((aS _).app (aE _ _))))
 have hb:=FC st P (hX.mono (by decide:5100<=5150))
 have h4:cu r0 r1= [(3003,.lst [.ref 3004,.ref 3005])]++ [(3004,.lst (bB r0)),(3005,.lst (bB r1))]:=rfl
 cases tk with
 |t0=>
  rw[m_split]
  refine ba (JB.post (B:=B) (JB.pre (l:=ar true st 0 V outs r0 r1 its) hb.1 (aB fun a=>?_)) (l':=ar true st 1 V outs r0 r1 its) (aB fun a=>?_)) (iG st P (tk:= .t1) (.inl ⟨rfl,rfl⟩) h0 hn hr)
  ·unfold ar;rw[h4];exact aF [_,_,_] [_,_,_,_,_,_] (.a (.a (.r [0] (.c 0 .n)) (.l 1)) (.r [2,3] (.a (.c 1 (.c 2 .n)) (.r [4] (.l 5))))) (.r [0,2,3] (.a (.a (.c 0 .n) (.c 1 (.c 2 .n))) (.r [1,4] (.l 5)))) rfl _
  ·unfold ar;rw[h4];exact aF [_,_,_] [_,_,_,_,_,_] (.r [0,1,2] (.a (.a (.c 0 .n) (.c 1 (.c 2 .n))) (.r [3,4] (.l 5)))) (.a (.a (.r [0] (.c 0 .n)) (.l 3)) (.r [1,2] (.a (.c 1 (.c 2 .n)) (.r [4] (.l 5))))) rfl _
 |t1=>
  rw[m_split]
  refine ba (JB.post (B:=B) (JB.pre (l:=ar true st 1 V outs r0 r1 its) hb.2.1 (aB fun a=>?_)) (l':=ar true st 2 V outs r0 r1 its) (aB fun a=>?_)) (iG st P (tk:= .t2) (.inr ⟨rfl,rfl⟩) h1 hn hr)
  ·unfold ar;rw[h4];exact aF [_,_,_] [_,_,_,_,_,_] (.a (.a (.r [0] (.c 0 .n)) (.l 1)) (.r [2,3] (.a (.c 1 (.c 2 .n)) (.r [4] (.l 5))))) (.r [0,2,3] (.a (.a (.c 0 .n) (.c 1 (.c 2 .n))) (.r [1,4] (.l 5)))) rfl _
  ·unfold ar;rw[h4];exact aF [_,_,_] [_,_,_,_,_,_] (.r [0,1,2] (.a (.a (.c 0 .n) (.c 1 (.c 2 .n))) (.r [3,4] (.l 5)))) (.a (.a (.r [0] (.c 0 .n)) (.l 3)) (.r [1,2] (.a (.c 1 (.c 2 .n)) (.r [4] (.l 5))))) rfl _
 |t2=>
  refine JB.post (B:=B) (JB.pre (l:=ar true st 2 V outs r0 r1 its) hb.2.2 (aB fun a=>?_)) (l':= [(5400,.tup [tx "own",.int (-1) 0])]++ar true st 2 V outs r0 r1 its) (aB fun a=>?_)
  ·unfold ar;rw[h4];exact aF [_,_,_] [_,_,_,_,_,_] (.a (.a (.r [0] (.c 0 .n)) (.l 1)) (.r [2,3] (.a (.c 1 (.c 2 .n)) (.r [4] (.l 5))))) (.r [0,2,3] (.a (.a (.c 0 .n) (.c 1 (.c 2 .n))) (.r [1,4] (.l 5)))) rfl _
  ·unfold ar;rw[h4];exact aF [_,_,_,_] [_,_,_,_,_,_] (.a (.c 0 .n) (.r [0,1,2] (.a (.a (.c 1 .n) (.c 2 (.c 3 .n))) (.r [3,4] (.l 5))))) (.a (.a (.a (.a (.c 0 .n) (.l 0)) (.c 1 .n)) (.l 3)) (.r [1,2] (.a (.c 2 (.c 3 .n)) (.r [4] (.l 5))))) rfl _
end
noncomputable def lw:Option Int->Value
 |none=> .int 4 0
 |some _=> .ref 5500
noncomputable def j4:Option Int->List (Nat×AO)
 |none=> []
 |some c=> [(5500,.tup [tx "out",.int c 0])]
noncomputable def sJ(st:Bool)(V:Sig):MV->Option Int×Sig
 | .fin=>(none,σF st V)
 | .own c=>match st with
  |true=>(none,VS V c)
  |false=>(some c,V)
 | .out c=>(some c,V)
section
variable{B:Base}(st:Bool)
theorem yK(P:PB B){rd:Bool}{tk:Int}{V:Sig}{X:List (Nat×AO)}(hX:Low 5410 X)(m:MV):
  JB (CO B) (b_l_due.drop 1) ⟨5410,none,21,(BF m++cK tk++c9 V++DT rd st)++X,[(199,.ref 3000),(195,.ref 5000),(201,Em m)]⟩ (some (.ok (.ret (lw (sJ st V m).1)),⟨5600,none,21,(j4 (sJ st V m).1++cK tk++c9 (sJ st V m).2++DT rd st)++X,[]⟩)):=by
 cases m with
 |fin=>cases st<;>exact jb P 60 5000 [] rfl hX (by kernel_rfl)
 |own c=>cases st<;>exact jb P 60 5000 [] rfl hX (by kernel_rfl)
 |out c=>cases st<;>exact jb P 60 5000 [] rfl hX (by kernel_rfl)
theorem vT(P:PB B){rd:Bool}{tk tk':Int}{V V':Sig}{outs outs':List Str}{r0 r1:List Fl}{its:List It}{m:MV}
  (hm:JB (CO B) b_l_moved ⟨5150,none,20,ar rd st tk V outs r0 r1 its,dn⟩ (Cg m (ar rd st tk' V' outs' r0 r1 its))):
  JB (CO B) b_l_due ⟨5100,none,21,ar rd st tk V outs r0 r1 its,dn⟩ (some (.ok (.ret (lw (sJ st V' m).1)),⟨5600,none,21,j4 (sJ st V' m).1++ar rd st tk' (sJ st V' m).2 outs' r0 r1 its,[]⟩)):=by
 have hc0:=bf P.FO (k:=1327) (vs:= [.ref 3000,.ref 5000]) (st:=⟨5150,none,21,ar rd st tk V outs r0 r1 its,dn⟩) (LA:=ar rd st tk V outs r0 r1 its) (LB:= []) (d:=20) (lo:=dn) (fi:=⟨false,[199,195],[],[],b_l_moved⟩) (by kernel_rfl) (wT _).symm rfl rfl hm
 rw[fQ] at hc0
 have hc1:CallSat (CO B) 1327 [.ref 3000,.ref 5000] ⟨5100,none,21,ar rd st tk V outs r0 r1 its,dn⟩ (some (.ok (Em m),⟨5410,none,21,BF m++ar rd st tk' V' outs' r0 r1 its,dn⟩)):=CallSat.before (f:=id) hc0 (dH (B:=B) (nx:=5100) (nx':=5150) (by decide) (by decide)) fun ι ι=>rfl
 have hf:JE (CO B) (.glob 202 (.ref 1327)) ⟨5100,none,21,ar rd st tk V outs r0 r1 its,dn⟩ (some (.ok (.ref 1327),⟨5100,none,21,ar rd st tk V outs r0 r1 its,dn⟩)):=BK P 5 (by kernel_rfl)
 have hcall:=mU P.TO P.FO P.oo (n:=5) (es:= [.loc 199,.loc 195]) hf (by kernel_rfl) (show d0 (RN B 5) [.loc 199,.loc 195] ⟨5100,none,21,ar rd st tk V outs r0 r1 its,dn⟩=some (.ok [.ref 3000,.ref 5000],⟨5100,none,21,ar rd st tk V outs r0 r1 its,dn⟩) from by kernel_rfl) hc1
 have hs:b_l_due= .asg 201 (.call (.glob 202 (.ref 1327)) [.loc 199,.loc 195])::b_l_due.drop 1:=rfl
 rw[hs]
 have hX:Low 5100 (cZ outs'++(cu r0 r1++(IL its.length++aA 0 its))):=(bJ _).app ((bO r0 r1).app ((aS _).app (aE _ _)))
 have he:=yK st P (rd:=rd) (tk:=tk') (V:=V') (hX.mono (by decide:5100<=5410)) m
 refine aN (Az hcall) (JB.post (B:=B) (JB.pre (l:=BF m++ar rd st tk' V' outs' r0 r1 its) he (aB fun a=>?_)) (aB fun a=>?_))
 ·unfold ar;exact aF [] [_,_,_,_,_,_,_,_] (.a (.a (.a (.r [0] (.l 1)) (.l 2)) (.l 3)) (.r [4,5,6] (.l 7))) (.r [0,1,2,4,5,3,6] (.l 7)) rfl _
 ·unfold ar;exact aF [] [_,_,_,_,_,_,_,_] (.r [0,1,2,3,4,5,6] (.l 7)) (.a (.a (.a (.r [0] (.l 1)) (.l 2)) (.l 5)) (.r [3,4,6] (.l 7))) rfl _
theorem vV(P:PB B)(d:Deed)(hd:j6 d){r0 r1:List Fl}(h0:r0.length<4)(h1:r1.length<4)(V:Sig)(tk:Tk)(outs:List Str)(ho:outs.length<3):
  JB (CO B) b_l_due ⟨5100,none,21,ar d.rd d.st (tk.n:Int) V outs r0 r1 d.its,dn⟩ (some (.ok (.ret (lw (af d r0 r1 V tk outs).out)),⟨5600,none,21,j4 (af d r0 r1 V tk outs).out++ar d.rd d.st ((af d r0 r1 V tk outs).tk.n:Int) (af d r0 r1 V tk outs).V (af d r0 r1 V tk outs).outs r0 r1 d.its,[]⟩)):=by
 obtain⟨rd,st,its⟩:=d
 obtain⟨hn,hr⟩:=hd
 dsimp only at hn hr⊢
 cases rd with
 |false=>
  have:=vT st P (nR st P (tk:=(tk.n:Int)) (V:=V) (r0:=r0) (r1:=r1) hn ho)
  show JB (CO B) b_l_due _ (some (.ok (.ret (lw (bv st V tk outs (d8 V its [])).out)),⟨5600,none,21,j4 (bv st V tk outs (d8 V its [])).out++ar false st ((bv st V tk outs (d8 V its [])).tk.n:Int) (bv st V tk outs (d8 V its [])).V (bv st V tk outs (d8 V its [])).outs r0 r1 its,[]⟩))
  cases hw:d8 V its [] with
  |fin vs=>rw[hw] at this;exact this
  |own=>rw[hw] at this;cases st<;>exact this
  |bad f=>rw[hw] at this;exact this
 |true=>
  have:=vT st P (oy st P (V:=V) (outs:=outs) h0 h1 hn (hr rfl) tk)
  cases tk with
  |t0=>
   show JB (CO B) b_l_due _ (some (.ok (.ret (lw (b0 st .t1 outs (dz r0 its 0 V)).out)),⟨5600,none,21,j4 (b0 st .t1 outs (dz r0 its 0 V)).out++ar true st ((b0 st .t1 outs (dz r0 its 0 V)).tk.n:Int) (b0 st .t1 outs (dz r0 its 0 V)).V (b0 st .t1 outs (dz r0 its 0 V)).outs r0 r1 its,[]⟩))
   unfold lO at this
   cases hw:dz r0 its 0 V with
   |fin V'=>rw[hw] at this;exact this
   |own V'=>rw[hw] at this;cases st<;>exact this
   |bad f V'=>rw[hw] at this;exact this
  |t1=>
   show JB (CO B) b_l_due _ (some (.ok (.ret (lw (b0 st .t2 outs (dz r1 its 0 V)).out)),⟨5600,none,21,j4 (b0 st .t2 outs (dz r1 its 0 V)).out++ar true st ((b0 st .t2 outs (dz r1 its 0 V)).tk.n:Int) (b0 st .t2 outs (dz r1 its 0 V)).V (b0 st .t2 outs (dz r1 its 0 V)).outs r0 r1 its,[]⟩))
   unfold lO at this
   cases hw:dz r1 its 0 V with
   |fin V'=>rw[hw] at this;exact this
   |own V'=>rw[hw] at this;cases st<;>exact this
   |bad f V'=>rw[hw] at this;exact this
  |t2=>cases st<;>exact this
end
noncomputable def V0:Sig:=⟨-5,.v9,.v1,.v2,.v3⟩
noncomputable def ix(r0 r1:List Fl):List (Nat×AO):= [(1351,.lst [.ref 1354,.ref 1355]),(1354,.lst (bB r0)),(1355,.lst (bB r1))]
noncomputable def fi:Fl->Int
 | .f7=>0| .f40=>1| .fx=>2| .fb=>3| .f21=>4
noncomputable def wn:List Fl->List Gt
 | []=> []
 |f::r=> .dr 5 (fi f)::wn r
noncomputable def fj:List (Nat×Value):= [(44,.ref 1341),(174,.ref 1342),(203,.ref 1340)]
noncomputable def fls:List Fl:= [.f7,.f40,.fx,.fb,.f21]
theorem eW(f:Fl):f∈fls:=by cases f<;>repeat first|exact .head _|refine .tail _ ?_
noncomputable def Fz:List (List Fl):= []::(fls.map (fun a=> [a])++(fls.flatMap (fun a=>fls.map fun b=> [a,b])++fls.flatMap fun a=>fls.flatMap fun b=>fls.map fun c=> [a,b,c]))
theorem xP:∀r:List Fl,r.length<4->r∈Fz
 | [],_=> .head _
 | [a],_=> .tail _ (r6 _ (nw (eW a)))
 | [a,b],_=> .tail _ (ev _ (r6 _ (HW (eW a) (nw (eW b)))))
 | [a,b,c],_=> .tail _ (ev _ (ev _ (HW (eW a) (HW (eW b) (nw (eW c))))))
 |_::_::_::_::_,h=>absurd h (by simp)
section
variable{B:Base}
noncomputable def TG:List (Nat×AO):= [(1303,.tabl [(955,4),(958,4)])]
noncomputable def FE(B:Base)(r0 r1:List Fl):=cD ah tokF 1990 0 [] (RG++MG 2005 V0++YY 0 (aK r0) (aK r1) []++ix r0 r1++TG) [] 2045 none [] 38 (.ok (.ret (.ref 2000)))
 ((RN B 60).b b_l_run ⟨1990,none,38,ix r0 r1++ [(1303,.tabl [])],[(184,.ref 1351)]⟩)
theorem CA{P:List Fl->Prop}(h0:P [])(h1:∀a,P [a])(h2:∀a b,P [a,b])(h3:∀a b c,P [a,b,c])(r:List Fl)(h:r.length<4):P r:=by
 cases r with
 |nil=>exact h0
 |cons a r=>
  cases r with
  |nil=>exact h1 a
  |cons b r=>
   cases r with
   |nil=>exact h2 a b
   |cons c r=>
    cases r with
    |nil=>exact h3 a b c
    |cons d r=>exact absurd h (Nat.not_lt.mpr (Jl 4 r.length))
theorem FD(r0 r1:List Fl)(h0:r0.length<4)(h1:r1.length<4):(FE B r0 r1).1=(FE B r0 r1).2:=by
 revert r0 h0
 refine CA ?_ (fun d=>?_) (fun d e=>?_) fun d e f=>?_
 all_goals
  revert r1 h1
  refine CA ?_ (fun a=>?_) (fun a b=>?_) fun a b c=>?_
  all_goals kernel_rfl
theorem tj(P:PB B){r0 r1:List Fl}(h0:r0.length<4)(h1:r1.length<4)(LB:List (Nat×AO))(lo:List (Nat×Value)):
  CallSat (CO B) 1306 [.ref 1351] ⟨1990,none,39,(ix r0 r1++ [(1303,.tabl [])])++LB,lo⟩ (some (.ok (.ref 2000),⟨2045,none,39,(RG++MG 2005 V0++YY 0 (aK r0) (aK r1) []++ix r0 r1++TG)++LB,lo⟩)):=by
 have e:=FD (B:=B) r0 r1 h0 h1
 unfold FE at e
 have hj:=jb P 60 0 [] rfl aO e
 have:=bf P.FO (k:=1306) (vs:= [.ref 1351]) (st:=⟨1990,none,39,(ix r0 r1++ [(1303,.tabl [])])++LB,lo⟩) (LA:=ix r0 r1++ [(1303,.tabl [])]) (LB:=LB) (d:=38) (lo:= [(184,.ref 1351)]) (fi:=⟨false,[184],[],[],b_l_run⟩) (by kernel_rfl) rfl rfl rfl hj
 rw[wT] at this
 exact this
noncomputable def By(B:Base)(i:Int)(gs:List Gt)(X:List (Nat×AO))(r:List Fl):=cD ren tokV 1400 1342 [] ([(1400,.lst (bB r)),(1343,.gh gs),(1344,.scr),(1342,.cell (some (.ref 1343)))]) X 1401 none ((205,.ref 1352)::fj) 39 (.ok (.ref 1400))
 ((RN B 60).e EH ⟨1400,none,39,[(1343,.gh (.dr 4 (r.length:Nat)::(wn r++gs))),(1344,.scr),(1342,.cell (some (.ref 1343)))]++X,(205,.ref 1352)::fj⟩)
theorem E1(i:Int)(gs:List Gt)(X:List (Nat×AO))(r:List Fl)(h:r.length<4):(By B i gs X r).1=(By B i gs X r).2:=
 qY (f:=fun r=>(By B i gs X r).1) (g:=fun r=>(By B i gs X r).2) (l:=Fz) (by kernel_rfl) r (xP r h)
end
noncomputable def GC(gs:List Gt):List (Nat×AO):= [(1343,.gh gs),(1344,.scr),(1342,.cell (some (.ref 1343)))]
theorem jM(gs:List Gt):Low 1345 (GC gs):=aI rfl rfl rfl (aI rfl rfl rfl (aI rfl rfl rfl aO))
noncomputable def bT(r:List Fl)(gs:List Gt):List Gt:= .dr 4 (r.length:Nat)::(wn r++gs)
section
variable{B:Base}
theorem y9(P:PB B){gs:List Gt}{X:List (Nat×AO)}{r:List Fl}(hX:Low 1400 X)(hr:r.length<4):JE (CO B) EH ⟨1400,none,39,GC (bT r gs)++X,(205,.ref 1352)::fj⟩ (some (.ok (.ref 1400),⟨1401,none,39,([(1400,.lst (bB r))]++GC gs)++X,(205,.ref 1352)::fj⟩)):=by
 have e:=E1 (B:=B) 0 gs X r hr
 unfold By at e
 exact je P 60 1342 [] rfl hX e
noncomputable def qA(x:Nat)(i:Int)(vs:List Value):List (Nat×AO):= [(1352,.ns [(x,.int i 0)]),(1351,.lst vs),(1350,.fn)]
theorem wm{X:List (Nat×AO)}(hX:Low 1353 X):∀r:List Fl,r.length<4->
  ∃f,Weak (CO B) f ⟨1401,none,39,([(1400,.lst (bB r))]++qA 205 0 [.ref 1400])++X,(205,.ref 1352)::fj⟩ ⟨1400,none,39,([(1354,.lst (bB r))]++qA 205 0 [.ref 1354])++X,(205,.ref 1352)::fj⟩/\∀k,k<1353->f k=k
 | [],_=>wk B rfl 1350 [1351] hX (by kernel_rfl)
 | [a],_=>wk B rfl 1350 [1351] hX (by kernel_rfl)
 | [a,b],_=>wk B rfl 1350 [1351] hX (by kernel_rfl)
 | [a,b,c],_=>wk B rfl 1350 [1351] hX (by kernel_rfl)
 |_::_::_::_::_,h=>absurd h (by simp)
theorem wl{X:List (Nat×AO)}(hX:Low 1355 X):∀r:List Fl,r.length<4->
  ∃f,Weak (CO B) f ⟨1401,none,39,([(1400,.lst (bB r))]++qA 205 1 [.ref 1354,.ref 1400])++X,(205,.ref 1352)::fj⟩ ⟨1400,none,39,([(1355,.lst (bB r))]++qA 205 1 [.ref 1354,.ref 1355])++X,(205,.ref 1352)::fj⟩/\∀k,k<1355->f k=k
 | [],_=>wk B rfl 1350 [1351] hX (by kernel_rfl)
 | [a],_=>wk B rfl 1350 [1351] hX (by kernel_rfl)
 | [a,b],_=>wk B rfl 1350 [1351] hX (by kernel_rfl)
 | [a,b,c],_=>wk B rfl 1350 [1351] hX (by kernel_rfl)
 |_::_::_::_::_,h=>absurd h (by simp)
end
section
variable{B:Base}
theorem JE.pre{ir:IE}{nx dp:Nat}{hd:Option Nat}{l l':List (Nat×AO)}{lo:List (Nat×Value)}{o:Out Value}(h:JE (CO B) ir ⟨nx,hd,dp,l',lo⟩ o)(p:l'.Perm l):JE (CO B) ir ⟨nx,hd,dp,l,lo⟩ o:=JE.before (f:=id) h (a9 (st:=⟨nx,hd,dp,l,lo⟩) p) fun ι ι=>rfl
theorem JE.post{ir:IE}{st0:St}{nx dp:Nat}{hd:Option Nat}{l l':List (Nat×AO)}{lo:List (Nat×Value)}{r:Res Value}(h:JE (CO B) ir st0 (some (r,⟨nx,hd,dp,l,lo⟩)))(p:l'.Perm l):JE (CO B) ir st0 (some (r,⟨nx,hd,dp,l',lo⟩)):=h.after (au p)
theorem JE.up{ir:IE}{nx nx' dp:Nat}{hd:Option Nat}{l:List (Nat×AO)}{lo:List (Nat×Value)}{o:Out Value}(h:JE (CO B) ir ⟨nx',hd,dp,l,lo⟩ o)(hn:gy nx nx'=true)(h2:gy 1340 nx'=true):JE (CO B) ir ⟨nx,hd,dp,l,lo⟩ o:=JE.before (f:=id) h (dH (al hn) (al h2)) fun ι ι=>rfl
theorem Weak.reorderL{S:Core}{f:Nat->Nat}{st1:St}{nx dp:Nat}{hd:Option Nat}{l l':List (Nat×AO)}{lo:List (Nat×Value)}(W:Weak S f ⟨nx,hd,dp,l,lo⟩ st1)(p:l.Perm l'):Weak S f ⟨nx,hd,dp,l',lo⟩ st1:=
 {hd:=W.hd,hb:=W.hb,gh:=W.gh,hi:=W.hi,led:=fun q hq=>p.subset (W.led q hq),nd:=fun h=>W.nd (((p.map (·.1)).nodup_iff).mpr h),lo:=W.lo,pin:=W.pin,h:=W.h,dp:=W.dp}
theorem qd{k n:Nat}(hk:u8 k n=true)(r:List Fl):Low n [(k,.lst (bB r))]:=aI hk (bH r) rfl aO
theorem wj(P:PB B){r0 r1:List Fl}(h0:r0.length<4)(h1:r1.length<4)(gs:List Gt){X:List (Nat×AO)}(hX:Low 1345 X):
  JS (CO B) (.asgL 184 205 (.cst (.int 2 0)) 3) ⟨1350,none,39,GC (bT r0 (bT r1 gs))++X,fj⟩ (some (.ok .next,⟨1400,none,39,ix r0 r1++(GC gs++X),bI fj 184 (.ref 1351)⟩)):=by
 have c0:JE (CO B) (.cst (.int 2 0)) ⟨1350,none,39,GC (bT r0 (bT r1 gs))++X,fj⟩ (some (.ok (.int 2 0),⟨1350,none,39,GC (bT r0 (bT r1 gs))++X,fj⟩)):=eT P.TO P.FO P.oo 60 _ _
 have l1:Low 1400 (qA 205 0 []):=aJ (by rfl)
 have l2:Low 1400 (qA 205 1 [.ref 1354]):=aJ (by rfl)
 have j1:=y9 P (gs:=bT r1 gs) (X:=qA 205 0 []++X) (l1.app (hX.mono (by decide))) h0
 have j2:=y9 P (gs:=gs) (X:=qA 205 1 [.ref 1354]++([(1354,.lst (bB r0))]++X)) (l2.app ((qd rfl r0).app (hX.mono (by decide)))) h1
 obtain⟨f1,W1,hf1⟩:=wm (B:=B) (X:=GC (bT r1 gs)++X) (((jM _).app hX).mono (by decide)) r0 h0
 obtain⟨f2,W2,hf2⟩:=wl (B:=B) (X:= [(1354,.lst (bB r0))]++(GC gs++X)) ((qd rfl r0).app (((jM _).app hX).mono (by decide))) r1 h1
 have t1:=W1.reorderL (l':=([(1400,.lst (bB r0))]++GC (bT r1 gs))++(qA 205 0 [.ref 1400]++X)) (aB fun a=>by exact aF [_] [_,_,_] (.a (.a (.c 0 .n) (.l 0)) (.r [1] (.l 2))) (.a (.a (.c 0 .n) (.l 1)) (.r [0] (.l 2))) rfl _)
  |>.reorder (l':=qA 205 0 [.ref 1354]++([(1354,.lst (bB r0))]++(GC (bT r1 gs)++X))) (aB fun a=>by exact aF [_] [_,_,_] (.r [0] (.a (.c 0 .n) (.r [1] (.l 2)))) (.a (.a (.c 0 .n) (.l 0)) (.r [1] (.l 2))) rfl _)
 have t2:=W2.reorderL (l':=([(1400,.lst (bB r1))]++GC gs)++(qA 205 1 [.ref 1354,.ref 1400]++([(1354,.lst (bB r0))]++X))) (aB fun a=>by exact aF [_,_] [_,_,_] (.a (.a (.c 0 .n) (.l 0)) (.a (.c 1 .n) (.r [1] (.l 2)))) (.a (.a (.c 0 .n) (.l 1)) (.r [0] (.a (.c 1 .n) (.l 2)))) rfl _)
  |>.reorder (l':=qA 205 1 [.ref 1354,.ref 1355]++([(1354,.lst (bB r0))]++([(1355,.lst (bB r1))]++(GC gs++X)))) (aB fun a=>by exact aF [_,_] [_,_,_] (.r [0] (.a (.c 0 .n) (.a (.c 1 .n) (.r [1] (.l 2))))) (.a (.a (.c 1 .n) (.l 0)) (.a (.c 0 .n) (.r [1] (.l 2)))) rfl _)
 have k1:=JE.up (nx:=1353) (JE.pre (l:=qA 205 0 []++(GC (bT r0 (bT r1 gs))++X)) j1 (aB fun a=>by exact aF [] [_,_,_] (.r [0,1] (.l 2)) (.r [1,0] (.l 2)) rfl _)) rfl rfl
 have k2:=JE.pre (l:=qA 205 1 [.ref 1354]++([(1354,.lst (bB r0))]++(GC (bT r1 gs)++X))) j2 (aB fun a=>by exact aF [_] [_,_,_] (.r [0,1] (.a (.c 0 .n) (.l 2))) (.r [1] (.a (.c 0 .n) (.r [0] (.l 2)))) rfl _)
 have hT:CT (CO B) 205 EH 1351 1352 1350 (aU 2) 1353 3 0 (eK 205 ⟨1350,none,39,GC (bT r0 (bT r1 gs))++X,fj⟩) (.ok ()) ⟨1400,none,39,qA 205 1 [.ref 1354,.ref 1355]++([(1354,.lst (bB r0))]++([(1355,.lst (bB r1))]++(GC gs++X))),(205,.ref 1352)::fj⟩:=
  .next rfl rfl rfl rfl k1 rfl rfl t1 hf1 (.next rfl rfl rfl rfl k2 rfl rfl t2 (fun k hk=>hf2 k (Hk hk (by decide:1353<1355))) (.done rfl rfl))
 refine iz P.TO (w:= .ref 1351) (st2:=⟨1400,none,39,ix r0 r1++(GC gs++X),fj⟩) c0 ?_
 have hc:=CAns.rng (T:=TB) (k:=3) (t:=0) (nn:=2) (st:=⟨1350,none,39,GC (bT r0 (bT r1 gs))++X,fj⟩) rfl rfl rfl rfl Weak.refl (fun ι ι=>rfl) hT
 exact hc
end
noncomputable def tL{α β:Type}(f:α->β×β):List α->List β
 | []=> []
 |a::r=>(f a).1::tL f r
noncomputable def tR{α β:Type}(f:α->β×β):List α->List β
 | []=> []
 |a::r=>(f a).2::tR f r
theorem tab_of{α β:Type}{f:α->β×β}{l:List α}:tL f l=tR f l->∀a∈l,(f a).1=(f a).2:=by
 induction l with
 |nil=>intro h a ha;cases ha
 |cons b r ih=>
  intro h a ha
  have h1:(f b).1::tL f r=(f b).2::tR f r:=h
  injection h1 with h2 h3
  cases ha with
  |head=>exact h2
  |tail _ m=>exact ih h3 a m
inductive Ri where
 |it (i:It)|v1|v2
noncomputable def Ri.im:Ri->It
 | .it i=>i
 |_=> .var
noncomputable def El:Nd->List Gt
 | .a0=> [.dr 2 1,.dr 4 0]| .a1=> [.dr 2 1,.dr 4 1]| .a2=> [.dr 2 1,.dr 4 2]| .a3=> [.dr 2 1,.dr 4 3]
 | .c1=> [.dr 2 0,.dr 3 0]| .c2=> [.dr 2 0,.dr 3 1]| .c3=> [.dr 2 0,.dr 3 2]
noncomputable def Dx:Ri->List Gt
 | .it (.elem n)=> .dr 4 0::El n
 | .it (.nod n)=> .dr 4 1::El n
 | .it .k4=> [.dr 4 2,.dr 2 0]
 | .it .k13=> [.dr 4 2,.dr 2 1]
 | .it .var=> [.dr 4 3]
 | .v1=> [.dr 4 1]
 | .v2=> [.dr 4 2]
noncomputable def risR:List Ri:=nds.map (fun n=> .it (.elem n))++ [.it .var,.v1,.v2]
noncomputable def wo:List Ri:=nds.map (fun n=> .it (.elem n))++(nds.map (fun n=> .it (.nod n))++ [.it .k4,.it .k13,.it .var])
noncomputable def CB:Bool->List Ri
 |true=>risR
 |false=>wo
noncomputable def ot:Nat->Nat
 |0=>5010|1=>5013|2=>5016|3=>5019|_=>5022
noncomputable def sj(rd st:Bool):List (Nat×Value):= [(56,.ref 5001),(179,.bool st),(178,.bool rd),(174,.ref 1343)]
noncomputable def qu:List IS:=match b_l_deed with
 | [_,_,_,.forR _ _ b,_]=>b
 |_=> []
noncomputable def GU:IE:=match b_l_deed with
 | [_,_,_,.forR _ e _,_]=>e
 |_=> .cst .none
theorem pS:b_l_deed=b_l_deed.take 3++(.forR 180 GU qu::b_l_deed.drop 4):=rfl
section
variable{B:Base}
noncomputable def A5(B:Base)(g:List Gt)(X:List (Nat×AO))(rd st:Bool)(p:Nat×Ri):=cD ah tokF (ot p.1) 5001 [5001] (aG (ib p.1) p.2.im++ [(1343,.gh g),(1344,.scr),(5001,.lst (refs (p.1+1)))]) X (ot (p.1+1)) none (sj rd st) 38 (.ok .next)
 ((RN B 60).b qu ⟨ot p.1,none,38,[(1343,.gh (Dx p.2++g)),(1344,.scr),(5001,.lst (refs p.1))]++X,sj rd st++ [(180,.int (p.1:Nat) 0)]⟩)
noncomputable def CL(l:List Ri):List (Nat×Ri):= [0,1,2,3].flatMap fun j=>l.map fun r=>(j,r)
theorem F6(g:List Gt)(X:List (Nat×AO))(st:Bool):tL (A5 B g X true st) (CL risR)=tR (A5 B g X true st) (CL risR):=by kernel_rfl
theorem FZ(g:List Gt)(X:List (Nat×AO))(st:Bool):tL (A5 B g X false st) (CL wo)=tR (A5 B g X false st) (CL wo):=by kernel_rfl
theorem q8{l:List Ri}{j:Nat}(hj:j<4){r:Ri}(h:r∈l):(j,r)∈CL l:=
 sK.mpr ⟨j,by match j,hj with|0,_=>simp|1,_=>simp|2,_=>simp|3,_=>simp,re.mpr ⟨r,h,rfl⟩⟩
theorem xV:∀j,gy 1345 (ot j)=true
 |0=>rfl|1=>rfl|2=>rfl|3=>rfl|_+4=>rfl
theorem sM(P:PB B)(g:List Gt)(rd st:Bool){X:List (Nat×AO)}{j:Nat}(hj:j<4)(hX:Low (ot j) X){r:Ri}(hr:r∈CB rd):
  JB (CO B) qu ⟨ot j,none,38,[(1343,.gh (Dx r++g)),(1344,.scr),(5001,.lst (refs j))]++X,sj rd st++ [(180,.int (j:Nat) 0)]⟩
   (some (.ok .next,⟨ot (j+1),none,38,(aG (ib j) r.im++ [(1343,.gh g),(1344,.scr),(5001,.lst (refs (j+1)))])++X,sj rd st⟩)):=by
 have e:(A5 B g X rd st (j,r)).1=(A5 B g X rd st (j,r)).2:=by
  cases rd with
  |true=>exact tab_of (F6 g X st) _ (q8 hj hr)
  |false=>exact tab_of (FZ g X st) _ (q8 hj hr)
 unfold A5 at e
 exact jb P 60 5001 [5001] (xV j) hX e
end
noncomputable def iP:List Ri->List Gt->List Gt
 | [],g=>g
 |r::rs,g=>Dx r++iP rs g
theorem uf:([0,1,2,3].all fun j=>allIts.all fun i=>bU (ot (j+1)) (aG (ib j) i))=true:=by kernel_rfl
theorem bz{j:Nat}(hj:j<4)(i:It):Low (ot (j+1)) (aG (ib j) i):=
 aJ (eg.mp (eg.mp uf j (by match j,hj with|0,_=>simp|1,_=>simp|2,_=>simp|3,_=>simp)) i (dS i))
theorem jL:∀its:List It,its.length<=4->Low (ot its.length) (aA 0 its)
 | [],_=>aO
 | [a],_=>(bz (j:=0) (by decide) a).app aO
 | [a,b],_=>((bz (j:=0) (by decide) a).mono (by decide:5013<=5016)).app ((bz (j:=1) (by decide) b).app aO)
 | [a,b,c],_=>((bz (j:=0) (by decide) a).mono (by decide:5013<=5019)).app (((bz (j:=1) (by decide) b).mono (by decide:5016<=5019)).app ((bz (j:=2) (by decide) c).app aO))
 | [a,b,c,d],_=>((bz (j:=0) (by decide) a).mono (by decide:5013<=5022)).app (((bz (j:=1) (by decide) b).mono (by decide:5016<=5022)).app (((bz (j:=2) (by decide) c).mono (by decide:5019<=5022)).app ((bz (j:=3) (by decide) d).app aO)))
 |_::_::_::_::_::_,h=>absurd h (by simp)
noncomputable def DG(g:List Gt)(its:List It)(X:List (Nat×AO)):List (Nat×AO):= [(1343,.gh g),(1344,.scr),(5001,.lst (refs its.length))]++([(5009,.fn)]++(aA 0 its++X))
theorem uU:∀j,5010<=ot j
 |0=>by decide|1=>by decide|2=>by decide|3=>by decide|_+4=>(by decide:5010<=5022)
section
variable{B:Base}
theorem pR(P:PB B)(g:List Gt)(rd st:Bool){X:List (Nat×AO)}(hX:Low 5000 X)(post:List Ri):∀(pre:List It),pre.length+post.length<=4->(∀r∈post,r∈CB rd)->
  FT (CO B) 5009 180 qu (aU (pre.length+post.length)) 5010 (post.length+1) pre.length ⟨ot pre.length,none,38,DG (iP post g) pre X,sj rd st⟩ .next ⟨ot (pre.length+post.length),none,38,DG g (pre++post.map Ri.im) X,sj rd st⟩:=by
 induction post with
 |nil=>
  intro pre h _
  rw[List.map_nil,wT]
  refine .done rfl ?_
  show(match gy pre.length (pre.length+0) with|true=>_|false=>_)=_
  rw[Nat.add_zero,show gy pre.length pre.length=true from ls (wh _)]
  show some (match u8 pre.length pre.length with|true=>_|false=>_)=_
  rw[show u8 pre.length pre.length=false from by cases h:u8 pre.length pre.length;rfl;exact absurd (al h) (by simp)]
 |cons r post ih0=>
  intro pre h hr
  have hj:pre.length<4:=by simp at h;omega
  have t:=sM P (iP post g) rd st hj (X:= [(5009,.fn)]++(aA 0 pre++X)) ((aI (k:=5009) (x:= .fn) (ls (uU _)) rfl rfl aO).app ((jL pre (Iz hj)).app (hX.mono (na (by decide) (uU _))))) (hr r (.head _))
  have ih:=ih0 (pre++ [r.im]) (by simp at h⊢;omega) fun q hq=>hr q (.tail _ hq)
  rw[show(pre++ [r.im]).length=pre.length+1 by simp,show pre.length+1+post.length=pre.length+(r::post).length by simp;omega,show(pre++ [r.im])++post.map Ri.im=pre++(r::post).map Ri.im by simp] at ih
  refine .next rfl ?_ t (.inl rfl) (Weak.refl.reorder (l':=DG (iP post g) (pre++ [r.im]) X) (aB fun a=>?_)) (fun ι ι=>rfl) ih
  ·show(match gy pre.length (pre.length+(r::post).length) with|true=>some (match u8 pre.length (pre.length+(r::post).length) with|true=>some (JL pre.length 0)|false=>none)|false=>none)=_
   rw[show gy pre.length (pre.length+(r::post).length)=true from ls (by omega),show u8 pre.length (pre.length+(r::post).length)=true from ls (by simp)]
  ·unfold DG
   rw[show(pre++ [r.im]).length=pre.length+1 by simp,fK,Ja,show aA pre.length [r.im]=aG (ib pre.length) r.im++ [] from rfl]
   simp only[xz,H0]
   ac_rfl
end
noncomputable def Fx(f:Nat->Nat)(X:List (Nat×AO)):Prop:=∀p∈X,f p.1=p.1/\bg f p.2=p.2
theorem Fx.app{f:Nat->Nat}{X Y:List (Nat×AO)}(h:Fx f X)(h2:Fx f Y):Fx f (X++Y):=fun p hp=>(nl.mp hp).elim (h p) (h2 p)
noncomputable def ym(n:Nat)(X:List (Nat×AO)):Bool:=X.all fun p=>u8 n p.1&&(ft p.2).all fun t=>u8 n t
theorem eZ{f:Nat->Nat}{n:Nat}(hf:∀k,n<k->f k=k){X:List (Nat×AO)}(h:ym n X=true):Fx f X:=fun p hp=>by
 have:=eg.mp h p hp
 rw[db] at this
 exact⟨hf _ (al this.1),jF fun t ht=>hf _ (al (eg.mp this.2 t ht))⟩
theorem fP{f:Nat->Nat}{n:Nat}(hf:∀k,k<n->f k=k){X:List (Nat×AO)}(h:Low n X):Fx f X:=fun p hp=>h f hf p hp
theorem sD:([0,1,2,3].all fun j=>allIts.all fun i=>ym 5000 (aG (ib j) i))=true:=by kernel_rfl
theorem xp{f:Nat->Nat}(hf:∀k,5000<k->f k=k){j:Nat}(hj:j<4)(i:It):Fx f (aG (ib j) i):=
 eZ hf (eg.mp (eg.mp sD j (by match j,hj with|0,_=>simp|1,_=>simp|2,_=>simp|3,_=>simp)) i (dS i))
theorem n7{f:Nat->Nat}(hf:∀k,5000<k->f k=k):∀(its:List It) (j:Nat),j+its.length<=4->Fx f (aA j its)
 | [],_,_=>fun p hp=>by cases hp
 |i::r,j,h=>(xp hf (by simp at h;omega) i).app (n7 hf r (j+1) (by simp at h⊢;omega))
theorem DU{f:Nat->Nat}(hf:∀k,5000<k->f k=k):∀n,Fx f (IL n)
 |0=>eZ hf rfl
 |1=>eZ hf rfl
 |2=>eZ hf rfl
 |3=>eZ hf rfl
 |_+4=>eZ hf rfl
section
variable{B:Base}
theorem dI{f:Nat->Nat}{nx nx' dp:Nat}{A A' X:List (Nat×AO)}{lo lo':List (Nat×Value)}(h1:∀k,k<1345->f k=k)(h2:1340<=nx')(hi:∀k,nx'<=k->nx<=f k)(hA:A'.map (fun p=>(f p.1,bg f p.2))=A)(hX:Fx f X)
  (hlo:∀x v,lk lo' x=some v->lk lo x=some (ren f v)) (hp:∀p∈A',dc p.2=true->f p.1=p.1):Weak (CO B) f ⟨nx,none,dp,A++X,lo⟩ ⟨nx',none,dp,A'++X,lo'⟩:=
 have e:(A'++X).map (fun p=>(f p.1,bg f p.2))=A++X:=by
  rw[wE,hA]
  exact congrArg (A++ ·) (Km (wv.mpr fun p hp=>by show(f p.1,bg f p.2)=p;rw[(hX p hp).1,(hX p hp).2]) (Kk X))
 {hd:=fun k hk=>h1 k (sw hk (by decide:1340<=1345)),hb:=fun ι=>h2,gh:=lowG B (wh _) _ h1,hi:=hi
  led:=fun p hp=>by rw[<-e];exact re.mpr ⟨p,hp,rfl⟩
  nd:=fun h=>by
   have h:((A++X).map (·.1)).Nodup:=h
   rw[<-e,JU] at h
   exact h
  lo:=hlo
  pin:=fun p hq h=>(nl.mp hq).elim (fun h3=>hp p h3 h) fun h3=>(hX p h3).1
  h:=rfl,dp:=wh _}
noncomputable def F8(B:Base)(g:List Gt)(X:List (Nat×AO))(p:Int×Int):=cD ah tokF 4990 1344 [] [(1343,.gh g),(1344,.scr),(5001,.lst [])] X 5009 none (sj (Io p.1 2) (Io p.2 0)) 38 (.ok .next)
 ((RN B 60).b (b_l_deed.take 3) ⟨4990,none,38,[(1343,.gh (.dr 3 p.1:: .dr 2 p.2::g)),(1344,.scr)]++X,[(174,.ref 1343)]⟩)
theorem F7(g:List Gt)(X:List (Nat×AO)):tL (F8 B g X) [(0,0),(0,1),(1,0),(1,1),(2,0),(2,1)]=tR (F8 B g X) [(0,0),(0,1),(1,0),(1,1),(2,0),(2,1)]:=by kernel_rfl
structure Rd where
 a:Int
 b:Int
 rs:List Ri
noncomputable def Rd.rd(q:Rd):Bool:=Io q.a 2
noncomputable def Rd.st(q:Rd):Bool:=Io q.b 0
noncomputable def Rd.its(q:Rd):List It:=q.rs.map Ri.im
structure RdOk(q:Rd):Prop where
 h:(q.a,q.b)∈([(0,0),(0,1),(1,0),(1,1),(2,0),(2,1)]:List (Int×Int))
 n:q.rs.length<=4
 m:∀r∈q.rs,r∈CB q.rd
noncomputable def jk(q:Rd)(g:List Gt):List Gt:= .dr 3 q.a:: .dr 2 q.b:: .dr 5 (q.rs.length:Nat)::iP q.rs g
theorem ug:∀n,Low 5030 (IL n)
 |0=>aJ (by rfl)|1=>aJ (by rfl)|2=>aJ (by rfl)|3=>aJ (by rfl)|_+4=>aJ (by rfl)
theorem Ac(P:PB B){n:Int}{g:List Gt}{rd st:Bool}{X:List (Nat×AO)}(hX:Low 5009 X):JE (CO B) GU ⟨5009,none,38,[(1343,.gh (.dr 5 n::g)),(1344,.scr),(5001,.lst [])]++X,sj rd st⟩ (some (.ok (.int n 0),⟨5009,none,38,[(1343,.gh g),(1344,.scr),(5001,.lst [])]++X,sj rd st⟩)):=je P 60 5001 [] rfl hX (by kernel_rfl)
theorem Dd(P:PB B){rd st:Bool}{X:List (Nat×AO)}(hX:Low 5030 X):JB (CO B) (b_l_deed.drop 4) ⟨5030,none,38,X,sj rd st⟩ (some (.ok (.ret (.ref 5030)),⟨5040,none,38,[(5030,.tup [.bool rd,.bool st,.ref 5001])]++X,[]⟩)):=jb P 60 5030 [] rfl hX (by kernel_rfl)
theorem sO(P:PB B){q:Rd}(hq:RdOk q)(g:List Gt){X:List (Nat×AO)}(hX:Low 4990 X):
  JB (CO B) b_l_deed ⟨4990,none,38,[(1343,.gh (jk q g)),(1344,.scr)]++X,[(174,.ref 1343)]⟩ (some (.ok (.ret (.ref 5030)),⟨5040,none,38,[(5030,.tup [.bool q.rd,.bool q.st,.ref 5001])]++(IL q.its.length++(aA 0 q.its++([(1343,.gh g),(1344,.scr)]++X))),[]⟩)):=by
 have e:=tab_of (F7 (B:=B) (.dr 5 (q.rs.length:Nat)::iP q.rs g) X) _ hq.h
 unfold F8 at e
 have hT:=pR P g q.rd q.st (hX.mono (by decide)) q.rs [] (by simpa using hq.n) hq.m
 have hl:q.its.length=q.rs.length:=by unfold Rd.its;rw[xL]
 simp only[Hx,Ja,Hw] at hT
 have hl2:q.its.length<=4:=by rw[hl];exact hq.n
 have hn:ot q.rs.length<=5030:=by match q.rs.length with|0=>decide|1=>decide|2=>decide|3=>decide|_+4=>exact(by decide:5022<=5030)
 have hY:Low 5030 ([(1343,.gh g),(1344,.scr),(5001,.lst (refs (q.rs.map Ri.im).length))]++(aA 0 (q.rs.map Ri.im)++X)):=
  aI rfl rfl rfl (aI rfl rfl rfl ((ug _).app (((jL _ hl2).mono (by rw[hl];exact hn)).app (hX.mono (by decide)))))
 have hF:=rI (Ac P (n:=(q.rs.length:Nat)) (g:=iP q.rs g) (rd:=q.rd) (st:=q.st) (X:=X) (hX.mono (by decide))) (.go (f0:=id) (sta:=⟨5010,none,38,DG (iP q.rs g) [] X,sj q.rd q.st⟩) rfl (ls (by have:=hq.n;omega)) ((H4 _ _).mpr (by omega)) (a9 (st:=nE ⟨5009,none,38,[(1343,.gh (iP q.rs g)),(1344,.scr),(5001,.lst [])]++X,sj q.rd q.st⟩) (aB (l:=([(1343,AO.gh (iP q.rs g)),(1344,.scr),(5001,.lst [])]++([(5009,AO.fn)]++X))) (m:=([(5009,AO.fn)]++([(1343,AO.gh (iP q.rs g)),(1344,.scr),(5001,.lst [])]++X))) fun a=>?_)) (fun ι ι=>rfl) hT rfl)
 ·have hR:=JB.before (f:=id) (Dd P hY (rd:=q.rd) (st:=q.st)) (dH (B:=B) (nx:=ot q.rs.length) hn (by decide)) fun ι ι=>rfl
  rw[pS]
  refine JB.post (ba (jb P 60 1344 [] rfl hX e) (aN hF hR)) (aB (l:=([(5030,AO.tup [.bool q.rd,.bool q.st,.ref 5001])]++(IL q.its.length++(aA 0 q.its++([(1343,.gh g),(1344,.scr)]++X))))) (m:=([(5030,AO.tup [.bool q.rd,.bool q.st,.ref 5001])]++([(1343,.gh g),(1344,.scr)]++(IL q.its.length++(aA 0 q.its++X))))) fun a=>?_)
  exact aF [_,_,_] [_,_,_] (.a (.c 0 .n) (.r [0,1] (.a (.c 1 (.c 2 .n)) (.l 2)))) (.a (.c 0 .n) (.a (.c 1 (.c 2 .n)) (.r [0,1] (.l 2)))) rfl _
 ·exact aF [_,_,_,_] [_] (.a (.c 0 (.c 1 (.c 2 .n))) (.a (.c 3 .n) (.l 0))) (.a (.c 3 .n) (.a (.c 0 (.c 1 (.c 2 .n))) (.l 0))) rfl _
end
noncomputable def g8(q:Rd):List (Nat×AO):= [(5000,.tup [.bool q.rd,.bool q.st,.ref 5001])]++(IL q.its.length++aA 0 q.its)
noncomputable def i5:List (Nat×Value):=(184,.ref 1351)::fj
theorem pF{f:Nat->Nat}{n:Nat}(hf:∀k,k<n->f k=k){lo:List (Nat×Value)}(hlo:lo.all (fun p=>(tokV p.2).all (fun t=>u8 t n))=true){x:Nat}{v:Value}(e:lk lo x=some v):ren f v=v:=
 bj fun t ht=>hf t (al (eg.mp (eg.mp hlo _ (az e)) t ht))
section
variable{B:Base}
theorem sN(P:PB B){q:Rd}(hq:RdOk q)(g:List Gt){X:List (Nat×AO)}(hX:Low 4990 X){lo:List (Nat×Value)}(hlo:lo.all (fun p=>(tokV p.2).all (fun t=>u8 t 4990))=true):
  CallSat (CO B) 1280 [.ref 1343] ⟨4990,none,39,[(1343,.gh (jk q g)),(1344,.scr)]++X,lo⟩ (some (.ok (.ref 5000),⟨5040,none,39,g8 q++([(1343,.gh g),(1344,.scr)]++X),lo⟩)):=by
 have h:=bf P.FO (k:=1280) (vs:= [.ref 1343]) (st:=⟨4990,none,39,[(1343,.gh (jk q g)),(1344,.scr)]++X,lo⟩) (LA:= [(1343,.gh (jk q g)),(1344,.scr)]++X) (LB:= []) (d:=38) (lo:= [(174,.ref 1343)]) (fi:=⟨false,[174],[],[],b_l_deed⟩) (by kernel_rfl) (wT _).symm rfl rfl (sO P hq g hX)
 rw[fQ] at h
 have hl:q.its.length<=4:=by unfold Rd.its;rw[xL];exact hq.n
 have hf:∀k,5000<k->(fun k=>if k=5000 then 5030 else k) k=k:=fun k hk=>if_neg (fun e=>absurd hk (by rw[e];decide))
 have hfl:∀k,k<5000->(fun k=>if k=5000 then 5030 else k) k=k:=fun k hk=>if_neg (fun e=>absurd hk (by rw[e];decide))
 have W:=dI (B:=B) (f:=fun k=>if k=5000 then 5030 else k) (nx:=5040) (nx':=5040) (dp:=39) (A:= [(5030,.tup [.bool q.rd,.bool q.st,.ref 5001])]) (A':= [(5000,.tup [.bool q.rd,.bool q.st,.ref 5001])]) (X:=IL q.its.length++(aA 0 q.its++([(1343,.gh g),(1344,.scr)]++X))) (lo:=lo) (lo':=lo)
  (fun k hk=>hfl k (Hk hk (by decide))) (by decide) (fun k hk=>by show 5040<=(fun k=>if k=5000 then 5030 else k) k;rw[hf k (sw (by decide) hk)];exact hk) rfl ((DU hf _).app ((n7 hf _ _ (by simpa using hl)).app (fP hfl ((aI rfl rfl rfl (aI rfl rfl rfl aO)).app (hX.mono (by decide)))))) ?_ (fun p hp h=>by cases hp with|head=>cases h|tail _ m=>cases m)
 ·refine CallSat.after h (.ok (W.reorder ?_) (fun k hk=>hfl k (sw hk (by decide:4990<=5000))) rfl)
  unfold g8
  exact aB fun a=>by exact aF [_,_,_] [_,_,_] (.a (.a (.c 0 .n) (.r [0] (.l 1))) (.a (.c 1 (.c 2 .n)) (.l 2))) (.a (.c 0 .n) (.r [0,1] (.a (.c 1 (.c 2 .n)) (.l 2)))) rfl _
 ·intro x v e
  rw[pF (n:=4990) (fun k hk=>hfl k (Hk hk (by decide))) hlo e]
  exact e
theorem Dl(P:PB B){q:Rd}(hq:RdOk q)(g:List Gt){X:List (Nat×AO)}(hX:Low 4990 X):
  JE (CO B) Ak ⟨4990,none,39,GC (jk q g)++X,(180,.ref 1402)::i5⟩ (some (.ok (.ref 5000),⟨5040,none,39,GC g++(g8 q++X),(180,.ref 1402)::i5⟩)):=by
 have hf:JE (CO B) (.glob 207 (.ref 1280)) ⟨4990,none,39,GC (jk q g)++X,(180,.ref 1402)::i5⟩ (some (.ok (.ref 1280),⟨4990,none,39,GC (jk q g)++X,(180,.ref 1402)::i5⟩)):=eT P.TO P.FO P.oo 60 _ _
 have hX2:Low 4990 ([(1342,.cell (some (.ref 1343)))]++X):=(aI rfl rfl rfl aO).app hX
 have hc:=sN P hq g hX2 (lo:=(180,.ref 1402)::i5) rfl
 refine JE.post (l:=g8 q++(GC g++X)) (dW P (n:=60) (n0:=4990) (m:=1342) (mm:= []) (A':=GC (jk q g)) (nx':=4990) (dp':=39) (hd':=none) (lo':=(180,.ref 1402)::i5) hf (by kernel_rfl) rfl hX (by kernel_rfl) (by kernel_rfl) hc) (aB fun a=>by exact aF [] [_,_,_] (.r [0,1] (.l 2)) (.r [1,0] (.l 2)) rfl _)
end
theorem cE(f g:Nat->Nat)(v:Value):ren f (ren g v)=ren (fun k=>f (g k)) v:=by cases v<;>rfl
theorem fH{α:Type}{F G H:α->α}(h:∀x,F (G x)=H x)(l:List α):(l.map G).map F=l.map H:=by rw[JU];exact List.map_congr_left fun a ι=>h a
theorem kO(f g:Nat->Nat)(x:AO):bg f (bg g x)=bg (fun k=>f (g k)) x:=by
 cases x with
 |cell v=>cases v with|none=>rfl|some v=>exact congrArg (fun v=>AO.cell (some v)) (cE f g v)
 |tup l=>exact congrArg AO.tup (fH (cE f g) l)
 |lst l=>exact congrArg AO.lst (fH (cE f g) l)
 |adict l=>exact congrArg AO.adict (fH (fun p=>congrArg (KP p.1) (cE f g p.2)) l)
 |sdict l=>exact congrArg AO.sdict (fH (fun p=>congrArg (KP p.1) (cE f g p.2)) l)
 |pdict l=>exact congrArg AO.pdict (fH (fun p=>congrArg (KP p.1) (cE f g p.2)) l)
 |ns l=>exact congrArg AO.ns (fH (fun p=>congrArg (KP p.1) (cE f g p.2)) l)
 |tdict l=>exact congrArg AO.tdict (fH (fun p=>congrArg (fun v=>(p.1,f (g p.2.1),v)) (cE f g p.2.2)) l)
 |_=>rfl
theorem dy{f g:Nat->Nat}{v:Value}(h:∀t∈tokV v,f t=g t):ren f v=ren g v:=by
 cases v<;>first|rfl|exact congrArg pf (h _ (.head _))
theorem wq{f g:Nat->Nat}{x:AO}(h:∀t∈ft x,f t=g t):bg f x=bg g x:=by
 cases x with
 |tup vs=>exact congrArg AO.tup (wv.mpr fun v hv=>dy fun t ht=>h t (sK.mpr ⟨v,hv,ht⟩))
 |lst vs=>exact congrArg AO.lst (wv.mpr fun v hv=>dy fun t ht=>h t (sK.mpr ⟨v,hv,ht⟩))
 |adict es=>exact congrArg AO.adict (wv.mpr fun p hp=>by rw[dy fun t ht=>h t (sK.mpr ⟨p,hp,ht⟩)])
 |sdict es=>exact congrArg AO.sdict (wv.mpr fun p hp=>by rw[dy fun t ht=>h t (sK.mpr ⟨p,hp,ht⟩)])
 |pdict es=>exact congrArg AO.pdict (wv.mpr fun p hp=>by rw[dy fun t ht=>h t (sK.mpr ⟨p,hp,ht⟩)])
 |ns es=>exact congrArg AO.ns (wv.mpr fun p hp=>by rw[dy fun t ht=>h t (sK.mpr ⟨p,hp,ht⟩)])
 |tdict es=>exact congrArg AO.tdict (wv.mpr fun p hp=>by rw[dy fun t ht=>h t (sK.mpr ⟨p,hp,.tail _ ht⟩),h p.2.1 (sK.mpr ⟨p,hp,.head _⟩)])
 |inst C d=>show AO.inst C (f d)=AO.inst C (g d);rw[h d (.head _)]
 |exc C d t=>show AO.exc C (f d) (f t)=AO.exc C (g d) (g t);rw[h d (.head _),h t (.tail _ (.head _))]
 |exn C t=>show AO.exn C (f t)=AO.exn C (g t);rw[h t (.head _)]
 |exd C d t=>show AO.exd C (f d) (f t)=AO.exd C (g d) (g t);rw[h d (.head _),h t (.tail _ (.head _))]
 |dfn i t=>show AO.dfn i (f t)=AO.dfn i (g t);rw[h t (.head _)]
 |cell v=>cases v with|none=>rfl|some v=>exact congrArg (fun v=>AO.cell (some v)) (dy h)
 |_=>rfl
noncomputable def wB(X:List (Nat×AO)):Bool:=X.all fun p=>(gy 5000 p.1&&u8 p.1 5090)&&(ft p.2).all fun t=>gy 5000 t&&u8 t 5090
noncomputable def Win(X:List (Nat×AO)):Prop:=∀f g:Nat->Nat,(∀k,5000<=k->k<5090->f k=g k)->∀p∈X,f p.1=g p.1/\bg f p.2=bg g p.2
theorem em{X:List (Nat×AO)}(h:wB X=true):Win X:=fun f g hf p hp=>by
 have:=eg.mp h p hp
 rw[db,db] at this
 refine⟨hf _ (al this.1.1) (al this.1.2),wq fun t ht=>?_⟩
 have:=eg.mp this.2 t ht
 rw[db] at this
 exact hf _ (al this.1) (al this.2)
theorem Win.app{X Y:List (Nat×AO)}(h:Win X)(h2:Win Y):Win (X++Y):=fun f g hf p hp=>(nl.mp hp).elim (h f g hf p) (h2 f g hf p)
theorem sx:([0,1,2,3].all fun j=>allIts.all fun i=>wB (aG (ib j) i))=true:=by kernel_rfl
theorem kH:∀(its:List It) (j:Nat),j+its.length<=4->Win (aA j its)
 | [],_,_=>fun f g hf p hp=>by cases hp
 |i::r,j,h=>(em (eg.mp (eg.mp sx j (cU (P:=fun j=>j∈[0,1,2,3]) (.head _) (.tail _ (.head _)) (.tail _ (.tail _ (.head _))) (.tail _ (.tail _ (.tail _ (.head _)))) j (by simp at h;omega))) i (dS i))).app (kH r (j+1) (by simp at h⊢;omega))
theorem zL:∀n,Win (IL n)
 |0=>em rfl|1=>em rfl|2=>em rfl|3=>em rfl|_+4=>em rfl
theorem uv{q:Rd}(hq:RdOk q):q.its.length<=4:=by unfold Rd.its;rw[xL];exact hq.n
theorem i6{q:Rd}(hq:RdOk q):Win (g8 q):=(em (X:= [(5000,.tup [.bool q.rd,.bool q.st,.ref 5001])]) rfl).app ((zL _).app (kH _ _ (by simpa using uv hq)))
noncomputable def gB(b k:Nat):Nat:=if 5000<=k/\k<5090 then b+(k-5000) else k
noncomputable def jD(b k:Nat):Nat:=if b<=k/\k<b+100 then 5000+(k-b) else if 4990<=k then k+100 else k
noncomputable def dB(b:Nat)(q:Rd):List (Nat×AO):=(g8 q).map fun p=>(gB b p.1,bg (gB b) p.2)
theorem zW{b k:Nat}(h1:5000<=k)(h2:k<5090):jD b (gB b k)=k:=by
 have e:gB b k=b+(k-5000):=if_pos ⟨h1,h2⟩
 have h3:k-5000<100:=HT (Nat.sub_le_sub_right (Iz h2) 5000) (by decide)
 rw[e]
 unfold jD
 rw[if_pos ⟨Jf _ _,Nat.add_lt_add_left h3 b⟩,JM]
 exact Nat.add_sub_cancel' h1
theorem Bf{b:Nat}{q:Rd}(hq:RdOk q):(dB b q).map (fun p=>(jD b p.1,bg (jD b) p.2))=g8 q:=by
 unfold dB
 rw[JU]
 refine Km (wv.mpr fun p hp=>?_) (Kk _)
 obtain⟨a,c⟩:=i6 hq (fun k=>jD b (gB b k)) id (fun k h1 h2=>zW h1 h2) p hp
 show(jD b (gB b p.1),bg (jD b) (bg (gB b) p.2))=p
 rw[kO,a,c,cf]
 rfl
theorem lV{b:Nat}{q:Rd}(hq:RdOk q):Low (b+100) (dB b q):=fun f hf p hp=>by
 obtain⟨r,hr,rfl⟩:=re.mp hp
 obtain⟨a,c⟩:=i6 hq (fun k=>f (gB b k)) (gB b) (fun k h1 h2=>hf _ (by unfold gB;rw[if_pos ⟨h1,h2⟩];omega)) r hr
 exact⟨a,(kO _ _ _).trans c⟩
theorem wz(f:Nat->Nat)(x:AO):dc (bg f x)=dc x:=by cases x<;>rfl
theorem zh(b:Nat)(i:It):∀p∈aG b i,dc p.2=false:=by
 have:(aG b i).all (fun p=>!dc p.2)=true:=by
  cases i with
  |elem n=>cases n<;>rfl
  |nod n=>cases n<;>rfl
  |_=>rfl
 intro p hp
 simpa using eg.mp this p hp
theorem kQ:∀(its:List It) (j:Nat),∀p∈aA j its,dc p.2=false
 | [],_=>fun p hp=>by cases hp
 |i::r,j=>fun p hp=>(nl.mp hp).elim (zh _ i p) (kQ r (j+1) p)
theorem qX(q:Rd):∀p∈g8 q,dc p.2=false:=fun p hp=>by
 rcases nl.mp hp with h|h
 ·rw[o0.mp h];rfl
 ·rcases nl.mp h with h|h
  ·rw[o0.mp h];rfl
  ·exact kQ _ _ p h
theorem zi(b:Nat)(q:Rd):∀p∈dB b q,dc p.2=false:=fun p hp=>by
 obtain⟨r,hr,rfl⟩:=re.mp hp
 exact(wz _ _).trans (qX q r hr)
noncomputable def qB(es:List (Nat×Value))(vs:List Value):List (Nat×AO):= [(1402,.ns es),(1401,.lst vs),(1400,.fn)]
noncomputable def bs:Nat->Nat
 |0=>1500|1=>1600|_=>1700
noncomputable def be:Nat->List Value
 |0=> []|1=> [.ref 1500]|2=> [.ref 1500,.ref 1600]|_=> [.ref 1500,.ref 1600,.ref 1700]
theorem tP{b:Nat}(hb:b<=4890){k:Nat}(hk:k<b):jD b k=k:=by
 unfold jD
 rw[if_neg (by omega),if_neg (by omega)]
theorem zV{b:Nat}(hb:b<=4890){k:Nat}(hk:4990<=k):5040<=jD b k:=by
 unfold jD
 rw[if_neg (by omega),if_pos hk]
 omega
theorem uh{α:Type}{f:α->α}{a b c d:List α}(h1:a.map f=c)(h2:b.map f=d):(a++b).map f=c++d:=by rw[wE,h1,h2]
noncomputable def fZ:List (Nat×Value):=(180,.ref 1402)::i5
section
variable{B:Base}
theorem lE(P:PB B){q:Rd}(hq:RdOk q)(g:List Gt){X:List (Nat×AO)}{b:Nat}(hb:b<=4890)(h0:1403<=b)(hX:Low b X){i:Nat}{vs vs':List Value}(hv:vs'.map (ren (jD b))=vs):
  Weak (CO B) (jD b) ⟨5040,none,39,qB [(180,.int (i:Nat) 0)] vs++(GC g++(g8 q++X)),fZ⟩ ⟨4990,none,39,qB [(180,.int (i:Nat) 0)] vs'++(GC g++(dB b q++X)),fZ⟩:=by
 have hf:∀k,k<b->jD b k=k:=fun k hk=>tP hb hk
 have W:=dI (B:=B) (f:=jD b) (nx:=5040) (nx':=4990) (dp:=39) (A:=qB [(180,.int (i:Nat) 0)] vs++g8 q) (A':=qB [(180,.int (i:Nat) 0)] vs'++dB b q) (X:=GC g++X) (lo:=fZ) (lo':=fZ)
  (fun k hk=>hf k (by omega)) (by decide) (fun k hk=>zV hb hk) (uh ?_ (Bf hq)) (fP hf (((jM g).mono (by omega)).app hX)) (fun x v e=>?_) (fun p hp h=>?_)
 ·exact(W.reorderL (aB fun a=>by exact aF [] [_,_,_,_] (.a (.r [0] (.l 1)) (.r [2] (.l 3))) (.r [0,2,1] (.l 3)) rfl _)).reorder (aB fun a=>by exact aF [] [_,_,_,_] (.r [0,1,2] (.l 3)) (.a (.r [0] (.l 2)) (.r [1] (.l 3))) rfl _)
 ·show [(jD b 1402,bg (jD b) (.ns [(180,.int (i:Nat) 0)])),(jD b 1401,AO.lst (vs'.map (ren (jD b)))),(jD b 1400,AO.fn)]=_
  rw[hf 1402 (by omega),hf 1401 (by omega),hf 1400 (by omega),hv]
  rfl
 ·rw[pF (n:=1403) (fun k hk=>hf k (by omega)) (lo:=fZ) rfl e]
  exact e
 ·refine(nl.mp hp).elim (fun h2=>?_) fun h2=>absurd h (by rw[zi b q p h2];decide)
  cases h2 with
  |head=>exact hf _ (by omega)
  |tail _ m=>cases m with
   |head=>exact hf _ (by omega)
   |tail _ m=>cases m with
    |head=>exact hf _ (by omega)
    |tail _ m=>cases m
theorem tO(P:PB B){q:Rd}(hq:RdOk q)(g:List Gt){X:List (Nat×AO)}{i:Nat}(hi:i<3)(hX:Low (bs i) X):
  Weak (CO B) (jD (bs i)) ⟨5040,none,39,qB [(180,.int (i:Nat) 0)] (be i++ [.ref 5000])++(GC g++(g8 q++X)),fZ⟩ ⟨4990,none,39,qB [(180,.int (i:Nat) 0)] (be (i+1))++(GC g++(dB (bs i) q++X)),fZ⟩:=
 GR (P:=fun i=>Low (bs i) X->Weak (CO B) (jD (bs i)) ⟨5040,none,39,qB [(180,.int (i:Nat) 0)] (be i++ [.ref 5000])++(GC g++(g8 q++X)),fZ⟩ ⟨4990,none,39,qB [(180,.int (i:Nat) 0)] (be (i+1))++(GC g++(dB (bs i) q++X)),fZ⟩) (fun hX=>lE P hq g (b:=1500) (by decide) (by decide) hX rfl) (fun hX=>lE P hq g (b:=1600) (by decide) (by decide) hX rfl) (fun hX=>lE P hq g (b:=1700) (by decide) (by decide) hX rfl) hi hX
theorem xX:∀i,i<3->Low 4990 (qB [(180,.int (i:Nat) 0)] (be i))
 |0,_=>aJ (by rfl)|1,_=>aJ (by rfl)|2,_=>aJ (by rfl)
theorem yx:∀i,bs i+100<=4990
 |0=>by decide|1=>by decide|_+2=>(by decide:1800<=4990)
theorem Dm{i:Nat}(hi:i<3)(k:Nat)(hk:k<1403):jD (bs i) k=k:=tP (na (by have:=yx i;omega) (by decide:4890<=4890)) (sw hk (by match i,hi with|0,_=>decide|1,_=>decide|2,_=>decide))
theorem yP(P:PB B){q:Rd}(hq:RdOk q)(g:List Gt){X:List (Nat×AO)}{i:Nat}(hi:i<3)(hX:Low 4990 X):
  JE (CO B) Ak ⟨4990,none,39,qB [(180,.int (i:Nat) 0)] (be i)++(GC (jk q g)++X),fZ⟩ (some (.ok (.ref 5000),⟨5040,none,39,qB [(180,.int (i:Nat) 0)] (be i)++(GC g++(g8 q++X)),fZ⟩)):=
 JE.post (JE.pre (Dl P hq g ((xX i hi).app hX)) (aB fun a=>by exact aF [] [_,_,_] (.r [0,1] (.l 2)) (.r [1,0] (.l 2)) rfl _)) (aB fun a=>by exact aF [] [_,_,_,_] (.r [0,1,2] (.l 3)) (.r [1,2,0] (.l 3)) rfl _)
noncomputable def D9:List Rd->List Gt->List Gt
 | [],g=>g
 |q::r,g=>jk q (D9 r g)
noncomputable def ip:Nat->List Rd->List (Nat×AO)
 |_,[]=> []
 |i,q::r=>dB (bs i) q++ip (i+1) r
end
noncomputable def pQ:IE:= .bin .Add (.cst (.int 1 0)) (.call (.glob 176 (.ref 1266)) [(.cel 174),(.cst (.int 3 0))])
section
variable{B:Base}
theorem vW(P:PB B)(g:List Gt){X:List (Nat×AO)}(hX:Low 1400 X):
  (JE (CO B) pQ ⟨1400,none,39,GC (.dr 3 0::g)++X,i5⟩ (some (.ok (.int 1 0),⟨1400,none,39,GC g++X,i5⟩)))/\
  (JE (CO B) pQ ⟨1400,none,39,GC (.dr 3 1::g)++X,i5⟩ (some (.ok (.int 2 0),⟨1400,none,39,GC g++X,i5⟩)))/\
  (JE (CO B) pQ ⟨1400,none,39,GC (.dr 3 2::g)++X,i5⟩ (some (.ok (.int 3 0),⟨1400,none,39,GC g++X,i5⟩))):=
 ⟨je P 60 1342 [] rfl hX (by kernel_rfl),je P 60 1342 [] rfl hX (by kernel_rfl),je P 60 1342 [] rfl hX (by kernel_rfl)⟩
noncomputable def TD(i:Nat)(g:List Gt)(X:List (Nat×AO)):St:=⟨4990,none,39,qB [(180,.int (i:Nat) 0)] (be (i+1))++(GC g++X),fZ⟩
theorem tD(g:List Gt)(X:List (Nat×AO)):Weak (CO B) id (eK 180 ⟨1400,none,39,GC g++X,i5⟩) ⟨4990,none,39,qB [] []++(GC g++X),fZ⟩:=dH (B:=B) (nx:=1403) (by decide) (by decide)
theorem mB(g:List Gt)(X:List (Nat×AO))(i m:Nat):CT (CO B) 180 Ak 1401 1402 1400 (aU (i+1)) 1403 (m+1) (i+1) (TD i g X) (.ok ()) (TD i g X):= .done rfl (by
 show(match gy (i+1) (i+1) with|true=>some (match u8 (i+1) (i+1) with|true=>some (JL (i+1:Nat) 0)|false=>none)|false=>none)=_
 rw[show gy (i+1) (i+1)=true from ls (wh _),show u8 (i+1) (i+1)=false from by cases h:u8 (i+1) (i+1);rfl;exact absurd (al h) (by simp)])
theorem ed(P:PB B){q:Rd}(hq:RdOk q)(g:List Gt){X:List (Nat×AO)}{i n m:Nat}(hi:i<3)(hn:i<n)(hX:Low (bs i) X){es:List (Nat×Value)}(hes:bI es 180 (.int (i:Nat) 0)= [(180,.int (i:Nat) 0)]){r:Res Unit}{st':St}
  (h:CT (CO B) 180 Ak 1401 1402 1400 (aU n) 1403 m (i+1) (TD i g (dB (bs i) q++X)) r st'):
  CT (CO B) 180 Ak 1401 1402 1400 (aU n) 1403 (m+1) i ⟨4990,none,39,qB es (be i)++(GC (jk q g)++X),fZ⟩ r st':=by
 have hc:=yP P hq g hi (hX.mono (by have:=yx i;omega))
 rw[<-hes] at hc
 refine .next rfl ?_ rfl rfl hc rfl ?_ ?_ (Dm hi) h
 ·show(match gy i n with|true=>some (match u8 i n with|true=>some (JL (i:Nat) 0)|false=>none)|false=>none)=_
  rw[show gy i n=true from ls (Iz hn),show u8 i n=true from ls hn]
 ·exact GR (P:=fun i=>(be i).length.ble 900=true) rfl rfl rfl hi
 ·rw[hes]
  exact tO P hq g hi hX
end
section
variable{B:Base}
theorem ly(P:PB B){n:Nat}{g g0:List Gt}{X Y:List (Nat×AO)}(hn:n=0\/n=1\/n=2)(hX:Low 1400 X)(hT:CT (CO B) 180 Ak 1401 1402 1400 (aU (n+1)) 1403 4 0 ⟨4990,none,39,qB [] []++(GC g0++X),fZ⟩ (.ok ()) (TD n g Y)):
  JS (CO B) (.asgL 206 180 pQ 4) ⟨1400,none,39,GC (.dr 3 (n:Nat)::g0)++X,i5⟩ (some (.ok .next,⟨4990,none,39,[(1401,.lst (be (n+1)))]++(GC g++Y),bI i5 206 (.ref 1401)⟩)):=by
 rcases hn with rfl|rfl|rfl
 ·exact iz P.TO (vW P g0 hX).1 (CAns.rng (T:=TB) (k:=4) (t:=0) (nn:=1) (st:=⟨1400,none,39,GC g0++X,i5⟩) rfl rfl rfl rfl (tD g0 X) (fun ι ι=>rfl) hT)
 ·exact iz P.TO (vW P g0 hX).2.1 (CAns.rng (T:=TB) (k:=4) (t:=0) (nn:=2) (st:=⟨1400,none,39,GC g0++X,i5⟩) rfl rfl rfl rfl (tD g0 X) (fun ι ι=>rfl) hT)
 ·exact iz P.TO (vW P g0 hX).2.2 (CAns.rng (T:=TB) (k:=4) (t:=0) (nn:=3) (st:=⟨1400,none,39,GC g0++X,i5⟩) rfl rfl rfl rfl (tD g0 X) (fun ι ι=>rfl) hT)
theorem vX(P:PB B)(g:List Gt){X:List (Nat×AO)}(hX:Low 1400 X):∀qs:List Rd,(∀q∈qs,RdOk q)->0<qs.length->qs.length<4->
  JS (CO B) (.asgL 206 180 pQ 4) ⟨1400,none,39,GC (.dr 3 ((qs.length-1:Nat):Int)::D9 qs g)++X,i5⟩ (some (.ok .next,⟨4990,none,39,[(1401,.lst (be qs.length))]++(GC g++(ip 0 qs++X)),bI i5 206 (.ref 1401)⟩))
 | [],_,h,_=>absurd h (by simp)
 | [a],ha,_,_=>by
  have h1:=ha a (by simp)
  refine JS.post (ly P (n:=0) (g:=g) (g0:=jk a g) (Y:=dB 1500 a++X) (.inl rfl) hX (ed P h1 g (i:=0) (by decide) (by decide) (hX.mono (by decide)) rfl (mB g _ 0 2))) (aB fun x=>?_)
  simp only[show ip 0 [a]=dB 1500 a++ [] from rfl,xz,H0,Hb,Hx]
  ac_rfl
 | [a,b],ha,_,_=>by
  have h1:=ha a (by simp)
  have h2:=ha b (by simp)
  have l1:Low 1600 (dB 1500 a++X):=(lV h1).app (hX.mono (by decide))
  refine JS.post (ly P (n:=1) (g:=g) (g0:=jk a (jk b g)) (Y:=dB 1600 b++(dB 1500 a++X)) (.inr (.inl rfl)) hX (ed P h1 (jk b g) (i:=0) (by decide) (by decide) (hX.mono (by decide)) rfl
   (ed P h2 g (i:=1) (by decide) (by decide) l1 rfl (mB g _ 1 1)))) (aB fun x=>?_)
  simp only[show ip 0 [a,b]=dB 1500 a++(dB 1600 b++ []) from rfl,xz,H0,Hb,Hx]
  ac_rfl
 | [a,b,c],ha,_,_=>by
  have h1:=ha a (by simp)
  have h2:=ha b (by simp)
  have h3:=ha c (by simp)
  have l1:Low 1600 (dB 1500 a++X):=(lV h1).app (hX.mono (by decide))
  have l2:Low 1700 (dB 1600 b++(dB 1500 a++X)):=(lV h2).app (l1.mono (by decide))
  refine JS.post (ly P (n:=2) (g:=g) (g0:=jk a (jk b (jk c g))) (Y:=dB 1700 c++(dB 1600 b++(dB 1500 a++X))) (.inr (.inr rfl)) hX (ed P h1 (jk b (jk c g)) (i:=0) (by decide) (by decide) (hX.mono (by decide)) rfl
   (ed P h2 (jk c g) (i:=1) (by decide) (by decide) l1 rfl (ed P h3 g (i:=2) (by decide) (by decide) l2 rfl (mB g _ 2 0))))) (aB fun x=>?_)
  simp only[show ip 0 [a,b,c]=dB 1500 a++(dB 1600 b++(dB 1700 c++ [])) from rfl,xz,H0,Hb,Hx]
  ac_rfl
 |_::_::_::_::_,_,_,h=>absurd h (by simp)
end
section
variable{B:Base}
theorem uT{FN:Nat->Obj->Prop}{cx:Cx}{g:Heap}{s:Shared}{J:Rho}{nx dp:Nat}{hd:Option Nat}{X:List (Nat×AO)}{lo:List (Nat×Value)}{gs:List Gt}(hD:Drawn B.ns 0 gs)
  (hk:Ok ⟨CO B,FN⟩ cx g s J ⟨nx,hd,dp,[(1343,.sdict (a8 0)),(1344,.lst (aP B.ns))]++X,lo⟩):Ok ⟨CO B,FN⟩ cx g s J ⟨nx,hd,dp,[(1343,.gh gs),(1344,.scr)]++X,lo⟩:=by
 obtain⟨a3,o3,w1,w2,⟨ws3,n3,rfl,w3⟩,w4⟩:=dU (S:=⟨CO B,FN⟩) (k:=1344) (x:= .lst (aP B.ns)) hk rfl
 have o1:=gg hk (k:=1344) (x:= .lst (aP B.ns)) (x':= .scr) rfl w1 w2 ⟨ws3,n3,rfl,jh w3⟩
 obtain⟨a4,o4,v1,v2,⟨kvs3,v3,v4⟩,v5⟩:=dU (S:=⟨CO B,FN⟩) (k:=1343) (x:= .sdict (a8 0)) o1 rfl
 exact gg o1 (k:=1343) (x:= .sdict (a8 0)) (x':= .gh gs) rfl v1 v2 ⟨_,⟨0,rfl,hD⟩,kvs3,v3,v4⟩
theorem JB.ghost{ir:List IS}{nx dp:Nat}{hd:Option Nat}{X:List (Nat×AO)}{lo:List (Nat×Value)}{gs:List Gt}{o:Out AF}(h:JB (CO B) ir ⟨nx,hd,dp,[(1343,.gh gs),(1344,.scr)]++X,lo⟩ o)(hD:Drawn B.ns 0 gs):
  JB (CO B) ir ⟨nx,hd,dp,[(1343,.sdict (a8 0)),(1344,.lst (aP B.ns))]++X,lo⟩ o:=
 fun FN sc cx C x hm J g s Q E hk hP=>h FN sc cx C x hm J g s Q E (uT hD hk) hP
end
theorem cY(ns:List Int)(s:Nat)(m:Int)(hm:0<m):0<=drawn ns s m/\drawn ns s m<m:=by
 unfold drawn
 cases ns[s]? with
 |some x=>exact⟨JV _ hm,KG _ hm⟩
 |none=>exact⟨JV _ hm,KG _ hm⟩
theorem ue{x:Int}{n:Nat}(h:x<((n+1:Nat):Int)):x=(n:Int)\/x<(n:Int):=by omega
theorem ED{x:Int}(h0:0<=x)(h:x<((0+1:Nat):Int)):x=0:=(ue h).elim id fun h=>absurd h0 (Int.not_le.mpr h)
theorem d2(ns:List Int)(s:Nat):drawn ns s 2=0\/drawn ns s 2=1:=by
 have h:=cY ns s 2 (by decide)
 exact(ue (n:=1) h.2).elim .inr fun h1=> .inl (ED h.1 h1)
theorem d3(ns:List Int)(s:Nat):drawn ns s 3=0\/drawn ns s 3=1\/drawn ns s 3=2:=by
 have h:=cY ns s 3 (by decide)
 exact(ue (n:=2) h.2).elim (fun e=> .inr (.inr e)) fun h2=>(ue (n:=1) h2).elim (fun e=> .inr (.inl e)) fun h1=> .inl (ED h.1 h1)
theorem d4(ns:List Int)(s:Nat):drawn ns s 4=0\/drawn ns s 4=1\/drawn ns s 4=2\/drawn ns s 4=3:=by
 have h:=cY ns s 4 (by decide)
 exact(ue (n:=3) h.2).elim (fun e=> .inr (.inr (.inr e))) fun h3=>(ue (n:=2) h3).elim (fun e=> .inr (.inr (.inl e))) fun h2=>(ue (n:=1) h2).elim (fun e=> .inr (.inl e)) fun h1=> .inl (ED h.1 h1)
theorem d5(ns:List Int)(s:Nat):drawn ns s 5=0\/drawn ns s 5=1\/drawn ns s 5=2\/drawn ns s 5=3\/drawn ns s 5=4:=by
 have h:=cY ns s 5 (by decide)
 exact(ue (n:=4) h.2).elim (fun e=> .inr (.inr (.inr (.inr e)))) fun h4=>(ue (n:=3) h4).elim (fun e=> .inr (.inr (.inr (.inl e)))) fun h3=>(ue (n:=2) h3).elim (fun e=> .inr (.inr (.inl e))) fun h2=>(ue (n:=1) h2).elim (fun e=> .inr (.inl e)) fun h1=> .inl (ED h.1 h1)
theorem Ed(ns:List Int)(s:Nat):∃f,drawn ns s 5=fi f:=by
 rcases d5 ns s with h|h|h|h|h
 ·exact⟨.f7,h⟩
 ·exact⟨.f40,h⟩
 ·exact⟨.fx,h⟩
 ·exact⟨.fb,h⟩
 ·exact⟨.f21,h⟩
theorem nI(ns:List Int):∀(n s:Nat),∃r:List Fl,r.length=n/\∃s',∀gs,Drawn ns s' gs->Drawn ns s (wn r++gs)
 |0,s=>⟨[],rfl,s,fun ι h=>h⟩
 |n+1,s=>by
  obtain⟨f,hf⟩:=Ed ns s
  obtain⟨r,hr,s',h⟩:=nI ns n (s+1)
  exact⟨f::r,by rw[Hb,hr],s',fun gs hg=>⟨hf,h gs hg⟩⟩
theorem yc(ns:List Int)(s:Nat):∃r:List Fl,r.length<4/\∃s',∀gs,Drawn ns s' gs->Drawn ns s (bT r gs):=by
 have hl:=cY ns s 4 (by decide)
 obtain⟨n,hn⟩:=HX hl.1
 obtain⟨r,hr,s',h⟩:=nI ns n (s+1)
 exact⟨r,by omega,s',fun gs hg=>⟨by rw[hr];exact hn,h gs hg⟩⟩
theorem zk(ns:List Int)(s:Nat):∃n:Nd,∃s',∀gs,Drawn ns s' gs->Drawn ns s (El n++gs):=by
 rcases d2 ns s with h|h
 ·rcases d3 ns (s+1) with k|k|k
  ·exact⟨.c1,s+2,fun gs hg=>⟨h,k,hg⟩⟩
  ·exact⟨.c2,s+2,fun gs hg=>⟨h,k,hg⟩⟩
  ·exact⟨.c3,s+2,fun gs hg=>⟨h,k,hg⟩⟩
 ·rcases d4 ns (s+1) with k|k|k|k
  ·exact⟨.a0,s+2,fun gs hg=>⟨h,k,hg⟩⟩
  ·exact⟨.a1,s+2,fun gs hg=>⟨h,k,hg⟩⟩
  ·exact⟨.a2,s+2,fun gs hg=>⟨h,k,hg⟩⟩
  ·exact⟨.a3,s+2,fun gs hg=>⟨h,k,hg⟩⟩
theorem gF(r:Ri)(h:r= .v1\/r= .v2\/r= .it .var\/∃n,r= .it (.elem n)):r∈risR:=by
 rcases h with rfl|rfl|rfl|⟨n,rfl⟩
 ·exact ev _ (.tail _ (.head _))
 ·exact ev _ (.tail _ (.tail _ (.head _)))
 ·exact ev _ (.head _)
 ·exact r6 _ (nw (gG n))
theorem eC(r:Ri)(h:(∃n,r= .it (.nod n))\/r= .it .k4\/r= .it .k13\/r= .it .var\/∃n,r= .it (.elem n)):r∈wo:=by
 rcases h with⟨n,rfl⟩|rfl|rfl|rfl|⟨n,rfl⟩
 ·exact ev _ (r6 _ (nw (gG n)))
 ·exact ev _ (ev _ (.head _))
 ·exact ev _ (ev _ (.tail _ (.head _)))
 ·exact ev _ (ev _ (.tail _ (.tail _ (.head _))))
 ·exact r6 _ (nw (gG n))
theorem zg(ns:List Int)(rd:Bool)(s:Nat):∃r:Ri,r∈CB rd/\∃s',∀gs,Drawn ns s' gs->Drawn ns s (Dx r++gs):=by
 obtain⟨n,s',hn⟩:=zk ns (s+1)
 rcases d4 ns s with h|h|h|h
 ·refine⟨.it (.elem n),?_,s',fun gs hg=>⟨h,hn gs hg⟩⟩
  cases rd with
  |true=>exact gF _ (.inr (.inr (.inr ⟨n,rfl⟩)))
  |false=>exact eC _ (.inr (.inr (.inr (.inr ⟨n,rfl⟩))))
 ·cases rd with
  |true=>exact⟨.v1,gF _ (.inl rfl),s+1,fun gs hg=>⟨h,hg⟩⟩
  |false=>exact⟨.it (.nod n),eC _ (.inl ⟨n,rfl⟩),s',fun gs hg=>⟨h,hn gs hg⟩⟩
 ·cases rd with
  |true=>exact⟨.v2,gF _ (.inr (.inl rfl)),s+1,fun gs hg=>⟨h,hg⟩⟩
  |false=>
   rcases d2 ns (s+1) with k|k
   ·exact⟨.it .k4,eC _ (.inr (.inl rfl)),s+2,fun gs hg=>⟨h,k,hg⟩⟩
   ·exact⟨.it .k13,eC _ (.inr (.inr (.inl rfl))),s+2,fun gs hg=>⟨h,k,hg⟩⟩
 ·refine⟨.it .var,?_,s+1,fun gs hg=>⟨h,hg⟩⟩
  cases rd with
  |true=>exact gF _ (.inr (.inr (.inl rfl)))
  |false=>exact eC _ (.inr (.inr (.inr (.inl rfl))))
theorem xA(ns:List Int)(rd:Bool)(n:Nat):∀(s:Nat),∃rs:List Ri,rs.length=n/\(∀r∈rs,r∈CB rd)/\∃s',∀gs,Drawn ns s' gs->Drawn ns s (iP rs gs):=by
 induction n with
 |zero=>exact fun s=>⟨[],rfl,(fun ι h=>by cases h),s,fun ι h=>h⟩
 |succ n ih=>
  intro s
  obtain⟨r,hr,s1,h1⟩:=zg ns rd s
  obtain⟨rs,hl,hm,s2,h2⟩:=ih s1
  exact⟨r::rs,by rw[Hb,hl],fun q hq=>by cases hq with|head=>exact hr|tail _ m=>exact hm q m,s2,fun gs hg=>h1 _ (h2 gs hg)⟩
theorem zo(ns:List Int)(s:Nat):∃q:Rd,RdOk q/\∃s',∀gs,Drawn ns s' gs->Drawn ns s (jk q gs):=by
 have hl:=cY ns (s+2) 5 (by decide)
 obtain⟨n,hn⟩:=HX hl.1
 obtain⟨rs,hr,hm,s',h⟩:=xA ns (Io (drawn ns s 3) 2) n (s+3)
 refine⟨⟨drawn ns s 3,drawn ns (s+1) 2,rs⟩,⟨?_,by show rs.length<=4;omega,hm⟩,s',fun gs hg=>⟨rfl,rfl,by show _=((rs.length:Nat):Int);rw[hr];exact hn,h gs hg⟩⟩
 show(drawn ns s 3,drawn ns (s+1) 2)∈_
 rcases d3 ns s with e|e|e<;>rcases d2 ns (s+1) with k|k<;>rw[e,k]<;>simp
theorem xE(ns:List Int)(n:Nat):∀(s:Nat),∃qs:List Rd,qs.length=n/\(∀q∈qs,RdOk q)/\∃s',∀gs,Drawn ns s' gs->Drawn ns s (D9 qs gs):=by
 induction n with
 |zero=>exact fun s=>⟨[],rfl,(fun ι h=>by cases h),s,fun ι h=>h⟩
 |succ n ih=>
  intro s
  obtain⟨r,hr,s1,h1⟩:=zo ns s
  obtain⟨rs,hl,hm,s2,h2⟩:=ih s1
  exact⟨r::rs,by rw[Hb,hl],fun q hq=>by cases hq with|head=>exact hr|tail _ m=>exact hm q m,s2,fun gs hg=>h1 _ (h2 gs hg)⟩
theorem parse(ns:List Int):∃(r0 r1:List Fl) (qs:List Rd),r0.length<4/\r1.length<4/\0<qs.length/\qs.length<4/\(∀q∈qs,RdOk q)/\Drawn ns 0 (bT r0 (bT r1 (.dr 3 ((qs.length-1:Nat):Int)::D9 qs []))):=by
 obtain⟨r0,l0,s1,h1⟩:=yc ns 0
 obtain⟨r1,l1,s2,h2⟩:=yc ns s1
 have hl:=cY ns s2 3 (by decide)
 obtain⟨n,hn⟩:=HX hl.1
 obtain⟨qs,lq,hm,s',h3⟩:=xE ns (n+1) (s2+1)
 exact⟨r0,r1,qs,l0,l1,by omega,by omega,hm,h1 _ (h2 _ ⟨by rw[lq];exact hn,h3 [] trivial⟩)⟩
noncomputable def tN(x:Nat)(v:Value)(st1:St):Out AF:=oget (lk st1.lo x) fun w=>oget (bL w) fun k=>oget (lk st1.led k) fun o=>oget (vB o) fun ι=>some (.ok .next,{st1 with led:=up st1.led k (.cell (some v))})
theorem rJ{S:Core}{y:Nat}{e:IE}{st:St}{o:Out Value}(h:JE S e st o):JS S (.asgC y e) st (Ob o fun v st1=>tN y v st1):=by
 intro FN sc cx C x hm J g s Q E hk hP
 apply hm.on
 intro _ _ _ h0 h1 h2
 ·refine Im ?_ (bG h1 _ _ _)
  refine Sat.bind (h FN sc cx C _ h0) hk hP fun w st2 hz J1 g1 s1 v' x1 hv hP1=>?_
  obtain⟨w,e1,hP2⟩:hP1:=hP1.oget
  obtain⟨k,e2,hP3⟩:hP2:=hP2.oget
  obtain⟨o,e3,hP4⟩:hP3:=hP3.oget
  obtain⟨u,e4,hP5⟩:hP4:=hP4.oget
  cases aQ e2
  cases nW e4
  exact nF C x1.ok h2 e1 e3 hv fun s' x2=>hP5 _ _ _ _ x2 .next
noncomputable def wKs:List Str:= [ag "script",ag "spot"]
noncomputable def wEs:List IE:= [.slcH (.loc 203) (.cst (.int 50 0)),.cst (.int 0 0)]
section
variable{B:Base}
theorem wH(X:List (Nat×AO))(ms:List Int):(RN B 60).e (.dct wKs wEs) ⟨1343,none,39,[(1341,.cell none),(1342,.cell none),(1340,.plst ms)]++X,fj⟩=
  Ob (Ob (grd (gy (fL ms).length 900) (some (.ok (pf 1344),⟨1345,none,39,(1344,.lst ((fL ms).take 50))::(1343,.sdict [])::([(1341,.cell none),(1342,.cell none),(1340,.plst ms)]++X),fj⟩))) (fun v st1=>Ob (d0 (RN B 59) [.cst (.int 0 0)] st1) fun us st2=>some (.ok (v::us),st2))) (fun us st1=>Ab wKs 1343 us st1):=by kernel_rfl
theorem sy(P:PB B)(X:List (Nat×AO))(ms:List Int)(h:(fL ms).length<=900):JE (CO B) (.dct wKs wEs) ⟨1343,none,39,[(1341,.cell none),(1342,.cell none),(1340,.plst ms)]++X,fj⟩
  (some (.ok (.ref 1343),⟨1345,none,39,(1344,.lst ((fL ms).take 50))::(1343,.sdict (a8 0))::([(1341,.cell none),(1342,.cell none),(1340,.plst ms)]++X),fj⟩)):=by
 have:=eT P.TO P.FO P.oo 60 (.dct wKs wEs) ⟨1343,none,39,[(1341,.cell none),(1342,.cell none),(1340,.plst ms)]++X,fj⟩
 have e:=wH (B:=B) X ms
 unfold RN at e
 rw[e,ls h] at this
 exact this
end
noncomputable def ST(ms:List Int)(X:List (Nat×AO)):List (Nat×AO):= [(1341,.cell none),(1340,.plst ms)]++X
theorem AH(ms:List Int){X:List (Nat×AO)}(hX:Low 1340 X):Low 1345 (ST ms X):=(aI rfl rfl rfl (aI (x:= .plst ms) rfl rfl rfl aO)).app (hX.mono (by decide))
section
variable{B:Base}
theorem DD(P:PB B){ms:List Int}(hm:ms.length<=900)(hns:(fL ms).take 50=aP B.ns){gs:List Gt}(hD:Drawn B.ns 0 gs){X:List (Nat×AO)}{r:List IS}{o:Out AF}
  (h:JB (CO B) r ⟨1350,none,39,GC gs++ST ms X,fj⟩ o):JB (CO B) (.asgC 174 (.dct wKs wEs)::r) ⟨1343,none,39,[(1341,.cell none),(1342,.cell none),(1340,.plst ms)]++X,fj⟩ o:=by
 have hJ:=rJ (y:=174) (sy P X ms (by unfold fL;rw[xL];exact hm))
 rw[hns] at hJ
 have e:(Ob (some (.ok (pf 1343),(⟨1345,none,39,(1344,.lst (aP B.ns))::(1343,.sdict (a8 0))::([(1341,.cell none),(1342,.cell none),(1340,.plst ms)]++X),fj⟩:St))) fun v st1=>tN 174 v st1)=some (.ok .next,⟨1345,none,39,(1344,.lst (aP B.ns))::(1343,.sdict (a8 0))::([(1341,.cell none),(1342,.cell (some (.ref 1343))),(1340,.plst ms)]++X),fj⟩):=by kernel_rfl
 rw[e] at hJ
 refine aN (st1:=⟨1345,none,39,(1344,.lst (aP B.ns))::(1343,.sdict (a8 0))::([(1341,.cell none),(1342,.cell (some (.ref 1343))),(1340,.plst ms)]++X),fj⟩) hJ ?_
 have h1:=JB.before (f:=id) h (dH (B:=B) (nx:=1345) (by decide) (by decide)) fun ι ι=>rfl
 have h2:=JB.ghost (X:= [(1342,.cell (some (.ref 1343)))]++ST ms X) h1 hD
 refine JB.pre h2 (aB (l:= [(1343,AO.sdict (a8 0))]++([(1344,.lst (aP B.ns))]++([(1342,.cell (some (.ref 1343)))]++([(1341,.cell none)]++([(1340,.plst ms)]++X))))) (m:= [(1344,AO.lst (aP B.ns))]++([(1343,.sdict (a8 0))]++([(1341,.cell none)]++([(1342,.cell (some (.ref 1343)))]++([(1340,.plst ms)]++X))))) fun a=>?_)
 exact aF [_,_,_,_,_] [_] (.a (.c 0 .n) (.a (.c 1 .n) (.a (.c 2 .n) (.a (.c 3 .n) (.a (.c 4 .n) (.l 0)))))) (.a (.c 1 .n) (.a (.c 0 .n) (.a (.c 3 .n) (.a (.c 2 .n) (.a (.c 4 .n) (.l 0)))))) rfl _
theorem DC(P:PB B){r0 r1:List Fl}(h0:r0.length<4)(h1:r1.length<4)(gs:List Gt){X:List (Nat×AO)}(hX:Low 1345 X):
  JS (CO B) (.asgL 184 205 (.cst (.int 2 0)) 3) ⟨1350,none,39,GC (bT r0 (bT r1 gs))++X,fj⟩ (some (.ok .next,⟨1400,none,39,GC gs++(ix r0 r1++X),i5⟩)):=
 JS.after (wj P h0 h1 gs hX) (.ok (ky (lo:=fj++ [(184,.ref 1351)]) (aB fun a=>by exact aF [] [_,_,_] (.r [0,1] (.l 2)) (.r [1,0] (.l 2)) rfl _) rfl) (fun ι ι=>rfl) rfl)
theorem lW(r0 r1:List Fl):Low 1400 (ix r0 r1):=aI rfl rfl rfl (aI (x:= .lst (bB r0)) rfl (bH _) rfl (aI (x:= .lst (bB r1)) rfl (bH _) rfl aO))
noncomputable def rH:List (Nat×Value):=(206,.ref 1401)::i5
end
theorem Dn:∀i,bs i+100<=1800
 |0=>by decide|1=>by decide|_+2=>(by decide:1800<=1800)
theorem eY:∀(qs:List Rd) (i:Nat),(∀q∈qs,RdOk q)->Low 1800 (ip i qs)
 | [],_,_=>aO
 |q::r,i,h=>((lV (h q (.head _))).mono (Dn i)).app (eY r (i+1) fun p hp=>h p (.tail _ hp))
theorem jO:∀n,Low 1800 [(1401,.lst (be n))]
 |0=>aJ (by rfl)|1=>aJ (by rfl)|2=>aJ (by rfl)|_+3=>aJ (by rfl)
section
variable{B:Base}
theorem DB(P:PB B)(g:List Gt){X:List (Nat×AO)}(hX:Low 1400 X){qs:List Rd}(hq:∀q∈qs,RdOk q)(h1:0<qs.length)(h2:qs.length<4):
  JS (CO B) (.asgL 206 180 pQ 4) ⟨1400,none,39,GC (.dr 3 ((qs.length-1:Nat):Int)::D9 qs g)++X,i5⟩ (some (.ok .next,⟨1990,none,39,[(1401,.lst (be qs.length))]++(GC g++(ip 0 qs++X)),rH⟩)):=by
 have hJ:=vX P g hX qs hq h1 h2
 have hL:Low 1990 ([(1401,AO.lst (be qs.length))]++(GC g++(ip 0 qs++X))):=((jO _).mono (by decide)).app (((jM g).mono (by decide)).app (((eY qs 0 hq).mono (by decide)).app (hX.mono (by decide))))
 obtain⟨f,W,hf⟩:=i7 (B:=B) (n0:=1990) (nx:=4990) (nx':=1990) (dp:=39) (hd:=none) (lo:=rH) (by decide) hL rfl (by decide) (fun k h=>by cases h)
 exact JS.after (JS.after hJ (.ok (ky (lo:=i5++ [(206,.ref 1401)]) (lo':=rH) (Lb _) rfl) (fun ι ι=>rfl) rfl)) (.ok W (fun k hk=>hf k (Hk hk (by decide:1400<1990))) rfl)
end
section
variable{B:Base}
theorem DA(P:PB B){r0 r1:List Fl}(h0:r0.length<4)(h1:r1.length<4){Y:List (Nat×AO)}(hY:Low 1990 Y):
  JS (CO B) (.asgC 44 (.call (.glob 208 (.ref 1306)) [.loc 184])) ⟨1990,none,39,[(1303,.tabl [])]++(ix r0 r1++([(1341,.cell none)]++Y)),rH⟩
   (some (.ok .next,⟨2045,none,39,(RG++MG 2005 V0++YY 0 (aK r0) (aK r1) []++ix r0 r1++TG)++([(1341,.cell (some (.ref 2000)))]++Y),rH⟩)):=by
 have hf:JE (CO B) (.glob 208 (.ref 1306)) ⟨1990,none,39,[(1303,.tabl [])]++(ix r0 r1++([(1341,.cell none)]++Y)),rH⟩ (some (.ok (.ref 1306),⟨1990,none,39,[(1303,.tabl [])]++(ix r0 r1++([(1341,.cell none)]++Y)),rH⟩)):=eT P.TO P.FO P.oo 60 _ _
 have hc:=CallSat.pre (l:= [(1303,.tabl [])]++(ix r0 r1++([(1341,.cell none)]++Y))) (tj P h0 h1 ([(1341,.cell none)]++Y) rH) (aB fun a=>by exact aF [_,_] [_,_] (.a (.r [0] (.c 0 .n)) (.a (.c 1 .n) (.l 1))) (.a (.c 0 .n) (.r [0] (.a (.c 1 .n) (.l 1)))) rfl _)
 have hX:Low 1990 (ix r0 r1++([(1341,AO.cell none)]++Y)):=((lW r0 r1).mono (by decide)).app ((aI rfl rfl rfl aO).app hY)
 have hJ:=rJ (y:=44) (dW P (es:= [.loc 184]) (n:=60) (n0:=1990) (m:=1303) (mm:= []) (A':= [(1303,.tabl [])]) (nx':=1990) (dp':=39) (hd':=none) (lo':=rH) hf (by kernel_rfl) rfl hX (by kernel_rfl) (by kernel_rfl) hc)
 have e:(Ob (some (.ok (pf 2000),(⟨2045,none,39,(RG++MG 2005 V0++YY 0 (aK r0) (aK r1) []++ix r0 r1++TG)++([(1341,.cell none)]++Y),rH⟩:St))) fun v st1=>tN 44 v st1)=some (.ok .next,⟨2045,none,39,(RG++MG 2005 V0++YY 0 (aK r0) (aK r1) []++ix r0 r1++TG)++([(1341,.cell (some (.ref 2000)))]++Y),rH⟩):=by kernel_rfl
 rw[e] at hJ
 exact hJ
end
noncomputable def LO5:List (Nat×Value):= [(199,.ref 3000),(206,.ref 1401),(44,.ref 1341),(174,.ref 1342)]
noncomputable def zq:IS:= .asg 199 (.dct [ag "cells",ag "out",ag "rows",ag "taken"] [.lst [.neg 5,.cst (.int 9 0),.cst (.int 1 0),.cst (.int 2 0),.cst (.int 3 0)],.lst [],.loc 184,.cst (.int 0 0)])
noncomputable def GI:List (Nat×AO):= [(3000,.sdict [(ag "cells",.ref 3001),(ag "out",.ref 3002),(ag "rows",.ref 1351),(ag "taken",.int 0 0)]),(3001,.lst (oq V0)),(3002,.lst [])]
noncomputable def Aq(k:Nat):Nat:=if k=3003 then 1351 else if k=3004 then 1354 else if k=3005 then 1355 else k
theorem mQ{k:Nat}(h:k<3003):Aq k=k:=by
 unfold Aq
 rw[if_neg (by omega),if_neg (by omega),if_neg (by omega)]
theorem Ap{k:Nat}(h:3006<=k):Aq k=k:=by
 unfold Aq
 rw[if_neg (by omega),if_neg (by omega),if_neg (by omega)]
theorem my(f:Nat->Nat)(r:List Fl):(bB r).map (ren f)=bB r:=ci fun v hv=>bj fun t ht=>by
 have:t∈(bB r).flatMap tokV:=sK.mpr ⟨v,hv,ht⟩
 rw[bH] at this
 cases this
section
variable{B:Base}
theorem zp(P:PB B){X:List (Nat×AO)}(hX:Low 2045 X):JS (CO B) zq ⟨2045,none,39,X,rH⟩ (some (.ok .next,⟨3010,none,39,GI++X,LO5⟩)):=js P 60 2045 [] rfl hX (by kernel_rfl)
theorem Cz(P:PB B){r0 r1:List Fl}{Z:List (Nat×AO)}(hZ:Low 2045 Z):
  JS (CO B) zq ⟨2045,none,39,ix r0 r1++Z,rH⟩ (some (.ok .next,⟨3010,none,39,(cK 0++(c9 V0++(cZ []++cu r0 r1)))++Z,LO5⟩)):=by
 have hJ:=zp P (((lW r0 r1).mono (by decide)).app hZ)
 have W:=dI (B:=B) (f:=Aq) (nx:=3010) (nx':=3010) (dp:=39) (A:=GI++ix r0 r1) (A':=cK 0++(c9 V0++(cZ []++cu r0 r1))) (X:=Z) (lo:=LO5) (lo':=LO5)
  (fun k hk=>mQ (by omega)) (by decide) (fun k hk=>by rw[Ap (by omega)];exact hk) ?_ (fP (fun k hk=>mQ hk) (hZ.mono (by decide))) (fun x v e=>?_) (fun p hp h=>?_)
 ·exact JS.after hJ (.ok (W.reorderL (aB fun a=>by exact aF [] [_,_,_] (.a (.r [0] (.l 1)) (.l 2)) (.r [0,1] (.l 2)) rfl _)) (fun k hk=>mQ (Hk hk (by decide:2045<3003))) rfl)
 ·show [(3000,_),(3001,_),(3002,_),(1351,_),(1354,AO.lst ((bB r0).map (ren Aq))),(1355,AO.lst ((bB r1).map (ren Aq)))]=_
  rw[my,my]
  rfl
 ·rw[pF (n:=3003) (fun k hk=>mQ hk) (lo:=LO5) rfl e]
  exact e
 ·have:(cK 0++(c9 V0++(cZ []++cu r0 r1))).all (fun p=>!dc p.2)=true:=rfl
  have h2:=eg.mp this p hp
  rw[h] at h2
  cases h2
end
section
variable{B:Base}
theorem qE{nx dp dp':Nat}{hd:Option Nat}{l:List (Nat×AO)}{lo:List (Nat×Value)}(h:dp'<=dp):Weak (CO B) id ⟨nx,hd,dp,l,lo⟩ ⟨nx,hd,dp',l,lo⟩:=
 {hd:=fun ι ι=>rfl,hb:=id,gh:=fun ι ι ι p ι=>ak p.2,hi:=fun ι hk=>hk,led:=fun p hp=>by rw[cf];exact hp,nd:=fun h=>h,lo:=fun x v e=>by rw[ak];exact e,pin:=fun ι ι ι=>rfl,h:=by simp,dp:=h}
theorem pM(P:PB B)(d:Deed)(hd:j6 d){r0 r1:List Fl}(h0:r0.length<4)(h1:r1.length<4)(V:Sig)(tk:Tk)(outs:List Str)(ho:outs.length<3)(LB:List (Nat×AO))(lo:List (Nat×Value)):
  CallSat (CO B) 1313 [.ref 2000,.ref 5000] ⟨5100,none,39,(DT d.rd d.st++(RG++(MG 5090 V++(IL d.its.length++(aA 0 d.its++YY (tk.n:Int) (aK r0) (aK r1) outs)))))++LB,lo⟩
   (bE LB (ap ⟨5100,none,39,[],lo⟩ (iO (IL d.its.length++(aA 0 d.its++(YY ((af d r0 r1 V tk outs).tk.n:Int) (aK r0) (aK r1) (af d r0 r1 V tk outs).outs++DT d.rd d.st))) (af d r0 r1 V tk outs).V (af d r0 r1 V tk outs).out))):=by
 have hb:=JB.before (f:=id) (pN P d hd h0 h1 V tk outs ho) (qE (B:=B) (dp:=38) (by decide)) fun ι ι=>rfl
 have:=bf P.FO (k:=1313) (vs:= [.ref 2000,.ref 5000]) (st:=⟨5100,none,39,(DT d.rd d.st++(RG++(MG 5090 V++(IL d.its.length++(aA 0 d.its++YY (tk.n:Int) (aK r0) (aK r1) outs)))))++LB,lo⟩) (LA:=DT d.rd d.st++(RG++(MG 5090 V++(IL d.its.length++(aA 0 d.its++YY (tk.n:Int) (aK r0) (aK r1) outs))))) (LB:=LB) (d:=38) (lo:=EI) (fi:=⟨false,[44,195],[],[],b_l_heard⟩) (by kernel_rfl) rfl rfl rfl hb
 exact this
theorem vU(P:PB B)(d:Deed)(hd:j6 d){r0 r1:List Fl}(h0:r0.length<4)(h1:r1.length<4)(V:Sig)(tk:Tk)(outs:List Str)(ho:outs.length<3)(LB:List (Nat×AO))(lo:List (Nat×Value)):
  CallSat (CO B) 1334 [.ref 3000,.ref 5000] ⟨5100,none,39,ar d.rd d.st (tk.n:Int) V outs r0 r1 d.its++LB,lo⟩
   (some (.ok (lw (af d r0 r1 V tk outs).out),⟨5600,none,39,(j4 (af d r0 r1 V tk outs).out++ar d.rd d.st ((af d r0 r1 V tk outs).tk.n:Int) (af d r0 r1 V tk outs).V (af d r0 r1 V tk outs).outs r0 r1 d.its)++LB,lo⟩)):=by
 have hb:=JB.before (f:=id) (vV P d hd h0 h1 V tk outs ho) (qE (B:=B) (dp:=38) (by decide)) fun ι ι=>rfl
 exact bf P.FO (k:=1334) (vs:= [.ref 3000,.ref 5000]) (st:=⟨5100,none,39,ar d.rd d.st (tk.n:Int) V outs r0 r1 d.its++LB,lo⟩) (LA:=ar d.rd d.st (tk.n:Int) V outs r0 r1 d.its) (LB:=LB) (d:=38) (lo:=dn) (fi:=⟨false,[199,195],[],[],b_l_due⟩) (by kernel_rfl) rfl rfl rfl hb
end
noncomputable def hF(k:Nat):Nat:=if k=3220 then 7100 else if 3230<=k/\k<3235 then k+3670 else if 5100<=k then k+2100 else k
theorem vI{k:Nat}(h:k<3220):hF k=k:=by
 unfold hF
 rw[if_neg (by omega),if_neg (by omega),if_neg (by omega)]
theorem AS{k:Nat}(h:3235<=k)(h2:k<5100):hF k=k:=by
 unfold hF
 rw[if_neg (by omega),if_neg (by omega),if_neg (by omega)]
theorem DS{k:Nat}(h:5100<=k):hF k=k+2100:=by
 unfold hF
 rw[if_neg (by omega),if_neg (by omega),if_pos h]
theorem AW{f:Nat->Nat}(hf:∀k,5000<=k->k<5090->f k=k){X:List (Nat×AO)}(h:Win X):Fx f X:=fun p hp=>by
 obtain⟨a,c⟩:=h f id hf p hp
 exact⟨a,c.trans (cf _)⟩
theorem low_RG2:Low 3020 RG:=aJ (by rfl)
theorem gI(tk:Int)(t0 t1:Str)(outs:List Str):Low 3020 (YY tk t0 t1 outs):=
 (aJ (by rfl:bU 3020 (WG tk)=true)).app ((aJ (by rfl:bU 3020 MK=true)).app ((aJ (by rfl:bU 3020 (IN t0 t1)=true)).app ((aI rfl (cy outs) rfl aO:Low 3020 (OU outs)).app (aJ (by rfl:bU 3020 ZG=true)))))
noncomputable def iC(k:Nat):Option Int->List (Nat×AO)
 |none=> []
 |some c=> [(k,.tup [tx "out",.int c 0])]
noncomputable def vn(k:Nat):Option Int->Value
 |none=> .int 4 0
 |some _=> .ref k
theorem AT(V:Sig):∀a:Option Int,(iC 3220 a++MG 3230 V).map (fun p=>(hF p.1,bg hF p.2))=iC 7100 a++MG 6900 V
 |none=>by kernel_rfl
 |some c=>by kernel_rfl
theorem yU(k:Nat)(V:Sig):∀a:Option Int,(iC k a++MG 3230 V).all (fun p=>!dc p.2)=true
 |none=>rfl
 |some c=>rfl
section
variable{B:Base}
theorem xq{V:Sig}{a:Option Int}{X:List (Nat×AO)}{lo:List (Nat×Value)}(hX:Fx hF X)(hlo:∀p∈lo,ren hF p.2=p.2):
  Weak (CO B) hF ⟨7200,none,39,(iC 7100 a++MG 6900 V)++X,lo⟩ ⟨5100,none,39,(iC 3220 a++MG 3230 V)++X,lo⟩:=
 dI (fun k hk=>vI (by omega)) (by decide) (fun k hk=>by rw[DS hk];omega) (AT V a) hX (fun x v e=>by rw[hlo _ (az e)];exact e) (fun p hp h=>by
  have h2:=eg.mp (yU 3220 V a) p hp
  rw[h] at h2
  cases h2)
end
noncomputable def tF(b k:Nat):Nat:=if 5090<=k/\k<5095 then k-1990 else if 5000<=k/\k<5090 then b+(k-5000) else k
theorem tM{b k:Nat}(h:k<5000):tF b k=k:=by
 unfold tF
 rw[if_neg (by omega),if_neg (by omega)]
theorem Ba{b k:Nat}(h:5095<=k):tF b k=k:=by
 unfold tF
 rw[if_neg (by omega),if_neg (by omega)]
theorem Bb{b k:Nat}(h1:5000<=k)(h2:k<5090):tF b k=gB b k:=by
 unfold tF gB
 rw[if_neg (by omega),if_pos ⟨h1,h2⟩]
theorem zS{b:Nat}{q:Rd}(hq:RdOk q):(g8 q).map (fun p=>(tF b p.1,bg (tF b) p.2))=dB b q:=
 wv.mpr fun p hp=>by
  obtain⟨a,c⟩:=i6 hq (tF b) (gB b) (fun k h1 h2=>Bb h1 h2) p hp
  rw[a,c]
theorem Bc(b:Nat)(V:Sig):(MG 5090 V).map (fun p=>(tF b p.1,bg (tF b) p.2))=MG 3100 V:=by kernel_rfl
section
variable{B:Base}
theorem zN{b:Nat}{q:Rd}(hq:RdOk q){V:Sig}{X:List (Nat×AO)}{lo lo':List (Nat×Value)}(hX:Low 5000 X)(hlo:∀x v,lk lo' x=some v->lk lo x=some (ren (tF b) v))(hp:∀p∈MG 5090 V,dc p.2=true->tF b p.1=p.1):
  Weak (CO B) (tF b) ⟨3200,none,39,(dB b q++MG 3100 V)++X,lo⟩ ⟨5100,none,39,(g8 q++MG 5090 V)++X,lo'⟩:=
 dI (fun k hk=>tM (by omega)) (by decide) (fun k hk=>by rw[Ba (by omega)];omega) (uh (zS hq) (Bc b V)) (fP (fun k hk=>tM hk) hX) hlo (fun p hp2 h=>(nl.mp hp2).elim (fun h2=>absurd h (by rw[qX q p h2];decide)) fun h2=>hp p h2 h)
end
noncomputable def Rd.d(q:Rd):Deed:=⟨q.rd,q.st,q.its⟩
theorem FL:(risR.all fun r=>itR r.im)=true:=by decide
theorem qt{q:Rd}(hq:RdOk q):j6 q.d:=⟨uv hq,fun h i hi=>by
 obtain⟨r,hr,rfl⟩:=re.mp hi
 have h:q.rd=true:=h
 have:=hq.m r hr
 rw[h] at this
 exact eg.mp FL r this⟩
noncomputable def LO6:List (Nat×Value):=(195,.ref 5000)::LO5
section
variable{B:Base}
noncomputable def HA(q:Rd)(r0 r1:List Fl)(V:Sig)(tk:Tk)(outs:List Str):List (Nat×AO):=DT q.rd q.st++(RG++(MG 5090 V++(IL q.its.length++(aA 0 q.its++YY (tk.n:Int) (aK r0) (aK r1) outs))))
theorem AI(q:Rd)(r0 r1:List Fl)(V:Sig)(tk:Tk)(outs:List Str):Low 5100 (HA q r0 r1 V tk outs):=(bx _ _).app (low_RG.app ((bw V).app ((aS _).app ((aE _ _).app (dT _ _ _ _)))))
theorem vE(P:PB B){q:Rd}(hq:RdOk q){r0 r1:List Fl}(h0:r0.length<4)(h1:r1.length<4)(V:Sig)(tk:Tk)(outs:List Str)(ho:outs.length<3){LB:List (Nat×AO)}(hLB:Low 5100 LB){o:Out Value}
  (hc:CallSat (CO B) 1313 [.ref 2000,.ref 5000] ⟨5100,none,39,[(1341,.cell (some (.ref 2000)))]++(HA q r0 r1 V tk outs++LB),LO6⟩ o):
  JE (CO B) (.call (.glob 209 (.ref 1313)) [.cel 44,.loc 195]) ⟨5100,none,39,[(1341,.cell (some (.ref 2000)))]++(HA q r0 r1 V tk outs++LB),LO6⟩ o:=by
 have hf:JE (CO B) (.glob 209 (.ref 1313)) ⟨5100,none,39,[(1341,.cell (some (.ref 2000)))]++(HA q r0 r1 V tk outs++LB),LO6⟩ (some (.ok (.ref 1313),⟨5100,none,39,[(1341,.cell (some (.ref 2000)))]++(HA q r0 r1 V tk outs++LB),LO6⟩)):=eT P.TO P.FO P.oo 60 _ _
 exact dW P (es:= [.cel 44,.loc 195]) (n:=60) (n0:=5100) (m:=1341) (mm:= []) (A':= [(1341,.cell (some (.ref 2000)))]) (nx':=5100) (dp':=39) (hd':=none) (lo':=LO6) hf (by kernel_rfl) rfl ((AI _ _ _ _ _ _).app hLB) (by kernel_rfl) (by kernel_rfl) hc
end
theorem jC(vs:List Nv):Ht (bQ vs)=true:=by
 have key:∀vs:List Nv,(BM vs).all (fun c=>decide (c<0x110000))=true:=fun vs=>by
  induction vs with
  |nil=>rfl
  |cons v r ih=>
   show(decide (v.codes.getD 0 0<0x110000)&&(decide (v.codes.getD 1 0<0x110000)&&(decide (v.codes.getD 2 0<0x110000)&&(BM r).all (fun c=>decide (c<0x110000)))))=true
   rw[ih]
   cases v<;>rfl
 show(BM vs).toArray.all (fun c=>decide (c<0x110000))=true
 rw[List.all_toArray]
 exact key vs
theorem vR{v:Value}{d:PyData}(e:sQ v=some d):eq1 v v=true:=by
 induction iu e using Dat1.casesOn with
 |none=>rfl
 |int i=>exact(Ii i i).mpr rfl
 |str=>exact seq_iff.mpr rfl
theorem kh(vs:List Value):(fT vs).isSome=true->iQ vs vs=true:=by
 induction vs with
 |nil=>exact fun ι=>rfl
 |cons v r ih=>
  intro h
  obtain⟨x,h⟩:=kt.mp h
  obtain⟨d,e1,h⟩:h:=aC h
  obtain⟨ds,e2,h⟩:h:=aC h
  show(bif eq1 v v then iQ r r else false)=true
  rw[vR e1]
  exact ih (by rw[e2];rfl)
theorem sP(outs:List Str):(∀x∈outs,Ht x=true)->(fT (outs.map fun x=>HL x 0)).isSome=true:=by
 induction outs with
 |nil=>exact fun ι=>rfl
 |cons a r ih=>
  intro h
  have h1:=h a (.head _)
  obtain⟨ds,h2⟩:=kt.mp (ih fun x hx=>h x (.tail _ hx))
  show(oget (grd (Ht a) (some (PyData.str a))) fun d=>oget (fT (r.map fun x=>HL x 0)) fun ds=>some (d::ds)).isSome=true
  rw[h1,h2]
  rfl
theorem qZ{S:Core}{st:St}{k j:Nat}{vs:List Value}(h1:rd S st k=some (.lst vs))(h2:rd S st j=some (.lst vs))(h3:(fT vs).isSome=true)(h4:gy 4 st.dp=true):mC S st .NotEq (.ref k) (.ref j)=some false:=by
 show oget (ki S st k j) (fun c=>some (!c))=_
 unfold ki
 rw[h1,h2]
 show oget (grd ((fT vs).isSome&&(fT vs).isSome&&gy 4 st.dp) (some (iQ vs vs))) (fun c=>some (!c))=_
 rw[h3,h4]
 show some (!iQ vs vs)=_
 rw[kh vs h3]
 rfl
theorem Ax{S:Core}{a b:IE}{st st1 st2:St}{q:Bool}(ha:JT S a st (some (.ok false,st1)))(hb:JT S b st1 (some (.ok q,st2))):JT S (.or_ [a,b]) st (some (.ok q,st2)):=by
 intro FN sc cx C xx hm J g s Q E hk hP
 apply hm.on
 intro _ _ h
 obtain⟨y1,r1,rfl,h1,k1⟩:=h.consL
 obtain⟨y2,r2,rfl,h2,k2⟩:=k1.consL
 cases k2.nilL
 refine KT ?_
 refine Sat.bind1 (ha FN sc cx C _ h1) hk hP fun J1 g1 s1 c' x1 hc hP1=>?_
 cases hc
 refine KT ?_
 refine Sat.bind1 (hb FN sc cx C _ h2) x1.ok hP1 fun J2 g2 s2 c' x2 hc hP2=>?_
 cases (hc)
 cases q with
 |true=>exact hP2.ret0 x2.ok rfl
 |false=>exact Lf (hP2.ret0 x2.ok rfl)
section
variable{B:Base}
theorem sE(lo:List (Nat×Value))(LB X:List (Nat×AO))(V:Sig):∀a:Option Int,bE LB (ap ⟨5100,none,39,[],lo⟩ (iO X V a))=some (.ok (vn 7100 a),⟨7200,none,39,(iC 7100 a++(RG++(MG 6900 V++X)))++LB,lo⟩)
 |none=>rfl
 |some c=>rfl
end
noncomputable def CE:List (Nat×AO):= [(1341,.cell (some (.ref 2000)))]
noncomputable def iy(tk:Int)(V:Sig)(outs:List Str)(r0 r1:List Fl):List (Nat×AO):=cK tk++(c9 V++(cZ outs++cu r0 r1))
noncomputable def YR(tk:Tk)(r0 r1:List Fl)(outs:List Str):List (Nat×AO):=YY (tk.n:Int) (aK r0) (aK r1) outs
noncomputable def zG(tk:Tk)(V:Sig)(outs:List Str)(r0 r1:List Fl)(R:List (Nat×AO)):List (Nat×AO):=MG 3100 V++(RG++(YR tk r0 r1 outs++(CE++(iy (tk.n:Int) V outs r0 r1++R))))
theorem lY(tk:Int)(V:Sig)(outs:List Str)(r0 r1:List Fl):Low 3020 (iy tk V outs r0 r1):=
 (aJ (by rfl:bU 3020 (cK tk)=true)).app ((aJ (by rfl:bU 3020 (c9 V)=true)).app ((aI rfl (cy outs) rfl aO:Low 3020 (cZ outs)).app (aI rfl rfl rfl (aI rfl (bH _) rfl (aI rfl (bH _) rfl aO)))))
theorem low_CE:Low 3020 CE:=aJ (by rfl)
theorem vm:∀a:Option Int,ren hF (vn 3220 a)=vn 7100 a
 |none=>rfl
 |some c=>by kernel_rfl
theorem Au:∀p∈LO6,ren hF p.2=p.2:=fun p hp=>by
 have:LO6.map (fun p=>ren hF p.2)=LO6.map (fun p=>p.2):=by kernel_rfl
 exact cq this hp
theorem As(b:Nat){x:Nat}{v:Value}(e:lk LO6 x=some v):lk (bI LO5 195 (.ref b)) x=some (ren (tF b) v):=by
 have:LO6.map (fun p=>lk (bI LO5 195 (.ref b)) p.1)=LO6.map (fun p=>some (ren (tF b) p.2)):=by kernel_rfl
 exact cq this (az e)
section
variable{B:Base}
theorem AX{q:Rd}(hq:RdOk q):Fx hF (g8 q):=AW (fun k h1 h2=>AS (by omega) (by omega)) (i6 hq)
theorem wN(P:PB B){b:Nat}{q:Rd}(hq:RdOk q){r0 r1:List Fl}(h0:r0.length<4)(h1:r1.length<4)(V:Sig)(tk:Tk)(outs:List Str)(ho:outs.length<3){R:List (Nat×AO)}(hR:Low 3020 R):
  JE (CO B) (.call (.glob 209 (.ref 1313)) [.cel 44,.loc 195]) ⟨3200,none,39,dB b q++zG tk V outs r0 r1 R,bI LO5 195 (.ref b)⟩
   (some (.ok (vn 3220 (af q.d r0 r1 V tk outs).out),⟨5100,none,39,(iC 3220 (af q.d r0 r1 V tk outs).out++MG 3230 (af q.d r0 r1 V tk outs).V)++(RG++(g8 q++(YR (af q.d r0 r1 V tk outs).tk r0 r1 (af q.d r0 r1 V tk outs).outs++(CE++(iy (tk.n:Int) V outs r0 r1++R))))),LO6⟩)):=by
 have hc:=pM P q.d (qt hq) h0 h1 V tk outs ho (CE++(iy (tk.n:Int) V outs r0 r1++R)) LO6
 rw[sE] at hc
 have hZ:Low 3020 (iy (tk.n:Int) V outs r0 r1++R):=(lY _ _ _ _ _).app hR
 have hj:=vE P hq h0 h1 V tk outs ho (hZ.mono (by decide)) (CallSat.pre (l:=CE++(HA q r0 r1 V tk outs++(iy (tk.n:Int) V outs r0 r1++R))) hc (aB fun a=>by
  unfold HA Rd.d
  exact aF [] [_,_,_,_,_,_,_,_,_] (.a (.r [0,1,2,3,4] (.l 5)) (.r [6,7] (.l 8))) (.r [6] (.a (.r [0,1,2,3,4] (.l 5)) (.r [7] (.l 8)))) rfl _))
 have hj2:=JE.pre (l:=(g8 q++MG 5090 V)++(RG++(YR tk r0 r1 outs++(CE++(iy (tk.n:Int) V outs r0 r1++R))))) hj (aB fun a=>by
  unfold HA g8 DT YR CE
  exact aF [_,_] [_,_,_,_,_,_,_] (.a (.c 0 .n) (.a (.a (.c 1 .n) (.r [0,1,2,3] (.l 4))) (.r [5] (.l 6)))) (.a (.a (.a (.c 1 .n) (.r [2] (.l 3))) (.l 1)) (.r [0,4] (.a (.c 0 .n) (.r [5] (.l 6))))) rfl _)
 have hX:Low 3020 (RG++(YR tk r0 r1 outs++(CE++(iy (tk.n:Int) V outs r0 r1++R)))):=low_RG2.app ((gI _ _ _ _).app (low_CE.app hZ))
 have hj3:=JE.before hj2 (zN (b:=b) (lo:=bI LO5 195 (.ref b)) hq (hX.mono (by decide)) (fun x v e=>As b e) (fun p hp h=>by
  have:(MG 5090 V).all (fun p=>!dc p.2)=true:=rfl
  have h2:=eg.mp this p hp
  rw[h] at h2
  cases h2)) (fun k hk=>tM (Hk hk (by decide:3200<5000)))
 have hj4:=JE.pre (l:=dB b q++zG tk V outs r0 r1 R) hj3 (aB fun a=>by
  unfold zG
  exact aF [] [_,_,_,_,_,_,_] (.a (.r [0] (.l 1)) (.r [2,3,4,5] (.l 6))) (.r [0,1,2,3,4,5] (.l 6)) rfl _)
 have hj5:=JE.post (l':=(iC 7100 (af q.d r0 r1 V tk outs).out++MG 6900 (af q.d r0 r1 V tk outs).V)++(RG++(g8 q++(YR (af q.d r0 r1 V tk outs).tk r0 r1 (af q.d r0 r1 V tk outs).outs++(CE++(iy (tk.n:Int) V outs r0 r1++R)))))) hj4 (aB fun a=>by
  unfold g8 DT YR Rd.d
  exact aF [_] [_,_,_,_,_,_,_,_,_] (.a (.r [0] (.l 1)) (.r [2] (.a (.a (.c 0 .n) (.r [3] (.l 4))) (.r [5,6,7] (.l 8))))) (.a (.r [0,2,1,3,4,5] (.c 0 .n)) (.r [6,7] (.l 8))) rfl _)
 refine JE.after hj5 (.ok (xq ?_ Au) (fun k hk=>vI (Hk hk (by decide:3200<3220))) (vm _).symm)
 have hl:∀{X},Low 3020 X->Fx hF X:=fun h=>fP (fun k hk=>vI (Hk hk (by decide:3020<3220))) h
 exact(hl low_RG2).app ((AX hq).app ((hl (gI _ _ _ _)).app (hl (low_CE.app hZ))))
end
theorem uX{S:Core}{st:St}{k j:Nat}{vs:List Value}(h1:rd S st k=some (.tup vs))(h2:rd S st j=some (.tup vs))(h3:(fT vs).isSome=true)(h4:gy 4 st.dp=true):mC S st .NotEq (.ref k) (.ref j)=some false:=by
 show oget (ki S st k j) (fun c=>some (!c))=_
 unfold ki
 rw[h1,h2]
 show oget (grd ((fT vs).isSome&&(fT vs).isSome&&gy 4 st.dp) (some (iQ vs vs))) (fun c=>some (!c))=_
 rw[h3,h4]
 show some (!iQ vs vs)=_
 rw[kh vs h3]
 rfl
noncomputable def lF:IS:=b_law.getD 5 .bad
noncomputable def lBody:List IS:=DW lF
noncomputable def lI(i:Nat):IS:=lBody.getD i .bad
theorem DE:lF= .for_ 195 (.loc 206) lBody:=rfl
section
variable{B:Base}
theorem yV(L:List (Nat×AO))(lo:List (Nat×Value)):∀a:Option Int,mC (CO B) ⟨5600,none,39,(j4 a++iC 3220 a)++L,lo⟩ .NotEq (vn 3220 a) (lw a)=some false
 |none=>by kernel_rfl
 |some c=>uX (vs:= [tx "out",.int c 0]) (by kernel_rfl) (by kernel_rfl) (by kernel_rfl) rfl
theorem B6(P:PB B){q:Rd}(hq:RdOk q){r0 r1:List Fl}(h0:r0.length<4)(h1:r1.length<4)(V:Sig)(tk:Tk)(outs:List Str)(ho:outs.length<3)(LB:List (Nat×AO)):
  JE (CO B) (.call (.glob 210 (.ref 1334)) [.loc 199,.loc 195]) ⟨5100,none,39,g8 q++(iy (tk.n:Int) V outs r0 r1++LB),LO6⟩
   (some (.ok (lw (af q.d r0 r1 V tk outs).out),⟨5600,none,39,j4 (af q.d r0 r1 V tk outs).out++(g8 q++(iy ((af q.d r0 r1 V tk outs).tk.n:Int) (af q.d r0 r1 V tk outs).V (af q.d r0 r1 V tk outs).outs r0 r1++LB)),LO6⟩)):=by
 have hc:=vU P q.d (qt hq) h0 h1 V tk outs ho LB LO6
 have hf:JE (CO B) (.glob 210 (.ref 1334)) ⟨5100,none,39,ar q.d.rd q.d.st (tk.n:Int) V outs r0 r1 q.d.its++LB,LO6⟩ (some (.ok (.ref 1334),⟨5100,none,39,ar q.d.rd q.d.st (tk.n:Int) V outs r0 r1 q.d.its++LB,LO6⟩)):=BK P 5 (by kernel_rfl)
 have hj:=mU P.TO P.FO P.oo (n:=5) (es:= [.loc 199,.loc 195]) hf (by kernel_rfl) (show d0 (RN B 5) [.loc 199,.loc 195] ⟨5100,none,39,ar q.d.rd q.d.st (tk.n:Int) V outs r0 r1 q.d.its++LB,LO6⟩=some (.ok [.ref 3000,.ref 5000],⟨5100,none,39,ar q.d.rd q.d.st (tk.n:Int) V outs r0 r1 q.d.its++LB,LO6⟩) from by kernel_rfl) hc
 refine JE.post (JE.pre hj (aB fun a=>?_)) (aB fun a=>?_)
 ·unfold ar iy g8 DT Rd.d;exact aF [_] [_,_,_,_,_,_,_] (.a (.r [0,1,2,3] (.a (.c 0 .n) (.r [4] (.l 5)))) (.l 6)) (.a (.a (.c 0 .n) (.r [4] (.l 5))) (.a (.r [0,1,2] (.l 3)) (.l 6))) rfl _
 ·unfold ar iy g8 DT Rd.d;exact aF [_] [_,_,_,_,_,_,_,_] (.r [0] (.a (.a (.c 0 .n) (.r [1] (.l 2))) (.a (.r [3,4,5] (.l 6)) (.l 7)))) (.a (.r [0,3,4,5,6] (.a (.c 0 .n) (.r [1] (.l 2)))) (.l 7)) rfl _
noncomputable def Fd(tk:Tk)(V:Sig)(outs:List Str)(r0 r1:List Fl)(R:List (Nat×AO)):List (Nat×AO):=(CE++(RG++(MG 3230 V++(cK (tk.n:Int)++c9 V))))++(cZ outs++(cu r0 r1++(YR tk r0 r1 outs++R)))
theorem G8(P:PB B){b:Nat}{q:Rd}(hq:RdOk q){r0 r1:List Fl}(h0:r0.length<4)(h1:r1.length<4)(V:Sig)(tk:Tk)(outs:List Str)(ho:outs.length<3){R:List (Nat×AO)}(hR:Low 3020 R):
  JS (CO B) (lI 0) ⟨3200,none,39,dB b q++zG tk V outs r0 r1 R,bI LO5 195 (.ref b)⟩ (some (.ok .next,⟨5600,none,39,Fd (af q.d r0 r1 V tk outs).tk (af q.d r0 r1 V tk outs).V (af q.d r0 r1 V tk outs).outs r0 r1 R,LO6⟩)):=by
 have ha:=wN P (b:=b) hq h0 h1 V tk outs ho hR
 have hb:=B6 P hq h0 h1 V tk outs ho ((iC 3220 (af q.d r0 r1 V tk outs).out++MG 3230 (af q.d r0 r1 V tk outs).V)++(RG++(YR (af q.d r0 r1 V tk outs).tk r0 r1 (af q.d r0 r1 V tk outs).outs++(CE++R))))
 generalize af q.d r0 r1 V tk outs=H at ha hb⊢
 have ha2:=JE.post (l':=g8 q++(iy (tk.n:Int) V outs r0 r1++((iC 3220 H.out++MG 3230 H.V)++(RG++(YR H.tk r0 r1 H.outs++(CE++R)))))) ha (aB fun a=>by exact aF [] [_,_,_,_,_,_,_,_] (.r [0,1] (.a (.r [2] (.l 3)) (.r [4,5,6] (.l 7)))) (.a (.r [2] (.l 3)) (.r [4,0,5,6,1] (.l 7))) rfl _)
 have hb2:=JE.post (l':=(j4 H.out++iC 3220 H.out)++(g8 q++Fd H.tk H.V H.outs r0 r1 R)) hb (aB fun a=>by unfold Fd iy;exact aF [] [_,_,_,_,_,_,_,_,_,_,_,_] (.a (.r [0] (.l 1)) (.r [2] (.a (.r [3,4,5,6] (.l 7)) (.r [8,9,10] (.l 11))))) (.r [0,2] (.a (.r [6,7,8] (.l 9)) (.a (.r [1] (.l 5)) (.r [4,10,3] (.l 11))))) rfl _)
 have hi:lI 0= .if_ (.cmp .NotEq (.call (.glob 209 (.ref 1313)) [.cel 44,.loc 195]) (.call (.glob 210 (.ref 1334)) [.loc 199,.loc 195])) [.ret (.cst (.bool false))] []:=rfl
 rw[hi]
 exact JS.post_sub (l2:=j4 H.out++(iC 3220 H.out++g8 q)) (iM (pu ha2 hb2 (yV _ _ H.out)) c5) (aB fun a=>by exact aF [] [_,_,_,_] (.r [0,1,2] (.l 3)) (.a (.r [1] (.l 2)) (.r [3] (.l 0))) rfl _)
end
noncomputable def cC:IE:= .comp true 58 (.cst (.int 5 0)) 5
noncomputable def cO:IE:= .idx (.loc 199) (.cst (.str (ag "cells") 0))
noncomputable def F2(tk:Tk)(V:Sig):List (Nat×AO):=CE++(RG++(MG 3230 V++(cK (tk.n:Int)++c9 V)))
section
variable{B:Base}
theorem G7(P:PB B)(V:Sig)(tk:Tk){X:List (Nat×AO)}(hX:Low 5600 X):
  JS (CO B) (lI 1) ⟨5600,none,39,F2 tk V++X,LO6⟩ (some (.ok .next,⟨5700,none,39,F2 tk V++X,LO6⟩)):=by
 have ha:JE (CO B) cC ⟨5600,none,39,F2 tk V++X,LO6⟩ (some (.ok (.ref 5600),⟨5700,none,39,([(5600,.lst (oq V))]++F2 tk V)++X,LO6⟩)):=je P 60 3001 [] rfl hX (by kernel_rfl)
 have hb:JE (CO B) cO ⟨5700,none,39,([(5600,.lst (oq V))]++F2 tk V)++X,LO6⟩ (some (.ok (.ref 3001),⟨5700,none,39,([(5600,.lst (oq V))]++F2 tk V)++X,LO6⟩)):=BK P 5 (by kernel_rfl)
 have hc:=pu ha hb (qZ (vs:=oq V) (by kernel_rfl) (by kernel_rfl) (by rfl) rfl)
 have hi:lI 1= .if_ (.cmp .NotEq cC cO) [.ret (.cst (.bool false))] []:=rfl
 rw[hi]
 exact JS.post_sub (l2:= [(5600,.lst (oq V))]) (iM hc c5) (aB fun a=>by exact aF [_] [_,_] (.a (.r [0] (.l 1)) (.c 0 .n)) (.a (.a (.c 0 .n) (.l 0)) (.l 1)) rfl _)
noncomputable def G0:IE:= .attr (.attr (.cel 44) 31) 107
noncomputable def GZ:IE:= .idx (.loc 199) (.cst (.str (ag "out") 0))
noncomputable def GY:IE:= .attr (.attr (.cel 44) 31) 58
noncomputable def GX:IE:= .idx (.loc 199) (.cst (.str (ag "taken") 0))
noncomputable def F3(tk:Tk)(outs:List Str):List (Nat×AO):=CE++(RG++(cK (tk.n:Int)++(cZ outs++(OU outs++WG (tk.n:Int)))))
theorem G6(P:PB B)(tk:Tk)(outs:List Str)(ho:∀x∈outs,Ht x=true)(X:List (Nat×AO)):
  JS (CO B) (lI 2) ⟨5700,none,39,F3 tk outs++X,LO6⟩ (some (.ok .next,⟨5700,none,39,F3 tk outs++X,LO6⟩)):=by
 have ha:JE (CO B) G0 ⟨5700,none,39,F3 tk outs++X,LO6⟩ (some (.ok (.ref 2017),⟨5700,none,39,F3 tk outs++X,LO6⟩)):=BK P 5 (by kernel_rfl)
 have hb:JE (CO B) GZ ⟨5700,none,39,F3 tk outs++X,LO6⟩ (some (.ok (.ref 3002),⟨5700,none,39,F3 tk outs++X,LO6⟩)):=BK P 5 (by kernel_rfl)
 have hd:=sP outs ho
 have h1:=pu ha hb (qZ (vs:=outs.map fun x=>HL x 0) (by kernel_rfl) (by kernel_rfl) hd rfl)
 have h2:JT (CO B) (.cmp .NotEq GY GX) ⟨5700,none,39,F3 tk outs++X,LO6⟩ (some (.ok false,⟨5700,none,39,F3 tk outs++X,LO6⟩)):=by
  cases tk with
  |t0=>exact jt P 9 (by kernel_rfl)
  |t1=>exact jt P 9 (by kernel_rfl)
  |t2=>exact jt P 9 (by kernel_rfl)
 have hi:lI 2= .if_ (.or_ [.cmp .NotEq G0 GZ,.cmp .NotEq GY GX]) [.ret (.cst (.bool false))] []:=rfl
 rw[hi]
 exact iM (Ax h1 h2) c5
noncomputable def eF(k:Nat):Nat:=if 3200<=k then k+5000 else if 3100<=k/\k<3105 then k+130 else k
theorem vS{k:Nat}(h:k<3100):eF k=k:=by
 unfold eF
 rw[if_neg (by omega),if_neg (by omega)]
theorem D7{k:Nat}(h:3200<=k):eF k=k+5000:=by
 unfold eF
 rw[if_pos h]
theorem D8(V:Sig):(MG 3100 V).map (fun p=>(eF p.1,bg eF p.2))=MG 3230 V:=by kernel_rfl
theorem Aw{x:Nat}{v:Value}(e:lk LO5 x=some v):lk LO6 x=some (ren eF v):=by
 have:LO5.map (fun p=>lk LO6 p.1)=LO5.map (fun p=>some (ren eF p.2)):=by kernel_rfl
 exact cq this (az e)
theorem D6{V:Sig}{X:List (Nat×AO)}(hX:Low 3100 X):Weak (CO B) eF ⟨5700,none,39,MG 3230 V++X,LO6⟩ ⟨3200,none,39,MG 3100 V++X,LO5⟩:=
 dI (fun k hk=>vS (by omega)) (by decide) (fun k hk=>by rw[D7 hk];omega) (D8 V) (fP (fun k hk=>vS hk) hX) (fun x v e=>Aw e) (fun p hp h=>by
  have:(MG 3100 V).all (fun p=>!dc p.2)=true:=rfl
  have h2:=eg.mp this p hp
  rw[h] at h2
  cases h2)
end
theorem kc(d:Deed)(r0 r1:List Fl)(V:Sig)(tk:Tk)(outs:List Str):(af d r0 r1 V tk outs).outs=outs\/∃vs,(af d r0 r1 V tk outs).outs=outs++ [bQ vs]:=by
 have hf:∀st V c tk,(aq st V c tk outs).outs=outs:=fun st V c tk=>by cases st<;>rfl
 have hr:∀st tk w,(b0 st tk outs w).outs=outs:=fun st tk w=>by
  cases w with
  |fin V=>rfl
  |own V=>exact hf _ _ _ _
  |bad f V=>rfl
 unfold af
 cases d.rd with
 |false=>
  cases d8 V d.its [] with
  |fin vs=>exact .inr ⟨_,rfl⟩
  |own=>exact .inl (hf _ _ _ _)
  |bad f=>exact .inl rfl
 |true=>
  cases tk with
  |t0=>exact .inl (hr _ _ _)
  |t1=>exact .inl (hr _ _ _)
  |t2=>exact .inl (hf _ _ _ _)
noncomputable def so(n:Nat):List (Nat×AO):= [(1401,.lst (be n))]
noncomputable def PN:List (Nat×AO):= [(3010,.fn)]
noncomputable def EX(ms:List Int):List (Nat×AO):= [(1340,.plst ms)]++TG
theorem pE(ms:List Int):Low 1345 (EX ms):=(aI rfl rfl rfl aO).app (aJ (by rfl))
noncomputable def TS(ms:List Int)(r0 r1:List Fl)(n i:Nat)(qs:List Rd)(tk:Tk)(V:Sig)(outs:List Str):St:=⟨3200,none,39,zG tk V outs r0 r1 (so n++(PN++(ip i qs++EX ms))),LO5⟩
theorem xc:lBody= [lI 0,lI 1,lI 2]:=rfl
section
variable{B:Base}{r0 r1:List Fl}{ms:List Int}
theorem yB(tk:Tk)(V:Sig)(outs:List Str)(qs:List Rd):∀n i,i<n->n<4->bu (CO B) 1401 i (TS ms r0 r1 n i qs tk V outs)=some (some (.ref (bs i)))
 |1,0,_,_=>by kernel_rfl
 |2,0,_,_=>by kernel_rfl
 |2,1,_,_=>by kernel_rfl
 |3,0,_,_=>by kernel_rfl
 |3,1,_,_=>by kernel_rfl
 |3,2,_,_=>by kernel_rfl
 |0,_,h,_=>absurd h (by omega)
 |1,_+1,h,_=>absurd h (by omega)
 |2,_+2,h,_=>absurd h (by omega)
 |3,_+3,h,_=>absurd h (by omega)
 |_+4,_,_,h=>absurd h (by omega)
theorem yE(tk:Tk)(V:Sig)(outs:List Str)(qs:List Rd):∀n,n<4->bu (CO B) 1401 n (TS ms r0 r1 n n qs tk V outs)=some none
 |0,_=>by kernel_rfl
 |1,_=>by kernel_rfl
 |2,_=>by kernel_rfl
 |3,_=>by kernel_rfl
 |_+4,h=>absurd h (by omega)
theorem oR(n i:Nat)(qs:List Rd)(tk:Tk)(V:Sig)(outs:List Str):aa 3010 (TS ms r0 r1 n i qs tk V outs).led=true:=by kernel_rfl
noncomputable def G4(r0 r1:List Fl)(tk:Tk)(V:Sig)(outs:List Str)(R:List (Nat×AO)):List (Nat×AO):=MG 3230 V++(RG++(YR tk r0 r1 outs++(CE++(iy (tk.n:Int) V outs r0 r1++R))))
theorem zR(P:PB B){b:Nat}{q:Rd}(hq:RdOk q)(h0:r0.length<4)(h1:r1.length<4)(V:Sig)(tk:Tk)(outs:List Str)(ho:outs.length<3)(hs:∀x∈outs,Ht x=true){R:List (Nat×AO)}(hR:Low 3020 R):
  JB (CO B) lBody ⟨3200,none,39,dB b q++zG tk V outs r0 r1 R,bI LO5 195 (.ref b)⟩ (some (.ok .next,⟨5700,none,39,G4 r0 r1 (af q.d r0 r1 V tk outs).tk (af q.d r0 r1 V tk outs).V (af q.d r0 r1 V tk outs).outs R,LO6⟩)):=by
 have h2:=G8 P (b:=b) hq h0 h1 V tk outs ho hR
 have hs2:∀x∈(af q.d r0 r1 V tk outs).outs,Ht x=true:=by
  rcases kc q.d r0 r1 V tk outs with e|⟨vs,e⟩
  ·rw[e];exact hs
  ·rw[e]
   intro x hx
   rcases nl.mp hx with hx|hx
   ·exact hs x hx
   ·rw[o0.mp hx];exact jC vs
 generalize af q.d r0 r1 V tk outs=H at h2 hs2⊢
 have hX:Low 3020 (cZ H.outs++(cu r0 r1++(YR H.tk r0 r1 H.outs++R))):=(aI rfl (cy _) rfl aO:Low 3020 (cZ H.outs)).app ((aI rfl rfl rfl (aI rfl (bH _) rfl (aI rfl (bH _) rfl aO)):Low 3020 (cu r0 r1)).app ((gI _ _ _ _).app hR))
 have h3:=G7 P H.V H.tk (hX.mono (by decide))
 have h4:=G6 P H.tk H.outs hs2 (MG 3230 H.V++(c9 H.V++(cu r0 r1++((MK++(IN (aK r0) (aK r1)++ZG))++R))))
 rw[xc]
 refine aN h2 (aN h3 (aN (JS.post (JS.pre h4 (aB fun a=>?_)) (aB fun a=>?_)) c5))
 ·unfold F2 F3 YR YY;exact aF [] [_,_,_,_,_,_,_,_,_,_,_,_,_] (.a (.r [0,1,2,3,4] (.l 5)) (.r [6,7,8] (.a (.r [9,10] (.l 11)) (.l 12)))) (.a (.r [0,1,6,2] (.l 7)) (.r [3,8] (.a (.r [5,9,10,4] (.l 11)) (.l 12)))) rfl _
 ·unfold G4 F3 YR YY iy;exact aF [] [_,_,_,_,_,_,_,_,_,_,_,_,_] (.r [0,1] (.a (.r [2,3,4,5] (.l 6)) (.r [7] (.a (.r [8,9,10] (.l 11)) (.l 12))))) (.a (.r [7,1,8,10,5] (.l 2)) (.r [0,9,11] (.a (.r [3,4] (.l 6)) (.l 12)))) rfl _
theorem vJ(P:PB B)(h0:r0.length<4)(h1:r1.length<4)(qs:List Rd):∀(n i:Nat) (tk:Tk) (V:Sig) (outs:List Str),i+qs.length=n->n<4->(∀q∈qs,RdOk q)->outs.length<=i->(∀x∈outs,Ht x=true)->
  ∃tk' V' outs',FT (CO B) 3010 195 lBody (bu (CO B) 1401) 3011 (qs.length+1) i (TS ms r0 r1 n i qs tk V outs) .next (TS ms r0 r1 n n [] tk' V' outs'):=by
 induction qs with
 |nil=>
  intro n i tk V outs hn h4 _ _ _
  have:i=n:=hn
  subst this
  exact⟨tk,V,outs,.done (oR _ _ _ _ _ _) (yE tk V outs [] i h4)⟩
 |cons q qs ih0=>
  intro n i tk V outs hn h4 hq ho hs
  have hin:i<n:=by rw[Hb] at hn;omega
  have hR:Low 3020 (so n++(PN++(ip (i+1) qs++EX ms))):=((jO n).mono (by decide)).app ((aJ (by rfl:bU 3020 PN=true)).app (((eY qs (i+1) fun p hp=>hq p (.tail _ hp)).mono (by decide)).app ((pE ms).mono (by decide))))
  have hb:=zR P (b:=bs i) (hq q (.head _)) h0 h1 V tk outs (by omega) hs hR
  have hH:=kc q.d r0 r1 V tk outs
  generalize af q.d r0 r1 V tk outs=H at hb hH
  have hl:H.outs.length<=i+1/\∀x∈H.outs,Ht x=true:=by
   rcases hH with e|⟨vs,e⟩
   ·rw[e];exact⟨Ip ho,hs⟩
   ·rw[e]
    refine⟨by rw[Hv];exact KY ho,fun x hx=>?_⟩
    rcases nl.mp hx with hx|hx
    ·exact hs x hx
    ·rw[o0.mp hx];exact jC vs
  obtain⟨tk',V',outs',hF⟩:=ih0 n (i+1) H.tk H.V H.outs (by rw[<-hn,Hb];omega) h4 (fun p hp=>hq p (.tail _ hp)) hl.1 hl.2
  refine⟨tk',V',outs',.next (oR _ _ _ _ _ _) (yB tk V outs (q::qs) n i hin h4) (JB.pre hb (aB fun a=>?_)) (.inl rfl) (D6 ?_) (fun k hk=>vS (Hk hk (by decide:3011<3100))) hF⟩
  ·unfold TS zG;simp only[show ip i (q::qs)=dB (bs i) q++ip (i+1) qs from rfl,xz];ac_rfl
  ·exact(low_RG2.mono (by decide)).app (((gI _ _ _ _).mono (by decide)).app ((low_CE.mono (by decide)).app (((lY _ _ _ _ _).mono (by decide)).app (hR.mono (by decide)))))
end
noncomputable def sF(k:Nat):Nat:=if 3100<=k/\k<3105 then k-1095 else k
theorem ti{k:Nat}(h:k<3100):sF k=k:=by
 unfold sF
 rw[if_neg (by omega)]
theorem Bw{k:Nat}(h:3200<=k):sF k=k:=by
 unfold sF
 rw[if_neg (by omega)]
theorem Bx(V:Sig):(MG 3100 V).map (fun p=>(sF p.1,bg sF p.2))=MG 2005 V:=by kernel_rfl
theorem Av{x:Nat}{v:Value}(e:lk LO5 x=some v):lk LO5 x=some (ren sF v):=by
 have:LO5.map (fun p=>lk LO5 p.1)=LO5.map (fun p=>some (ren sF p.2)):=by kernel_rfl
 exact cq this (az e)
section
variable{B:Base}{r0 r1:List Fl}{ms:List Int}
theorem wQ{V:Sig}{X:List (Nat×AO)}(hX:Low 3100 X):Weak (CO B) sF ⟨3011,none,39,MG 2005 V++X,LO5⟩ ⟨3200,none,39,MG 3100 V++X,LO5⟩:=
 dI (fun k hk=>ti (by omega)) (by decide) (fun k hk=>by rw[Bw hk];omega) (Bx V) (fP (fun k hk=>ti hk) hX) (fun x v e=>Av e) (fun p hp h=>by
  have:(MG 3100 V).all (fun p=>!dc p.2)=true:=rfl
  have h2:=eg.mp this p hp
  rw[h] at h2
  cases h2)
theorem low_YR:Low 2045 (YR .t0 r0 r1 []):=
 (aJ (by rfl:bU 2045 (WG 0)=true)).app ((aJ (by rfl:bU 2045 MK=true)).app ((aJ (by rfl:bU 2045 (IN (aK r0) (aK r1))=true)).app ((aJ (by rfl:bU 2045 (OU [])=true)).app (aJ (by rfl:bU 2045 ZG=true)))))
theorem yC(qs:List Rd)(X:List (Nat×AO)):rd (CO B) ⟨3010,none,39,so qs.length++X,LO5⟩ 1401=some (.lst (be qs.length)):=by kernel_rfl
theorem q9{α:Type}:∀{l:List (Nat×α)} {k:Nat} {p:Nat×α},p∈l->p.1≠k->p∈del l k
 |q::r,k,p,h,hk=>by
  rw[dG]
  cases e:av q.1 k with
  |true=>
   rcases eq.mp h with rfl|h
   ·exact absurd (aH e) hk
   ·exact h
  |false=>
   rcases eq.mp h with rfl|h
   ·exact .head _
   ·exact .tail _ (q9 h hk)
theorem A4:∀p∈EX ms,p.1≠3010:=fun p hp=>by
 rcases eq.mp hp with rfl|hp
 ·exact(by decide:(1340:Nat)≠3010)
 ·rw[o0.mp hp]
  exact(by decide:(1303:Nat)≠3010)
theorem D3{n i:Nat}{qs:List Rd}{tk:Tk}{V:Sig}{outs:List Str}:∀p∈EX ms,p∈(TS ms r0 r1 n i qs tk V outs).led:=fun p hp=>by
 unfold TS zG
 simp only[nl]
 exact .inr (.inr (.inr (.inr (.inr (.inr (.inr (.inr hp)))))))
theorem Cy(P:PB B)(h0:r0.length<4)(h1:r1.length<4)(qs:List Rd)(h4:qs.length<4)(hq:∀q∈qs,RdOk q):
  ∃st',(∀p∈EX ms,p∈st'.led)/\JS (CO B) lF ⟨3010,none,39,so qs.length++(MG 2005 V0++(RG++(YR .t0 r0 r1 []++(CE++(iy 0 V0 [] r0 r1++(ip 0 qs++EX ms)))))),LO5⟩ (some (.ok .next,st')):=by
 obtain⟨tk',V',outs',hF⟩:=vJ P h0 h1 qs qs.length 0 .t0 V0 [] (Ja _) h4 hq (wh _) (fun ι h=>by cases h)
 have hj:JE (CO B) (.loc 206) ⟨3010,none,39,so qs.length++(MG 2005 V0++(RG++(YR .t0 r0 r1 []++(CE++(iy 0 V0 [] r0 r1++(ip 0 qs++EX ms)))))),LO5⟩ (some (.ok (.ref 1401),⟨3010,none,39,so qs.length++(MG 2005 V0++(RG++(YR .t0 r0 r1 []++(CE++(iy 0 V0 [] r0 r1++(ip 0 qs++EX ms)))))),LO5⟩)):=BK P 5 (by kernel_rfl)
 rw[DE]
 refine⟨_,(fun p hp=>q9 (D3 p hp) (A4 p hp)),Ay hj (FAns.lst (f0:=sF) (sta:=TS ms r0 r1 qs.length 0 qs .t0 V0 []) rfl (yC qs _) ?_ (fun k hk=>ti (Hk hk (by decide:3011<3100))) hF (oR _ _ _ _ _ _))⟩
 have hL:Low 3020 (RG++(YR .t0 r0 r1 []++(CE++(iy 0 V0 [] r0 r1++(so qs.length++(PN++(ip 0 qs++EX ms))))))):=
  low_RG2.app ((gI _ _ _ _).app (low_CE.app ((lY _ _ _ _ _).app (((jO _).mono (by decide)).app ((aJ (by rfl:bU 3020 PN=true)).app (((eY qs 0 hq).mono (by decide)).app ((pE ms).mono (by decide))))))))
 refine(wQ (hL.mono (by decide))).reorderL (aB (m:=PN++(so qs.length++(MG 2005 V0++(RG++(YR .t0 r0 r1 []++(CE++(iy 0 V0 [] r0 r1++(ip 0 qs++EX ms)))))))) fun a=>?_)
 exact aF [] [_,_,_,_,_,_,_,_,_] (.r [0,1,2,3,4,5,6,7] (.l 8)) (.r [6,5,0,1,2,3,4,7] (.l 8)) rfl _
theorem pH:b_law= .asgC 174 (.dct wKs wEs):: .asgL 184 205 (.cst (.int 2 0)) 3:: .asgL 206 180 pQ 4:: .asgC 44 (.call (.glob 208 (.ref 1306)) [.loc 184])::zq::lF:: [.ret (.cst (.bool true))]:=rfl
theorem ur(P:PB B){ms:List Int}(hm:ms.length<=900)(hns:(fL ms).take 50=aP B.ns):
  ∃st',(∀p∈EX ms,p∈st'.led)/\JB (CO B) b_law ⟨1343,none,39,[(1341,.cell none),(1342,.cell none),(1340,.plst ms)]++ [(1303,.tabl [])],fj⟩ (some (.ok (.ret (.bool true)),st')):=by
 obtain⟨r0,r1,qs,h0,h1,l1,l2,hq,hD⟩:=parse B.ns
 obtain⟨st',hE,h6⟩:=Cy (r0:=r0) (r1:=r1) P h0 h1 qs l2 hq
 have lt:Low 1340 [(1303,AO.tabl [])]:=aJ (by rfl)
 have lST:=AH ms lt
 have h7:JB (CO B) [.ret (.cst (.bool true))] st' (some (.ok (.ret (.bool true)),st')):=bZ (pv (eT P.TO P.FO P.oo 60 _ _))
 refine⟨st',hE,?_⟩
 rw[pH]
 refine DD P hm hns hD (aN (DC P h0 h1 _ lST) (aN (DB P [] (((lW r0 r1).app (lST.mono (by decide)))) hq l1 l2) ?_))
 have hd:Low 1990 ([(1401,AO.lst (be qs.length))]++(GC []++(ip 0 qs++ [(1340,AO.plst ms)]))):=((jO _).mono (by decide)).app (((jM []).mono (by decide)).app (((eY qs 0 hq).mono (by decide)).app (aI rfl rfl rfl aO)))
 have h4:=JS.pre (l:= [(1401,AO.lst (be qs.length))]++(GC []++(ip 0 qs++(ix r0 r1++ST ms [(1303,.tabl [])])))) (DA P h0 h1 hd) (aB (m:= [(1401,AO.lst (be qs.length))]++(GC []++(ip 0 qs++(ix r0 r1++([(1341,AO.cell none)]++([(1340,.plst ms)]++ [(1303,.tabl [])])))))) fun a=>by
  exact aF [_,_,_,_] [_,_,_] (.a (.c 0 .n) (.r [0] (.a (.c 1 .n) (.a (.c 2 .n) (.r [1,2] (.c 3 .n)))))) (.a (.c 2 .n) (.r [1,2,0] (.a (.c 1 .n) (.a (.c 3 .n) (.c 0 .n))))) rfl _)
 refine aN (st1:=⟨2045,none,39,ix r0 r1++(so qs.length++(MG 2005 V0++(RG++(YR .t0 r0 r1 []++(CE++(ip 0 qs++EX ms)))))),rH⟩) (JS.post_sub (l2:=GC []) h4 (aB (m:=(RG++MG 2005 V0++YR .t0 r0 r1 []++ix r0 r1++TG)++(CE++(so qs.length++(GC []++(ip 0 qs++ [(1340,AO.plst ms)]))))) fun a=>?_)) ?_
 ·unfold EX;exact aF [_] [_,_,_,_,_,_,_,_,_] (.a (.r [0,1,2,3,4,5,6] (.a (.c 0 .n) (.l 7))) (.l 8)) (.a (.a (.a (.a (.r [3] (.l 2)) (.l 4)) (.l 0)) (.l 7)) (.r [5,1,8,6] (.c 0 .n))) rfl _
 ·have hZ:Low 2045 (so qs.length++(MG 2005 V0++(RG++(YR .t0 r0 r1 []++(CE++(ip 0 qs++EX ms)))))):=
   ((jO _).mono (by decide)).app ((aJ (by rfl:bU 2045 (MG 2005 V0)=true)).app ((aJ (by rfl:bU 2045 RG=true)).app (low_YR.app ((aJ (by rfl:bU 2045 CE=true)).app (((eY qs 0 hq).mono (by decide)).app ((pE ms).mono (by decide)))))))
  refine aN (JS.post (l':=so qs.length++(MG 2005 V0++(RG++(YR .t0 r0 r1 []++(CE++(iy 0 V0 [] r0 r1++(ip 0 qs++EX ms))))))) (Cz P hZ) (aB (m:=iy 0 V0 [] r0 r1++_) fun a=>?_)) (aN h6 h7)
  exact aF [] [_,_,_,_,_,_,_,_] (.r [0,1,2,3,4,5,6] (.l 7)) (.r [5,0,1,2,3,4,6] (.l 7)) rfl _
end
structure XG where
 tag:Nat
 raw:Expr
 a:Expr:=default
 b:Expr:=default
 c:Expr:=default
 xs:List Expr:= []
 ks:List (Option Expr):= []
 s:Str:=⟨#[]⟩
 v:Const:= .none
 k:Nat:=0
 p:Pos:=default
 op:Operator:= .Add
 uo:UnaryOp:= .Not
 bo:BoolOp:= .And
 os:List CmpOp:= []
 kw:List Keyword:= []
 gs:List Comprehension:= []
 sc:Scope:=default
 la:Option Expr:=none
 lb:Option Expr:=none
 lc:Option Expr:=none
noncomputable def xg(x:Expr):XG:=match x with
 | .Constant v k p=>{tag:=0,raw:=x,v:=v,k:=k,p:=p}
 | .Name s p=>{tag:=1,raw:=x,s:=s,p:=p}
 | .Attribute a s p=>{tag:=2,raw:=x,a:=a,s:=s,p:=p}
 | .UnaryOp uo a p=>{tag:=3,raw:=x,uo:=uo,a:=a,p:=p}
 | .Tuple xs k p=>{tag:=4,raw:=x,xs:=xs,k:=k,p:=p}
 | .List xs p=>{tag:=5,raw:=x,xs:=xs,p:=p}
 | .Dict ks xs p=>{tag:=6,raw:=x,ks:=ks,xs:=xs,p:=p}
 | .Compare a os xs p=>{tag:=7,raw:=x,a:=a,os:=os,xs:=xs,p:=p}
 | .BoolOp bo xs p=>{tag:=8,raw:=x,bo:=bo,xs:=xs,p:=p}
 | .IfExp a b c p=>{tag:=9,raw:=x,a:=a,b:=b,c:=c,p:=p}
 | .BinOp a op b p=>{tag:=10,raw:=x,a:=a,op:=op,b:=b,p:=p}
 | .Subscript a b p=>{tag:=11,raw:=x,a:=a,b:=b,p:=p}
 | .Slice la lb lc p=>{tag:=12,raw:=x,la:=la,lb:=lb,lc:=lc,p:=p}
 | .Call a xs kw p=>{tag:=13,raw:=x,a:=a,xs:=xs,kw:=kw,p:=p}
 | .ListComp a gs sc p=>{tag:=14,raw:=x,a:=a,gs:=gs,sc:=sc,p:=p}
 | .Starred a p=>{tag:=15,raw:=x}
 | .Set a k p=>{tag:=16,raw:=x}
 |_=>{tag:=17,raw:=x}
noncomputable def xgR:List (XG->Expr):= [fun t=> .Constant t.v t.k t.p,fun t=> .Name t.s t.p,fun t=> .Attribute t.a t.s t.p,fun t=> .UnaryOp t.uo t.a t.p,fun t=> .Tuple t.xs t.k t.p,fun t=> .List t.xs t.p,fun t=> .Dict t.ks t.xs t.p,
 fun t=> .Compare t.a t.os t.xs t.p,fun t=> .BoolOp t.bo t.xs t.p,fun t=> .IfExp t.a t.b t.c t.p,fun t=> .BinOp t.a t.op t.b t.p,fun t=> .Subscript t.a t.b t.p,fun t=> .Slice t.la t.lb t.lc t.p,fun t=> .Call t.a t.xs t.kw t.p,fun t=> .ListComp t.a t.gs t.sc t.p]
theorem BO(x:Expr):(xgR.getD (xg x).tag XG.raw) (xg x)=x:=by cases x<;>rfl
theorem xk{x:Expr}{k:Nat}(h:av (xg x).tag k=true){P:Expr->Prop}(hP:P ((xgR.getD k XG.raw) (xg x))):P x:=by
 rw[<-aH h] at hP
 rw[<-BO x]
 exact hP
theorem u6(x:Expr):nStar x=!Nat.beq (xg x).tag 15:=by cases x<;>rfl
theorem xM{x:Expr}(h:av (xg x).tag 16=false)(env:Env)(v:Value):foldedSetIterable x env v=pure v:=by cases x<;>first|rfl|exact dL h
theorem xR{x:Expr}(h:av (xg x).tag 16=false)(op:CmpOp):behindInMarks op x=false:=by cases x<;>first|rfl|exact dL h
noncomputable def aZ{α β:Type}(f:α->β->Bool):List α->List β->Bool
 | [],[]=>true
 |a::l,b::m=>f a b&&aZ f l m
 |_,_=>false
theorem ac{α β:Type}{f:α->β->Bool}{R:α->β->Prop}(H:∀a b,f a b=true->R a b):∀{l:List α} {m:List β},aZ f l m=true->All2 R l m
 | [],[],_=> .nil
 |a::l,b::m,h=>have h:=pi.mp h;.cons (H a b h.1) (ac H h.2)
 | [],_::_,h=>dL h
 |_::_,[],h=>dL h
noncomputable def mn:List (Str×NameKind)->Str->Option NameKind
 | [],_=>none
 |p::r,s=>bif seq s p.1 then some p.2 else mn r s
theorem ml(s:Str):∀l:List (Str×NameKind),mn l s=l.lookup s
 | []=>rfl
 |p::r=>by
  rw[Hs,str_beq,<-ml s r]
  show(bif seq s p.1 then some p.2 else mn r s)=_
  cases seq s p.1<;>rfl
noncomputable def kB(sc:Scope)(s:Str)(k:NameKind):Bool:=decide (mn sc.names s=some k)
theorem cV{sc:Scope}{s:Str}{k:NameKind}(h:kB sc s k=true):sc.names.lookup s=some k:=(ml s _).symm.trans (of_decide_eq_true h)
noncomputable def vY(s:Str):Bool:=!seq s ("__debug__":Str)
theorem iq{s:Str}(h:vY s=true):(s==("__debug__":Str))=false:=by
 rw[str_beq]
 exact(KR _).mp h
structure B2(a b:Bool):Prop where
 l:a=true
 r:b=true
theorem aD{a b:Bool}(h:(a&&b)=true):B2 a b:=⟨(pi.mp h).1,(pi.mp h).2⟩
theorem eB{a:Bool}(h:(!a)=true):a=false:=(KR _).mp h
noncomputable def one{α:Type}(k:α->Bool):List α->Bool
 | [a]=>k a
 |_=>false
theorem cp{α:Type}{k:α->Bool}:∀{l:List α},one k l=true->∃a,l= [a]/\k a=true
 | [a],h=>⟨a,rfl,h⟩
 | [],h=>dL h
 |_::_::_,h=>dL h
noncomputable def two{α:Type}(k:α->α->Bool):List α->Bool
 | [a,b]=>k a b
 |_=>false
theorem zM{α:Type}{k:α->α->Bool}:∀{l:List α},two k l=true->∃a b,l= [a,b]/\k a b=true
 | [a,b],h=>⟨a,b,rfl,h⟩
 | [],h=>dL h
 | [_],h=>dL h
 |_::_::_::_,h=>dL h
noncomputable def opt{α:Type}(k:α->Bool):Option α->Bool
 |some a=>k a
 |none=>false
theorem b9{α:Type}{k:α->Bool}:∀{l:Option α},opt k l=true->∃a,l=some a/\k a=true
 |some a,h=>⟨a,rfl,h⟩
 |none,h=>dL h
noncomputable def GW:Value->Option Const
 | .none=>some .none
 | .bool b=>some (.bool b)
 | .int z t=>grd (av t 0) (some (.int z))
 | .str z t=>grd (av t 0) (some (.str z))
 |_=>none
noncomputable def bM{α:Type}:List α->Bool
 | []=>true
 |_=>false
theorem bD{α:Type}:∀{l:List α},bM l=true->l= []
 | [],_=>rfl
 |_::_,h=>dL h
structure Ck where
 nm:Nat->Str
 K:Frag
 HB:Nat
 nest:Scope->Option (Addr×Addr×Str)
noncomputable abbrev Core.ck(S:Core):Ck:=⟨S.nm,S.K,S.HB,S.nest⟩
noncomputable def DQ(S:Ck):Value->Bool
 | .ref k=>u8 k S.HB
 | .int _ _=>true
 |_=>false
section
variable(S:Ck)(cb:Scope->Nat->Expr->Bool)
noncomputable def vc(sc:Scope)(n:String)(v:Value):Bool:=kB sc (ag n) .globalImplicit&&(decide (nsIn S.K mainGlobals (ag n)=some none)&&(decide (bootBuiltins (ag n)=some v)&&(!seq (ag n) ("__name__":Str)&&vY (ag n))))
noncomputable def Cb(sc:Scope)(i:Nat)(k:NameKind)(x:Expr):Bool:=av (xg x).tag 1&&(seq (S.nm i) (xg x).s&&(kB sc (xg x).s k&&vY (xg x).s))
noncomputable def EE(sc:Scope)(i:Nat)(v:Value)(x:Expr):Bool:=Cb S sc i .globalImplicit x&&(decide (nsIn S.K mainGlobals (xg x).s=some (some v))&&DQ S v)
noncomputable def sd(s:String)(x:Expr):Bool:=av (xg x).tag 1&&seq (ag s) (xg x).s
noncomputable def BJ(k:NameKind)(f:Str->Bool)(l:List (Str×NameKind)):Bool:=l.all fun y=>!decide (y.2=k)||f y.1
noncomputable def Dh(sc scope:Scope)(x:Nat):Bool:=decide (scope.kind= .function)&&(BJ .cell (fun ι=>false) scope.names&&(BJ .local (fun y=>kB scope y .local) scope.names&&(kB scope (S.nm x) .local&&(BJ .free (fun y=>kB sc y .cell) scope.names&&
 (nX (aT scope sc)&&((S.nest (aT scope sc)).isNone&&(BJ .local (fun y=>seq y (S.nm x)||seq y (ag ".0")) (aT scope sc).names&&BJ .cell (fun y=>kB sc y .cell&&scope.names.any fun p=>seq p.1 y&&decide (p.2= .free)) (aT scope sc).names)))))))
noncomputable def Cs(m:Str)(k:Expr->Bool)(x:Expr):Bool:=bM (xg x).kw&&(av (xg (xg x).a).tag 2&&(seq m (xg (xg x).a).s&&(gy (xg x).xs.length 20&&(((xg (xg x).a).p.endLine==(xg x).p.line)&&k (xg (xg x).a).a))))
noncomputable def GP(f:IE->Expr->Bool)(es:List IE)(x:Expr)(t:Option (String×String×String)):Bool:=match t,es with
 |some t,o::r=>Cs (ag t.2.1) (fun y=>d9 y&&(f o y&&aZ f r (xg x).xs)) x
 |_,_=>false
noncomputable def G1(f:IE->Expr->Bool)(sc:Scope)(b:BI)(es:List IE)(x:Expr):Bool:=av (xg x).tag 13&&(match b with
 | .len=>vc S sc "len" (.builtin "len")&&(bM (xg x).kw&&(sd "len" (xg x).a&&aZ f es (xg x).xs&&one (fun ι=>true) es))
 | .str=>vc S sc "str" (.type "str")&&(bM (xg x).kw&&(sd "str" (xg x).a&&aZ f es (xg x).xs&&one (fun ι=>true) es))
 | .int=>vc S sc "int" (.type "int")&&(bM (xg x).kw&&(sd "int" (xg x).a&&aZ f es (xg x).xs&&one (fun ι=>true) es))
 | .isTup=>vc S sc "isinstance" (.builtin "isinstance")&&(vc S sc "tuple" (.type "tuple")&&(bM (xg x).kw&&(sd "isinstance" (xg x).a&&two (fun y t=>sd "tuple" t&&one (fun e=>f e y) es) (xg x).xs)))
 | .isExc C=>vc S sc "isinstance" (.builtin "isinstance")&&(bM (xg x).kw&&(sd "isinstance" (xg x).a&&two (fun y t=>EE S sc ((LJ 230).findIdx fun i=>seq (S.nm i) (xg t).s) (.ref C) t&&one (fun e=>f e y) es) (xg x).xs))
 | .xinit=>vc S sc "Exception" (.type "Exception")&&Cs (ag "__init__") (fun o=>sd "Exception" o&&aZ f es (xg x).xs) x
 |b=>GP f es x (iK b))
noncomputable def Fy(f:IE->Expr->Bool)(a:IE)(lo hi:Option IE)(x:Expr):Bool:=av (xg x).tag 11&&(f a (xg x).a&&(av (xg (xg x).b).tag 12&&((xg (xg x).b).lc.isNone&&opt (fun l=>opt (fun y=>f l y) (xg (xg x).b).la) lo&&(match hi with
 |some h=>opt (fun y=>f h y) (xg (xg x).b).lb
 |none=>(xg (xg x).b).lb.isNone))))
noncomputable def GV(f:IE->Expr->Bool)(sc:Scope)(rg:Bool)(v:Nat)(it:IE)(k:Nat)(x:Expr):Bool:=av (xg x).tag 14&&(cb (aT (xg x).sc sc) k (xg x).a&&(Dh S sc (xg x).sc v&&one (fun g=>av (xg g.target).tag 1&&(seq (S.nm v) (xg g.target).s&&(bM g.ifs&&(decide (g.is_async=0)&&(match rg with
 |false=>f it g.iter
 |true=>vc S sc "range" (.type "range")&&(av (xg g.iter).tag 13&&(bM (xg g.iter).kw&&(sd "range" (xg g.iter).a&&one (f it) (xg g.iter).xs)))))))) (xg x).gs))
noncomputable def eX:Nat->Scope->IE->Expr->Bool
 |0,_,_,_=>false
 |n+1,sc,e,x=>match e with
  | .cst v=>av (xg x).tag 0&&decide (GW v=some (xg x).v)
  | .neg m=>av (xg x).tag 3&&(decide ((xg x).uo= .USub)&&(av (xg (xg x).a).tag 0&&decide ((xg (xg x).a).v= .int m)))
  | .loc i=>Cb S sc i .local x&&!nX sc
  | .cel i=>Cb S sc i .cell x
  | .cv i=>Cb S sc i .local x&&nX sc
  | .glob i v=>EE S sc i v x
  | .attr a i=>av (xg x).tag 2&&(seq (S.nm i) (xg x).s&&(d9 (xg x).a&&eX n sc a (xg x).a))
  | .tup es=>av (xg x).tag 4&&aZ (eX n sc) es (xg x).xs
  | .lst es=>av (xg x).tag 5&&aZ (eX n sc) es (xg x).xs
  | .dct ks es=>av (xg x).tag 6&&(aZ (fun k o=>opt (fun y=>av (xg y).tag 0&&decide ((xg y).v= .str k)) o) ks (xg x).ks&&(aZ (eX n sc) es (xg x).xs&&aZ (fun ι ι=>true) ks es))
  | .tdct ks es=>av (xg x).tag 6&&(aZ (fun k o=>opt (eX n sc k) o) ks (xg x).ks&&(aZ (eX n sc) es (xg x).xs&&(!bM ks&&!bM es)))
  | .cmp op a b=>av (xg x).tag 7&&(eX n sc a (xg x).a&&(decide ((xg x).os= [op])&&one (fun y=>eX n sc b y&&!Nat.beq (xg y).tag 16) (xg x).xs))
  | .and_ es=>av (xg x).tag 8&&(decide ((xg x).bo= .And)&&aZ (eX n sc) es (xg x).xs)
  | .or_ es=>av (xg x).tag 8&&(decide ((xg x).bo= .Or)&&aZ (eX n sc) es (xg x).xs)
  | .not_ a=>av (xg x).tag 3&&(decide ((xg x).uo= .Not)&&eX n sc a (xg x).a)
  | .ite c a b=>av (xg x).tag 9&&(eX n sc c (xg x).a&&(eX n sc a (xg x).b&&eX n sc b (xg x).c))
  | .bin op a b=>av (xg x).tag 10&&(decide ((xg x).op=op)&&(eX n sc a (xg x).a&&eX n sc b (xg x).b))
  | .idx a i=>av (xg x).tag 11&&(eX n sc a (xg x).a&&(eX n sc i (xg x).b&&cJ (xg x).b))
  | .slc a lo hi=>Fy (eX n sc) a lo hi x
  | .call f es=>av (xg x).tag 13&&(bM (xg x).kw&&(eX n sc f (xg x).a&&(aZ (eX n sc) es (xg x).xs&&nP (xg x).a)))
  | .mcall o m es=>av (xg x).tag 13&&Cs (S.nm m) (fun y=>d9 y&&(eX n sc o y&&aZ (eX n sc) es (xg x).xs)) x
  | .bcall b es=>G1 S (eX n sc) sc b es x
  | .slcH a h=>av (xg x).tag 11&&(eX n sc a (xg x).a&&(av (xg (xg x).a).tag 1&&(av (xg (xg x).b).tag 12&&((xg (xg x).b).la.isNone&&((xg (xg x).b).lc.isNone&&opt (eX n sc h) (xg (xg x).b).lb)))))
  | .comp rg v it k=>GV S cb (eX n sc) sc rg v it k x
  | .bad=>!Nat.beq (xg x).tag 15&&!Nat.beq (xg x).tag 16
end
theorem mem_lookup{α:Type}{y:Str}{k:α}:∀{l:List (Str×α)},l.lookup y=some k->(y,k)∈l
 |p::r,h=>by
  rw[Hs,str_beq] at h
  cases e:seq y p.1 with
  |true=>
   rw[e] at h
   rw[seq_iff.mp e,<-bd h]
   exact .head _
  |false=>
   rw[e] at h
   exact .tail _ (mem_lookup h)
theorem jQ{k:NameKind}{f:Str->Bool}{l:List (Str×NameKind)}(h:BJ k f l=true){y:Str×NameKind}(hy:y∈l)(hk:y.2=k):f y.1=true:=by
 have:=eg.mp h y hy
 rw[decide_eq_true hk] at this
 exact this
section
variable{S:Core}{cb:Scope->Nat->Expr->Bool}{sc:Scope}{x:Expr}
theorem AQ{v:Value}(h:DQ S.ck v=true):vF S v=true:=by cases v<;>exact h
theorem fV{n:String}{v:Value}(h:vc S.ck sc n v=true):bV S sc n v:=
 have h1:=aD h
 have h2:=aD h1.2
 have h3:=aD h2.2
 have h4:=aD h3.2
 ⟨cV h1.1,of_decide_eq_true h2.1,of_decide_eq_true h3.1,fun e=>dL ((seq_iff.mpr e).symm.trans (eB h4.1)),iq h4.2⟩
theorem nM{i:Nat}{k:NameKind}(h:Cb S.ck sc i k x=true){P:Expr->Prop}(hP:∀p,S.nm i=(xg x).s->sc.names.lookup (S.nm i)=some k->(S.nm i==("__debug__":Str))=false->P (.Name (S.nm i) p)):P x:=by
 have h1:=aD h
 have h2:=aD h1.2
 have h3:=aD h2.2
 have hs:S.nm i=(xg x).s:=seq_iff.mp h2.1
 refine xk h1.1 ?_
 show P (.Name (xg x).s (xg x).p)
 rw[<-hs]
 exact hP _ hs (by rw[hs];exact cV h3.1) (by rw[hs];exact iq h3.2)
theorem yo{i:Nat}{v:Value}(h:EE S.ck sc i v x=true):(∃p,x= .Name (S.nm i) p)/\∀p,ME S sc (.glob i v) (.Name (S.nm i) p):=by
 have h1:=aD h
 have h2:=aD h1.2
 refine nM (P:=fun x=>(∃p,x= .Name (S.nm i) p)/\∀p,ME S sc (.glob i v) (.Name (S.nm i) p)) h1.1 fun p e q1 q2=>⟨⟨p,rfl⟩,fun p=> .glob q1 q2 (by rw[e];exact of_decide_eq_true h2.1) (AQ h2.2)⟩
theorem kI{s:String}(h:sd s x=true){P:Expr->Prop}(hP:∀p,P (.Name (ag s) p)):P x:=by
 have h1:=aD h
 refine xk h1.1 ?_
 show P (.Name (xg x).s (xg x).p)
 rw[<-seq_iff.mp h1.2]
 exact hP _
theorem ub{m:Str}{k:Expr->Bool}(h0:av (xg x).tag 13=true)(h:Cs m k x=true){P:Expr->Prop}(hP:∀q p,gy (xg x).xs.length 20=true->(q.endLine==p.line)=true->k (xg (xg x).a).a=true->P (.Call (.Attribute (xg (xg x).a).a m q) (xg x).xs [] p)):P x:=by
 have h1:=aD h
 have h2:=aD h1.2
 have h3:=aD h2.2
 have h4:=aD h3.2
 have h5:=aD h4.2
 refine xk h0 ?_
 show P (.Call (xg x).a (xg x).xs (xg x).kw (xg x).p)
 rw[bD h1.1]
 refine xk (P:=fun y=>P (.Call y (xg x).xs [] (xg x).p)) h2.1 ?_
 show P (.Call (.Attribute (xg (xg x).a).a (xg (xg x).a).s (xg (xg x).a).p) (xg x).xs [] (xg x).p)
 rw[<-seq_iff.mp h3.1]
 exact hP _ _ h4.1 h5.1 h5.2
theorem Ae{scope:Scope}{v:Nat}(h:Dh S.ck sc scope v=true):CompSc S sc scope v:=by
 have h1:=aD h
 have h2:=aD h1.2
 have h3:=aD h2.2
 have h4:=aD h3.2
 have h5:=aD h4.2
 have h6:=aD h5.2
 have h7:=aD h6.2
 have h8:=aD h7.2
 refine{kind:=of_decide_eq_true h1.1,cell:=fun y hy e=>dL (jQ h2.1 hy e),nms:=fun y hy e=>cV (jQ h3.1 hy e),hx:=cV h4.1,free:=fun y hy e=>cV (jQ h5.1 hy e),isc:=h6.1,nest:=pt.mp h7.1,locs:=fun y e=>(Ib.mp (jQ h8.1 (mem_lookup e) rfl)).imp seq_iff.mp seq_iff.mp,cels:=fun y e=>?_}
 have h9:=aD (jQ h8.2 (mem_lookup e) rfl)
 obtain⟨p,hp,h10⟩:=K0.mp h9.2
 have h11:=aD h10
 have e3:p=(y,HP):=HJ (seq_iff.mp h11.1) (of_decide_eq_true h11.2)
 exact⟨cV h9.1,e3▸hp⟩
set_option tactic.hygienic true in
theorem Ad{v:Value}{c:Const}{k:Nat}{p:Pos}(h:GW v=some c):ME S sc (.cst v) (.Constant c k p):=by
 cases v with
 |none=>rw[<-bd h];exact .cNone
 |bool=>rw[<-bd h];exact .cBool
 |int z t=>obtain⟨e,f⟩:h:=aM h;rw[<-bd f,aH e];exact .cInt
 |str z t=>obtain⟨e,f⟩:h:=aM h;rw[<-bd f,aH e];exact .cStr
 |_=>exact bn rfl (heq_of_eq h)
end
section
variable{S:Core}{cb:Scope->Nat->Expr->Bool}{sc:Scope}{x:Expr}{f:IE->Expr->Bool}
theorem xd:∀{ks:List Str} {os:List (Option Expr)},aZ (fun k o=>opt (fun y=>av (xg y).tag 0&&decide ((xg y).v= .str k)) o) ks os=true->All2 pJ ks os:=fun h=>ac (fun k o h=>by
 obtain⟨y,rfl,h⟩:=b9 h
 have h2:=of_decide_eq_true (aD h).2
 refine xk (P:=fun y=>pJ k (some y)) (aD h).1 ⟨(xg y).k,(xg y).p,?_⟩
 show some (Expr.Constant (xg y).v _ _)=_
 rw[h2]) h
theorem Aa(H:∀e x,f e x=true->ME S sc e x){ks:List Str}{es:List IE}{kx:List (Option Expr)}{xs:List Expr}{p:Pos}(h1:All2 pJ ks kx)(h2:aZ f es xs=true)(h3:aZ (fun ι ι=>true) ks es=true):ME S sc (.dct ks es) (.Dict kx xs p):=by
 have h2:=ac H h2
 match ks,es,kx,xs,h1,h2,h3 with
 | [],[],_,_,.nil,.nil,_=>exact .dct0
 |k::ks,e::es,_,_,h1,h2,_=>exact .dct h1 h2
theorem wM(H:∀e x,f e x=true->ME S sc e x){ks es:List IE}{kx:List (Option Expr)}{xs:List Expr}{p:Pos}(h1:aZ (fun k o=>opt (f k) o) ks kx=true)(h2:aZ f es xs=true)(h3:bM ks=false)(h4:bM es=false):ME S sc (.tdct ks es) (.Dict kx xs p):=by
 have h2:=ac H h2
 have:∀{ks:List IE} {kx:List (Option Expr)},aZ (fun k o=>opt (f k) o) ks kx=true->∃ys,kx=ys.map some/\All2 (ME S sc) ks ys:=fun{ks kx} h=>by
  induction ks generalizing kx with
  |nil=>cases kx with
   |nil=>exact⟨[],rfl,.nil⟩
   |cons a r=>exact dL h
  |cons k r ih=>cases kx with
   |nil=>exact dL h
   |cons a l=>
    obtain⟨ys,rfl,h6⟩:=ih (aD h).2
    obtain⟨y,rfl,h5⟩:=b9 (aD h).1
    exact⟨y::ys,rfl,.cons (H _ _ h5) h6⟩
 obtain⟨ys,rfl,h5⟩:=this h1
 match ks,es,h5,h2,h3,h4 with
 |k::ks,e::es,h5,h2,_,_=>exact .tdct h5 h2
theorem zX(H:∀e x,f e x=true->ME S sc e x){a:IE}{lo hi:Option IE}(h:Fy f a lo hi x=true):ME S sc (.slc a lo hi) x:=by
 have h1:=aD h
 have h2:=aD h1.2
 have h3:=aD h2.2
 have h4:=aD h3.2
 have h5:=aD h4.1
 obtain⟨l,rfl,h6⟩:=b9 h5.2
 obtain⟨y,e6,h6⟩:=b9 h6
 refine xk h1.1 ?_
 show ME S sc _ (.Subscript (xg x).a (xg x).b _)
 refine xk (P:=fun y=>ME S sc _ (.Subscript (xg x).a y _)) h3.1 ?_
 show ME S sc _ (.Subscript (xg x).a (.Slice (xg (xg x).b).la (xg (xg x).b).lb (xg (xg x).b).lc _) _)
 rw[e6,pt.mp h5.1]
 have h7:=h4.2
 cases hi with
 |none=>
  rw[pt.mp h7]
  exact .slcB (H _ _ h2.1) (H _ _ h6)
 |some hi=>
  obtain⟨z,e7,h7⟩:=b9 h7
  rw[e7]
  exact .slcA (H _ _ h2.1) (H _ _ h6) (H _ _ h7)
theorem pX(H:∀e x,f e x=true->ME S sc e x){n:String}{v:Value}{b:BI}{es:List IE}(h0:av (xg x).tag 13=true)(h:(vc S.ck sc n v&&(bM (xg x).kw&&(sd n (xg x).a&&aZ f es (xg x).xs&&one (fun ι=>true) es)))=true)
  (K:∀{a x q p},bV S sc n v->ME S sc a x->ME S sc (.bcall b [a]) (.Call (.Name (ag n) q) [x] [] p)):ME S sc (.bcall b es) x:=by
 have h1:=aD h
 have h2:=aD h1.2
 have h3:=aD h2.2
 have h4:=aD h3.1
 obtain⟨a,rfl,_⟩:=cp h3.2
 refine xk h0 ?_
 show ME S sc _ (.Call (xg x).a (xg x).xs (xg x).kw _)
 rw[bD h2.1]
 refine kI (P:=fun y=>ME S sc _ (.Call y (xg x).xs [] _)) h4.1 fun q=>?_
 have h5:=ac H h4.2
 generalize (xg x).xs=xs at h5
 match xs,h5 with
 |_,.cons h6 .nil=>exact K (fV h1.1) h6
theorem Am(H:∀e x,f e x=true->ME S sc e x){b:BI}{es:List IE}(h:G1 S.ck f sc b es x=true):ME S sc (.bcall b es) x:=by
 have h0:=(aD h).1
 have h:=(aD h).2
 have meth:∀{b:BI},GP f es x (iK b)=true->ME S sc (.bcall b es) x:=fun{b} h=>by
  cases e:iK b with
  |none=>rw[e] at h;exact dL h
  |some t=>
   rw[e] at h
   cases es with
   |nil=>exact dL h
   |cons o r=>
    have h:Cs (ag t.2.1) (fun y=>d9 y&&(f o y&&aZ f r (xg x).xs)) x=true:=h
    exact ub (P:=ME S sc _) h0 h fun q p h1 h2 h3=> .meth e (H _ _ (aD (aD h3).2).1) (ac H (aD (aD h3).2).2) (aD h3).1 h1 h2
 have tw:∀{k:Expr->Bool} {y:Expr},(bM (xg x).kw&&(sd "isinstance" (xg x).a&&two (fun y t=>k t&&one (fun e=>f e y) es) (xg x).xs))=true->(∀{a x q t p},es= [a]->ME S sc a x->k t=true->ME S sc (.bcall b es) (.Call (.Name (ag "isinstance") q) [x,t] [] p))->ME S sc (.bcall b es) x:=fun h K=>by
  have h2:=aD h
  have h3:=aD h2.2
  obtain⟨y,t,e4,h4⟩:=zM h3.2
  obtain⟨a,rfl,h5⟩:=cp (aD h4).2
  refine xk h0 ?_
  show ME S sc _ (.Call (xg x).a (xg x).xs (xg x).kw _)
  rw[bD h2.1,e4]
  exact kI (P:=fun z=>ME S sc _ (.Call z [y,t] [] _)) h3.1 fun q=>K rfl (H _ _ h5) (aD h4).1
 cases b with
 |len=>exact pX H h0 h .len
 |str=>exact pX H h0 h .str
 |int=>exact pX H h0 h .int
 |isTup=>
  have h1:=aD h
  have h2:=aD h1.2
  exact tw (y:=x) h2.2 fun{a x q t p} e h6 h7=>by
   subst e
   exact kI (P:=fun t=>ME S sc _ (.Call _ [x,t] [] p)) h7 fun r=> .isTup (fV h1.1) (fV h2.1) h6
 |isExc C=>
  have h1:=aD h
  exact tw (y:=x) h1.2 fun{a x q t p} e h6 h7=>by
   subst e
   obtain⟨⟨r,e⟩,h8⟩:=yo h7
   rw[e]
   exact .isExc (fV h1.1) h6 (h8 r)
 |xinit=>
  have h1:=aD h
  exact ub (P:=ME S sc _) h0 h1.2 fun q p h2 h3 h4=>kI (P:=fun z=>ME S sc _ (.Call (.Attribute z _ q) (xg x).xs [] p)) (aD h4).1 fun r=> .xinit (fV h1.1) (ac H (aD h4).2) h2 h3
 |append=>exact meth h
 |pop=>exact meth h
 |extend=>exact meth h
 |get=>exact meth h
 |join=>exact meth h
theorem Af(H:∀e x,f e x=true->ME S sc e x)(hcb:∀sc k x,cb sc k x=true->S.ce sc k x){rg:Bool}{v k:Nat}{it:IE}(h:GV S.ck cb f sc rg v it k x=true):ME S sc (.comp rg v it k) x:=by
 have h1:=aD h
 have h2:=aD h1.2
 have h3:=aD h2.2
 obtain⟨⟨t,i,l,a⟩,e4,h4⟩:=cp h3.2
 have h5:=aD h4
 have h6:=aD h5.2
 have h7:=aD h6.2
 have h8:=aD h7.2
 have hc:=Ae h3.1
 have hk:=hcb _ _ _ h2.1
 refine xk h1.1 ?_
 show ME S sc _ (.ListComp (xg x).a (xg x).gs (xg x).sc _)
 rw[e4,show l= [] from bD h7.1,show a=0 from of_decide_eq_true h8.1]
 refine xk (P:=fun t=>ME S sc _ (.ListComp (xg x).a [⟨t,i,[],0⟩] (xg x).sc _)) h5.1 ?_
 show ME S sc _ (.ListComp (xg x).a [⟨.Name (xg t).s _,i,[],0⟩] (xg x).sc _)
 rw[<-seq_iff.mp h6.1]
 have h9:=h8.2
 cases rg with
 |false=>exact .comp (H _ _ h9) hc hk
 |true=>
  have q1:=aD h9
  have q2:=aD q1.2
  have q3:=aD q2.2
  have q4:=aD q3.2
  obtain⟨y,e5,q5⟩:=cp q4.2
  refine xk (P:=fun i=>ME S sc _ (.ListComp (xg x).a [⟨.Name (S.nm v) _,i,[],0⟩] (xg x).sc _)) q2.1 ?_
  show ME S sc _ (.ListComp (xg x).a [⟨.Name (S.nm v) _,.Call (xg i).a (xg i).xs (xg i).kw _,[],0⟩] (xg x).sc _)
  rw[bD q3.1,e5]
  exact kI (P:=fun z=>ME S sc _ (.ListComp (xg x).a [⟨.Name (S.nm v) _,.Call z [y] [] _,[],0⟩] (xg x).sc _)) q4.1 fun q=> .compR (fV q1.1) (H _ _ q5) hc hk
theorem wW(H:∀e x,f e x=true->ME S sc e x){a hh:IE}(h:(av (xg x).tag 11&&(f a (xg x).a&&(av (xg (xg x).a).tag 1&&(av (xg (xg x).b).tag 12&&((xg (xg x).b).la.isNone&&((xg (xg x).b).lc.isNone&&opt (f hh) (xg (xg x).b).lb))))))=true):ME S sc (.slcH a hh) x:=by
 have h1:=aD h
 have h2:=aD h1.2
 have h3:=aD h2.2
 have h4:=aD h3.2
 have h5:=aD h4.2
 have h6:=aD h5.2
 obtain⟨y,e7,h7⟩:=b9 h6.2
 have ha:=H _ _ h2.1
 refine xk h1.1 ?_
 show ME S sc _ (.Subscript (xg x).a (xg x).b _)
 refine xk (P:=fun y=>ME S sc _ (.Subscript (xg x).a y _)) h4.1 ?_
 show ME S sc _ (.Subscript (xg x).a (.Slice (xg (xg x).b).la (xg (xg x).b).lb (xg (xg x).b).lc _) _)
 rw[e7,pt.mp h5.1,pt.mp h6.1]
 revert ha
 exact xk (P:=fun z=>ME S sc a z->ME S sc _ (.Subscript z _ _)) h3.1 fun ha=> .slcH ha (H _ _ h7)
theorem Ah(H:∀e x,f e x=true->ME S sc e x){op:CmpOp}{a b:IE}(h:(av (xg x).tag 7&&(f a (xg x).a&&(decide ((xg x).os= [op])&&one (fun y=>f b y&&!Nat.beq (xg y).tag 16) (xg x).xs)))=true):ME S sc (.cmp op a b) x:=by
 have h1:=aD h
 have h2:=aD h1.2
 have h3:=aD h2.2
 obtain⟨y,e4,h4⟩:=cp h3.2
 refine xk h1.1 ?_
 show ME S sc _ (.Compare (xg x).a (xg x).os (xg x).xs _)
 rw[of_decide_eq_true h3.1,e4]
 exact .cmp (H _ _ h2.1) (H _ _ (aD h4).1) (xR (eB (aD h4).2) _)
theorem call_of(H:∀e x,f e x=true->ME S sc e x){g:IE}{es:List IE}(h:(av (xg x).tag 13&&(bM (xg x).kw&&(f g (xg x).a&&(aZ f es (xg x).xs&&nP (xg x).a))))=true):ME S sc (.call g es) x:=by
 have h1:=aD h
 have h2:=aD h1.2
 have h3:=aD h2.2
 have h4:=aD h3.2
 refine xk h1.1 ?_
 show ME S sc _ (.Call (xg x).a (xg x).xs (xg x).kw _)
 rw[bD h2.1]
 exact .call (H _ _ h3.1) (ac H h4.1) h4.2
end
theorem AD{S:Core}{cb:Scope->Nat->Expr->Bool}(hcb:∀sc k x,cb sc k x=true->S.ce sc k x)(n:Nat):∀(sc:Scope) (e:IE) (x:Expr),eX S.ck cb n sc e x=true->ME S sc e x:=by
 induction n with
 |zero=>exact fun ι ι ι h=>dL h
 |succ n ih=>
  intro sc e x h
  have H:=fun e x=>ih sc e x
  cases e with
  |cst v=>exact xk (aD h).1 (Ad (of_decide_eq_true (aD h).2))
  |neg m=>
   have h2:=aD (aD h).2
   have h3:=aD h2.2
   refine xk (aD h).1 ?_
   show ME S sc _ (.UnaryOp (xg x).uo (xg x).a _)
   rw[of_decide_eq_true h2.1]
   refine xk (P:=fun y=>ME S sc _ (.UnaryOp .USub y _)) h3.1 ?_
   show ME S sc _ (.UnaryOp .USub (.Constant (xg (xg x).a).v _ _) _)
   rw[of_decide_eq_true h3.2]
   exact .neg
  |loc i=>exact nM (P:=ME S sc _) (aD h).1 fun p ι q1 q2=> .loc ⟨q1,eB (aD h).2⟩ q2
  |cel i=>exact nM (P:=ME S sc _) h fun p ι q1 q2=> .cel q1 q2
  |cv i=>exact nM (P:=ME S sc _) (aD h).1 fun p ι q1 q2=> .cv (aD h).2 q1 q2
  |glob i v=>
   obtain⟨⟨p,e⟩,h8⟩:=yo h
   rw[e]
   exact h8 p
  |attr a i=>
   have h2:=aD (aD h).2
   refine xk (aD h).1 ?_
   show ME S sc _ (.Attribute (xg x).a (xg x).s _)
   rw[<-seq_iff.mp h2.1]
   exact .attr (H _ _ (aD h2.2).2) (aD h2.2).1
  |tup es=>exact xk (aD h).1 (.tup (ac H (aD h).2))
  |lst es=>exact xk (aD h).1 (.lst (ac H (aD h).2))
  |dct ks es=>exact xk (aD h).1 (Aa H (xd (aD (aD h).2).1) (aD (aD (aD h).2).2).1 (aD (aD (aD h).2).2).2)
  |tdct ks es=>exact xk (aD h).1 (wM H (aD (aD h).2).1 (aD (aD (aD h).2).2).1 (eB (aD (aD (aD (aD h).2).2).2).1) (eB (aD (aD (aD (aD h).2).2).2).2))
  |cmp op a b=>exact Ah H h
  |and_ es=>
   refine xk (aD h).1 ?_
   show ME S sc _ (.BoolOp (xg x).bo (xg x).xs _)
   rw[of_decide_eq_true (aD (aD h).2).1]
   exact .and_ (ac H (aD (aD h).2).2)
  |or_ es=>
   refine xk (aD h).1 ?_
   show ME S sc _ (.BoolOp (xg x).bo (xg x).xs _)
   rw[of_decide_eq_true (aD (aD h).2).1]
   exact .or_ (ac H (aD (aD h).2).2)
  |not_ a=>
   refine xk (aD h).1 ?_
   show ME S sc _ (.UnaryOp (xg x).uo (xg x).a _)
   rw[of_decide_eq_true (aD (aD h).2).1]
   exact .not_ (H _ _ (aD (aD h).2).2)
  |ite c a b=>exact xk (aD h).1 (.ite (H _ _ (aD (aD h).2).1) (H _ _ (aD (aD (aD h).2).2).1) (H _ _ (aD (aD (aD h).2).2).2))
  |bin op a b=>
   refine xk (aD h).1 ?_
   show ME S sc _ (.BinOp (xg x).a (xg x).op (xg x).b _)
   rw[of_decide_eq_true (aD (aD h).2).1]
   exact .bin (H _ _ (aD (aD (aD h).2).2).1) (H _ _ (aD (aD (aD h).2).2).2)
  |idx a i=>exact xk (aD h).1 (.idx (H _ _ (aD (aD h).2).1) (H _ _ (aD (aD (aD h).2).2).1) (aD (aD (aD h).2).2).2)
  |slc a lo hi=>exact zX H h
  |call g es=>exact call_of H h
  |mcall o m es=>exact ub (P:=ME S sc _) (aD h).1 (aD h).2 fun q p h1 h2 h3=> .mcall (H _ _ (aD (aD h3).2).1) (ac H (aD (aD h3).2).2) (aD h3).1 h1 h2
  |bcall b es=>exact Am H h
  |slcH a hh=>exact wW H h
  |comp rg v it k=>exact Af H hcb h
  |bad=>exact .bad (by rw[u6];exact(aD h).1) (xM (eB (aD h).2))
structure YG where
 tag:Nat
 raw:Stmt
 ts:List Expr:= []
 t:Expr:=default
 v:Expr:=default
 b:List Stmt:= []
 o:List Stmt:= []
 f:List Stmt:= []
 op:Operator:= .Add
 r:Option Expr:=none
 c:Option Expr:=none
 h:List ExceptHandler:= []
 p:Pos:=default
noncomputable def yg(s:Stmt):YG:=match s with
 | .Assign ts v p=>{tag:=0,raw:=s,ts:=ts,v:=v,p:=p}
 | .AugAssign t op v p=>{tag:=1,raw:=s,t:=t,op:=op,v:=v,p:=p}
 | .If t b o p=>{tag:=2,raw:=s,t:=t,b:=b,o:=o,p:=p}
 | .While t b o p=>{tag:=3,raw:=s,t:=t,b:=b,o:=o,p:=p}
 | .For t v b o p=>{tag:=4,raw:=s,t:=t,v:=v,b:=b,o:=o,p:=p}
 | .Return r p=>{tag:=5,raw:=s,r:=r,p:=p}
 | .Raise r c p=>{tag:=6,raw:=s,r:=r,c:=c,p:=p}
 | .Try b h o f p=>{tag:=7,raw:=s,b:=b,h:=h,o:=o,f:=f,p:=p}
 | .Expr v p=>{tag:=8,raw:=s,v:=v,p:=p}
 | .Pass p=>{tag:=9,raw:=s,p:=p}
 |_=>{tag:=10,raw:=s}
noncomputable def ygR:List (YG->Stmt):= [fun t=> .Assign t.ts t.v t.p,fun t=> .AugAssign t.t t.op t.v t.p,fun t=> .If t.t t.b t.o t.p,fun t=> .While t.t t.b t.o t.p,fun t=> .For t.t t.v t.b t.o t.p,fun t=> .Return t.r t.p,fun t=> .Raise t.r t.c t.p,
 fun t=> .Try t.b t.h t.o t.f t.p,fun t=> .Expr t.v t.p,fun t=> .Pass t.p]
theorem BN(s:Stmt):(ygR.getD (yg s).tag YG.raw) (yg s)=s:=by cases s<;>rfl
theorem yk{s:Stmt}{k:Nat}(h:av (yg s).tag k=true){P:Stmt->Prop}(hP:P ((ygR.getD k YG.raw) (yg s))):P s:=by
 rw[<-aH h] at hP
 rw[<-BN s]
 exact hP
section
variable(S:Ck)(f:IE->Expr->Bool)(sc:Scope)
noncomputable def Co(t:IT)(x:Expr):Bool:=match t with
 | .loc i=>av (xg x).tag 1&&(seq (S.nm i) (xg x).s&&(kB sc (xg x).s .local&&!nX sc))
 | .attr o i=>av (xg x).tag 2&&(seq (S.nm i) (xg x).s&&f o (xg x).a)
noncomputable def AJ(i:Nat)(x:Expr):Bool:=av (xg x).tag 1&&(seq (S.nm i) (xg x).s&&(kB sc (xg x).s .local&&!nX sc))
noncomputable def Gs(g:List IS->List Stmt->Bool)(C n:Nat)(h:List IS)(e:ExceptHandler):Bool:=match e with
 | .ExceptHandler t m b _=>opt (fun x=>EE S sc ((LJ 230).findIdx fun i=>seq (S.nm i) (xg x).s) (.ref C) x) t&&(opt (fun y=>seq (S.nm n) y&&(kB sc y .local&&!nX sc)) m&&(g h b&&(!bM b&&cI S.K C)))
noncomputable def rq:Nat->IS->Stmt->Bool
 |0,_,_=>false
 |n+1,i,s=>match i with
  | .asg y e=>av (yg s).tag 0&&(f e (yg s).v&&(bY (yg s).v&&one (AJ S sc y) (yg s).ts))
  | .asgC y e=>av (yg s).tag 0&&(f e (yg s).v&&(bY (yg s).v&&one (fun x=>av (xg x).tag 1&&(seq (S.nm y) (xg x).s&&kB sc (xg x).s .cell)) (yg s).ts))
  | .asgL y v it k=>av (yg s).tag 0&&(f (.comp true v it k) (yg s).v&&one (fun t=>AJ S sc y t&&(((xg t).p.line==(xg (yg s).v).p.line)&&!((xg (yg s).v).sc.names.any fun z=>z.1==S.nm y&&(z.2== .local||z.2== .cell)))) (yg s).ts)
  | .asgA o a e=>av (yg s).tag 0&&(f e (yg s).v&&(bY (yg s).v&&one (fun x=>av (xg x).tag 2&&(seq (S.nm a) (xg x).s&&f o (xg x).a)) (yg s).ts))
  | .asgI o i e=>av (yg s).tag 0&&(f e (yg s).v&&(bY (yg s).v&&one (fun x=>av (xg x).tag 11&&(f o (xg x).a&&(f i (xg x).b&&cJ (xg x).b))) (yg s).ts))
  | .asgT ts e=>av (yg s).tag 0&&(f e (yg s).v&&(bY (yg s).v&&(zu (yg s).v&&one (fun x=>av (xg x).tag 4&&aZ (Co S f sc) ts (xg x).xs) (yg s).ts)))
  | .aug y op e=>av (yg s).tag 1&&(decide ((yg s).op=op)&&(f e (yg s).v&&(AJ S sc y (yg s).t&&vY (S.nm y))))
  | .augA o a op e=>av (yg s).tag 1&&(decide ((yg s).op=op)&&(f e (yg s).v&&(av (xg (yg s).t).tag 2&&(seq (S.nm a) (xg (yg s).t).s&&f o (xg (yg s).t).a))))
  | .augI o i op e=>av (yg s).tag 1&&(decide ((yg s).op=op)&&(f e (yg s).v&&(av (xg (yg s).t).tag 11&&(f o (xg (yg s).t).a&&(f i (xg (yg s).t).b&&cJ (xg (yg s).t).b)))))
  | .if_ c a b=>av (yg s).tag 2&&(f c (yg s).t&&(aZ (rq n) a (yg s).b&&aZ (rq n) b (yg s).o))
  | .while_ c b=>av (yg s).tag 3&&(f c (yg s).t&&(aZ (rq n) b (yg s).b&&bM (yg s).o))
  | .for_ v it b=>av (yg s).tag 4&&(f it (yg s).v&&(bY (yg s).v&&(aZ (rq n) b (yg s).b&&(AJ S sc v (yg s).t&&bM (yg s).o))))
  | .forR v it b=>av (yg s).tag 4&&(vc S sc "range" (.type "range")&&(av (xg (yg s).v).tag 13&&(bM (xg (yg s).v).kw&&(sd "range" (xg (yg s).v).a&&(one (f it) (xg (yg s).v).xs&&(aZ (rq n) b (yg s).b&&(AJ S sc v (yg s).t&&bM (yg s).o)))))))
  | .ret e=>av (yg s).tag 5&&opt (f e) (yg s).r
  | .ret0=>av (yg s).tag 5&&(yg s).r.isNone
  | .raise e=>av (yg s).tag 6&&(opt (f e) (yg s).r&&(yg s).c.isNone)
  | .raiseN v=>av (yg s).tag 6&&(opt (AJ S sc v) (yg s).r&&((yg s).c.isNone&&vY (S.nm v)))
  | .try_ b C v h=>av (yg s).tag 7&&(aZ (rq n) b (yg s).b&&(one (Gs S sc (aZ (rq n)) C v h) (yg s).h&&(bM (yg s).o&&bM (yg s).f)))
  | .expr e=>av (yg s).tag 8&&(f e (yg s).v&&bY (yg s).v)
  | .pass=>av (yg s).tag 9
  | .bad=>true
  |_=>false
end
section
variable{S:Core}{f:IE->Expr->Bool}{sc:Scope}{x:Expr}{s:Stmt}
theorem kZ{i:Nat}(h:AJ S.ck sc i x=true){P:Expr->Prop}(hP:∀p,ae sc (S.nm i)->P (.Name (S.nm i) p)):P x:=by
 have h1:=aD h
 have h2:=aD h1.2
 have h3:=aD h2.2
 have hs:S.nm i=(xg x).s:=seq_iff.mp h2.1
 refine xk h1.1 ?_
 show P (.Name (xg x).s (xg x).p)
 rw[<-hs]
 exact hP _ ⟨by rw[hs];exact cV h3.1,eB h3.2⟩
theorem at_of{a:Nat}{o:IE}(H:∀e x,f e x=true->ME S sc e x)(h:(av (xg x).tag 2&&(seq (S.nm a) (xg x).s&&f o (xg x).a))=true){P:Expr->Prop}(hP:∀y p,ME S sc o y->P (.Attribute y (S.nm a) p)):P x:=by
 have h1:=aD h
 have h2:=aD h1.2
 refine xk h1.1 ?_
 show P (.Attribute (xg x).a (xg x).s (xg x).p)
 rw[<-seq_iff.mp h2.1]
 exact hP _ _ (H _ _ h2.2)
theorem yj{o i:IE}(H:∀e x,f e x=true->ME S sc e x)(h:(av (xg x).tag 11&&(f o (xg x).a&&(f i (xg x).b&&cJ (xg x).b)))=true){P:Expr->Prop}(hP:∀y z p,ME S sc o y->ME S sc i z->cJ z=true->P (.Subscript y z p)):P x:=by
 have h1:=aD h
 have h2:=aD h1.2
 have h3:=aD h2.2
 exact xk h1.1 (hP _ _ _ (H _ _ h2.1) (H _ _ h3.1) h3.2)
theorem zw(H:∀e x,f e x=true->ME S sc e x){t:IT}(h:Co S.ck f sc t x=true):MT S sc t x:=by
 cases t with
 |loc i=>exact kZ (P:=MT S sc _) h fun p q=> .loc q
 |attr o i=>exact at_of (P:=MT S sc _) H h fun y p q=> .attr q
theorem mP(H:∀e x,f e x=true->ME S sc e x){e:IE}{k:Expr->Bool}(h:(av (yg s).tag 0&&(f e (yg s).v&&(bY (yg s).v&&one k (yg s).ts)))=true){P:Stmt->Prop}(hP:∀x t p,ME S sc e x->bY x=true->k t=true->P (.Assign [t] x p)):P s:=by
 have h1:=aD h
 have h2:=aD h1.2
 have h3:=aD h2.2
 obtain⟨t,e4,h4⟩:=cp h3.2
 refine yk h1.1 ?_
 show P (.Assign (yg s).ts (yg s).v _)
 rw[e4]
 exact hP _ _ _ (H _ _ h2.1) h3.1 h4
theorem pg(H:∀e x,f e x=true->ME S sc e x){e:IE}{op:Operator}{b:Bool}(h:(av (yg s).tag 1&&(decide ((yg s).op=op)&&(f e (yg s).v&&b)))=true){P:Stmt->Prop}(hP:∀x p,ME S sc e x->b=true->P (.AugAssign (yg s).t op x p)):P s:=by
 have h1:=aD h
 have h2:=aD h1.2
 have h3:=aD h2.2
 refine yk h1.1 ?_
 show P (.AugAssign (yg s).t (yg s).op (yg s).v _)
 rw[of_decide_eq_true h2.1]
 exact hP _ _ (H _ _ h3.1) h3.2
theorem zz(H:∀e x,f e x=true->ME S sc e x)(n:Nat):∀(i:IS) (s:Stmt),rq S.ck f sc n i s=true->MS S sc i s:=by
 induction n with
 |zero=>exact fun ι ι h=>dL h
 |succ n ih=>
  intro i s h
  have K:=fun{a b} (h:aZ (rq S.ck f sc n) a b=true)=>ac (ih) h
  cases i with
  |asg y e=>exact mP (P:=MS S sc _) H h fun x t p h1 h2 h3=>kZ (P:=fun t=>MS S sc _ (.Assign [t] x p)) h3 fun q h4=> .asg h1 h2 h4
  |asgC y e=>
   exact mP (P:=MS S sc _) H h fun x t p h1 h2 h3=>by
    have h4:=aD h3
    have h5:=aD h4.2
    refine xk (P:=fun t=>MS S sc _ (.Assign [t] x p)) h4.1 ?_
    show MS S sc _ (.Assign [.Name (xg t).s _] x p)
    rw[<-seq_iff.mp h5.1]
    have e5:S.nm y=(xg t).s:=seq_iff.mp h5.1
    exact .asgC h1 h2 (by rw[e5];exact cV h5.2)
  |asgL y v it k=>
   have h1:=aD h
   have h2:=aD h1.2
   obtain⟨t,e3,h3⟩:=cp h2.2
   have h4:=aD h3
   have h5:=aD h4.2
   have hm:=H _ _ h2.1
   have q1:=h5.1
   have q2:=eB h5.2
   refine yk h1.1 ?_
   show MS S sc _ (.Assign (yg s).ts (yg s).v _)
   rw[e3]
   revert q1 q2 hm
   generalize (yg s).v=x
   intro hm q1 q2
   have h6:=aD h4.1
   have h7:=aD h6.2
   have h8:=aD h7.2
   have e7:S.nm y=(xg t).s:=seq_iff.mp h7.1
   refine xk (P:=fun t=>MS S sc _ (.Assign [t] x _)) h6.1 ?_
   show MS S sc _ (.Assign [.Name (xg t).s (xg t).p] x _)
   rw[<-e7]
   revert q1 q2
   apply hm.on
   intro _ _ _ _ _ _ _ a0 a1 a2 a3 q1 q2
   exact .asgL a0 a1 a2 a3 ⟨by rw[e7];exact cV h8.1,eB h8.2⟩ q1 q2
  |asgA o a e=>exact mP (P:=MS S sc _) H h fun x t p h1 h2 h3=>at_of (P:=fun t=>MS S sc _ (.Assign [t] x p)) H h3 fun y q h4=> .asgA h1 h2 h4
  |asgI o i e=>exact mP (P:=MS S sc _) H h fun x t p h1 h2 h3=>yj (P:=fun t=>MS S sc _ (.Assign [t] x p)) H h3 fun y z q h4 h5 h6=> .asgI h1 h2 h4 h5 h6
  |asgT ts e=>
   have h1:=aD h
   have h2:=aD h1.2
   have h3:=aD h2.2
   have h4:=aD h3.2
   obtain⟨t,e5,h5⟩:=cp h4.2
   refine yk h1.1 ?_
   show MS S sc _ (.Assign (yg s).ts (yg s).v _)
   rw[e5]
   exact xk (P:=fun t=>MS S sc _ (.Assign [t] (yg s).v _)) (aD h5).1 (.asgT (H _ _ h2.1) h3.1 h4.1 (ac (fun ι ι=>zw H) (aD h5).2))
  |aug y op e=>exact pg (P:=MS S sc _) H h fun x p h1 h2=>kZ (P:=fun t=>MS S sc _ (.AugAssign t op x p)) (aD h2).1 fun q h3=> .aug h1 h3 (iq (aD h2).2)
  |augA o a op e=>exact pg (P:=MS S sc _) H h fun x p h1 h2=>at_of (P:=fun t=>MS S sc _ (.AugAssign t op x p)) H h2 fun y q h3=> .augA h3 h1
  |augI o i op e=>exact pg (P:=MS S sc _) H h fun x p h1 h2=>yj (P:=fun t=>MS S sc _ (.AugAssign t op x p)) H h2 fun y z q h3 h4 h5=> .augI h3 h4 h5 h1
  |if_ c a b=>exact yk (aD h).1 (.if_ (H _ _ (aD (aD h).2).1) (K (aD (aD (aD h).2).2).1) (K (aD (aD (aD h).2).2).2))
  |while_ c b=>
   have h2:=aD (aD h).2
   refine yk (aD h).1 ?_
   show MS S sc _ (.While (yg s).t (yg s).b (yg s).o _)
   rw[bD (aD h2.2).2]
   exact .while_ (H _ _ h2.1) (K (aD h2.2).1)
  |for_ v it b=>
   have h2:=aD (aD h).2
   have h3:=aD h2.2
   have h4:=aD h3.2
   have h5:=aD h4.2
   refine yk (aD h).1 ?_
   show MS S sc _ (.For (yg s).t (yg s).v (yg s).b (yg s).o _)
   rw[bD h5.2]
   exact kZ (P:=fun t=>MS S sc _ (.For t (yg s).v (yg s).b [] _)) h5.1 fun q h6=> .for_ (H _ _ h2.1) h3.1 (K h4.1) h6
  |forR v it b=>
   have h2:=aD (aD h).2
   have h3:=aD h2.2
   have h4:=aD h3.2
   have h5:=aD h4.2
   have h6:=aD h5.2
   have h7:=aD h6.2
   have h8:=aD h7.2
   obtain⟨y,e9,h9⟩:=cp h6.1
   refine yk (aD h).1 ?_
   show MS S sc _ (.For (yg s).t (yg s).v (yg s).b (yg s).o _)
   rw[bD h8.2]
   refine kZ (P:=fun t=>MS S sc _ (.For t (yg s).v (yg s).b [] _)) h8.1 fun q h10=>?_
   refine xk (P:=fun t=>MS S sc _ (.For (.Name (S.nm v) q) t (yg s).b [] _)) h3.1 ?_
   show MS S sc _ (.For (.Name (S.nm v) q) (.Call (xg (yg s).v).a (xg (yg s).v).xs (xg (yg s).v).kw _) (yg s).b [] _)
   rw[bD h4.1,e9]
   exact kI (P:=fun t=>MS S sc _ (.For (.Name (S.nm v) q) (.Call t [y] [] _) (yg s).b [] _)) h5.1 fun r=> .forR (fV h2.1) (H _ _ h9) (K h7.1) h10
  |ret e=>
   obtain⟨y,e2,h2⟩:=b9 (aD h).2
   refine yk (aD h).1 ?_
   show MS S sc _ (.Return (yg s).r _)
   rw[e2]
   exact .ret (H _ _ h2)
  |ret0=>
   refine yk (aD h).1 ?_
   show MS S sc _ (.Return (yg s).r _)
   rw[pt.mp (aD h).2]
   exact .ret0
  |raise e=>
   have h2:=aD (aD h).2
   obtain⟨y,e3,h3⟩:=b9 h2.1
   refine yk (aD h).1 ?_
   show MS S sc _ (.Raise (yg s).r (yg s).c _)
   rw[e3,pt.mp h2.2]
   exact .raise (H _ _ h3)
  |raiseN v=>
   have h2:=aD (aD h).2
   have h4:=aD h2.2
   obtain⟨y,e3,h3⟩:=b9 h2.1
   refine yk (aD h).1 ?_
   show MS S sc _ (.Raise (yg s).r (yg s).c _)
   rw[e3,pt.mp h4.1]
   exact kZ (P:=fun t=>MS S sc _ (.Raise (some t) none _)) h3 fun q h5=> .raiseN h5 (iq h4.2)
  |try_ b C v hh=>
   have h2:=aD (aD h).2
   have h3:=aD h2.2
   have h4:=aD h3.2
   obtain⟨⟨t,m,l,q⟩,e5,h5⟩:=cp h3.1
   have h6:=aD h5
   have h7:=aD h6.2
   have h8:=aD h7.2
   have h9:=aD h8.2
   obtain⟨x,rfl,q6⟩:=b9 h6.1
   obtain⟨y,rfl,q7⟩:=b9 h7.1
   refine yk (aD h).1 ?_
   show MS S sc _ (.Try (yg s).b (yg s).h (yg s).o (yg s).f _)
   rw[e5,bD h4.1,bD h4.2,<-seq_iff.mp (aD q7).1]
   cases l with
   |nil=>exact dL h9.1
   |cons hd z=>
    have g:=aD q6
    have g2:=aD g.2
    refine nM (P:=fun x=>MS S sc _ (.Try (yg s).b [.ExceptHandler (some x) (some (S.nm v)) (hd::z) q] [] [] _)) g.1 fun p e k1 k2=>?_
    exact .try_ (K h2.1) ⟨k1,k2,by rw[e];exact of_decide_eq_true g2.1,h9.2⟩ ⟨by rw[show S.nm v=y from seq_iff.mp (aD q7).1];exact cV (aD (aD q7).2).1,eB (aD (aD q7).2).2⟩ (K h8.1)
  |expr e=>exact yk (aD h).1 (.expr (H _ _ (aD (aD h).2).1) (aD (aD h).2).2)
  |pass=>exact yk h .pass
  |bad=>exact .bad
  |_=>exact dL h
end
end Mine
end
section
open PySem PySem.W PyProof.Rows
namespace MH
noncomputable abbrev PW:Program:=PySem.Challenge.pw_pq0369_01
noncomputable def z(x:String):Str:=ag x
noncomputable def s(x:String)(t:Nat):Value:= .str (ag x) t
noncomputable def r(a:Nat):Value:= .ref a
noncomputable def e(P:pc)(x:String)(t:Nat)(v:Value):DictEntry:=⟨Hl P (ag x),.str (ag x) t,v⟩
noncomputable def tu(xs:List Value):Obj:=⟨.type "tuple",none,.seq ⟨xs⟩ 0,⟨[]⟩⟩
noncomputable def li(xs:List Value)(n:Nat):Obj:=⟨.type "list",none,.seq ⟨xs⟩ n,⟨[]⟩⟩
noncomputable def fl(c:Value)(xs:List Value):Obj:=⟨c,none,.fields ⟨xs⟩,⟨[]⟩⟩
noncomputable def co(n qn:String)(t ln a fg x8:Nat)(b:Bool)(u x11:Nat)(v12 v13 v14 v15:Value)(id t4:Nat):Obj:=
 ⟨.type "code",none,.fields ⟨[s n t,s qn (t+1),s "/claim/cut.py" (t+2),.int ln 0,.int a 0,.int 0 0,.int 0 0,.int fg 0,.ref x8,.bool b,.int u 0,.ref x11,v12,v13,v14,v15,.int id 0,.int ln 0,s "/claim/cut.py" t4]⟩,⟨[]⟩⟩
noncomputable def di(c:Value)(es:List DictEntry)(n:Nat):Obj:=⟨c,none,.dict ⟨es⟩ n,⟨[]⟩⟩
noncomputable def pl(c:Value)(d:Option Addr)(sl:List (Option Value)):Obj:=⟨c,d,.plain,⟨sl⟩⟩
noncomputable def st(i:Nat):Stmt:=(PW.main.body[i]?).getD (.Pass ⟨0,0,0,0⟩)
noncomputable def me(i j:Nat):Stmt:=match st i with| .ClassDef _ _ _ b _ _ _ _ _ _ _=>(b[j]?).getD (.Pass ⟨0,0,0,0⟩)|x=>x
noncomputable def fA:Stmt->Arguments| .FunctionDef _ a _ _ _ _ _ _ _ _=>a|_=>default
noncomputable def fB:Stmt->List Stmt| .FunctionDef _ _ b _ _ _ _ _ _ _=>b|_=> []
noncomputable def fS:Stmt->Scope| .FunctionDef _ _ _ _ _ _ c _ _ _=>c|_=>default
noncomputable def sk(n qn:String)(d:Stmt):Obj:=⟨.none,none,.func ⟨z n,z qn,fA d,.stmts (fB d),fS d,0,[],.none,.none,.none,.none,none,.none,.none,0⟩,⟨[]⟩⟩
noncomputable def fn(n qn:String)(d:Stmt)(df md cd:Value):Obj:=⟨.type "function",none,.func ⟨z n,z qn,fA d,.stmts (fB d),fS d,3,[],df,.none,.none,md,none,cd,.none,0⟩,⟨[]⟩⟩
noncomputable def cl(n qn:String)(bs mr:List Value)(ns:Nat)(hd:Bool)(sub:List Value)(sl:List (Option Value)):Obj:=⟨.type "type",none,.cls ⟨z n,bs,mr,ns,z qn,hd,[],sub,false,none,false⟩,⟨sl⟩⟩
noncomputable def GJ:List Obj->List Obj|a::_::l=>a::GJ l| [a]=> [a]| []=> []
noncomputable def GT:List Obj->List Obj|_::b::l=>b::GT l|_=> []
noncomputable def bt:Nat->List Obj->BT
 |f+1,o::l=> .node o (bt f (GJ l)) (bt f (GT l))
 |_,_=> .nil
noncomputable def putAt:Nat->Obj->List Obj->List Obj
 |0,o,_::l=>o::l
 |n+1,o,a::l=>a::putAt n o l
 |_,_,[]=> []
noncomputable def EN:Env:={scope:=PW.main.scope,locals:=mainNs,globals:=mainNs,cells:= [],code:= .ref 13,frame:=some 14}
noncomputable def BD:List Stmt:=behindTheImports PW
noncomputable def CD:Code:= .body BD EN
noncomputable def sts(a m:Nat):List Stmt:=(BD.drop a).take m
noncomputable def po(a b c d:Nat):Pos:=⟨a,b,c,d⟩
noncomputable def sh(P:pc->BT)(n tk:Nat)(w:World)(os:OsState):SharedT:=⟨P w.params,n,{},⟨[]⟩,{},tk,os⟩
noncomputable def ss:Nat->List String->List Value
 |_,[]=> []
 |t,x::l=>s x t::ss (t+1) l
noncomputable def iE(b:Int):List Nat->List Value
 |l::a::r=> .int l 0:: .int b 0:: .ref a::iE b r
 |_=> []
noncomputable def pp:Obj:=fl (.type "builtin_function_or_method") [.builtin "type.__prepare__",.type "type"]
noncomputable def su(a:Nat):Obj:=fl (.type "super") [r a,r a,r a]
noncomputable def ii(a:Nat):Obj:=fl (.type "builtin_function_or_method") [.builtin "object.__init_subclass__",r a]
noncomputable def gd(t a:Nat):Obj:=fl (.type "getset_descriptor") [s "__dict__" t,r a,.builtin "function.__dict__",.builtin "function.__dict__#set"]
noncomputable def gw(t a:Nat):Obj:=fl (.type "getset_descriptor") [s "__weakref__" t,r a,.builtin "ExceptionGroup.__weakref__",.none]
noncomputable def fr(a b:Nat)(m:Value):Obj:=pl (.type "frame") none [some (r a),some (r 3),some (r b),none,some m,none,some (r 0)]
noncomputable def cc(n:String)(t l k:Nat):Obj:=co n n t l 0 0 k false 181 (k+1) .none .none .none .none (t+3) (t+4)
noncomputable def kl(n:String)(a t u:Nat):Obj:=cl n n [.type "object"] [r a,.type "object"] (a-1) true [] [none,none,some (s n t),some (s n u),some (.builtin "object.__new__"),some (.bool true)]
noncomputable def er(P:pc)(x:String)(t a:Nat):DictEntry:=e P x t (r a)
noncomputable def eM(P:pc)(t:Nat)(m:Value):DictEntry:=e P "__module__" t m
noncomputable def eQ(P:pc)(t:Nat)(x:String):DictEntry:=e P "__qualname__" t (s x (t-1))
noncomputable def eF(P:pc)(t:Nat)(l:Int):DictEntry:=e P "__firstlineno__" t (.int l (t-1))
noncomputable def f7(m:Value)(k:Nat)(n q:String)(d:Stmt)(t l a g:Nat)(v:List String)(y:List Obj)(df:Value:= .none):List Obj:=
 tu []::fl .none []::tu (ss (t+3) v)::tu []::sk n q d::co n q t l a g k true 181 (k+1) .none (r (k+2)) (r (k+3)) (r (k+4)) (t+3+v.length) (t+4+v.length)::fn n q d df m (r (k+5))::y
noncomputable def f5(m:Value)(k:Nat)(n q:String)(d:Stmt)(t l a g w:Nat)(y:List Obj)(df:Value:= .none):List Obj:=
 tu []::fl .none []::sk n q d::co n q t l a g k true 181 (k+1) .none .none .none (r (k+2)) (t+w) (t+w+1)::fn n q d df m (r (k+3))::y
noncomputable def o1(o:Obj)(y:List Obj):List Obj:=o::y
noncomputable def g7(m:Value)(k:Nat)(n:String)(i t l a g:Nat)(v:List String)(y:List Obj):List Obj:=f7 m k n n (st i) t l a g v y
noncomputable def m0:Value:=s "__main__" 164
noncomputable def m1:Value:=s "f77.errors" 194
noncomputable def m2:Value:=s "f77.kinds" 358
noncomputable def m3:Value:=s "f77.memory" 377
noncomputable def m4:Value:=s "f77.plainexpr" 581
noncomputable def m5:Value:=s "f77.ints" 707
noncomputable def m6:Value:=s "f77.reals" 718
noncomputable def m7:Value:=s "f77.counts" 730
noncomputable def m8:Value:=s "f77.flow" 754
noncomputable def m9:Value:=s "f77.plainstmt" 845
noncomputable def sf:Value:=s "f77.plainlists" 898
noncomputable def lU:Value:=s "f77.files" 1014
noncomputable def dA:Value:=s "f77.fmtrun" 1175
noncomputable def Cw:Value:=s "f77.world" 1541
noncomputable def gH:Value:=s "f77.transfer" 1585
noncomputable def ud:Value:=s "f77.plainio" 1829
noncomputable def EC:Value:=s "f77.limits" 1942
noncomputable def EB:Value:=s "f77.trees" 1995
noncomputable def se:Value:=s "law_pq0369_01" 2040
noncomputable def bo(P:pc)(y:List Obj):List Obj:=boot_o_0 P::boot_o_1 P::boot_o_2 P::boot_o_3 P::boot_o_4 P::boot_o_5 P::boot_o_6 P::boot_o_7 P::boot_o_8 P::boot_o_9 P::boot_o_10 P::y
noncomputable def LN:List Value:=iE 0 [1,20,5,27,10,47,12,59,14,71,19,90,24,109,28,128,39,147,48,154,67,196,70,203,75,210,83,217,92,224,98,231,102,238,104,245,108,252,115,259,129,266,135,271,142,278,147,285,154,292,173,313,177,320,182,327,186,334,190,339,197,346,199,353,201,360,203,367,208,374,214,381,221,388,225,395,235,402,243,423,249,430,265,437,269,444,278,451,300,458,304,465,308,472,313,479,315,486,317,493,323,500,331,521,339,528,345,535,390,570,394,591,398,598,401,605,404,612,413,619,418,626,422,633,429,640,435,647,445,654,452,682,465,690,476,697,484,704,533,746,551,774,558,781,575,816,611,858,652,907,664,935,673,956,681,963,688,991,697,1019,699,1026,703,1033,706,1040,709,1047,711,1054,718,1061,730,1096,739,1103,755,1110,765,1117,769,1124,772,1131,774,1138,782,1143,789,1150,793,1155,804,1162,817,1169,824,1176,828,1183,851,1190,855,1197,858,1204,880,1211,883,1218,895,1240,915,1265,920,1272,924,1279,939,1286,943,1293,947,1300,953,1305,967,1312,976,1319,980,1326,1008,1333,1015,1338]
noncomputable def DM(P:pc):List DictEntry:= [e P "__doc__" 166 .none,e P "__package__" 167 .none,e P "__loader__" 168 (.builtin "__main__.__loader__#opaque"),e P "__spec__" 169 .none,er P "__annotations__" 170 6,er P "__builtins__" 171 4,e P "__file__" 173 (s "/claim/cut.py" 172),e P "__cached__" 174 .none,er P "_wall" 193 21,er P "F77Error" 224 38,er P "CheckFault" 240 51,er P "RunFault" 256 63,er P "FormatFault" 282 82,er P "IoFault" 308 101,er P "EndFault" 332 120,er P "TooLong" 357 139,e P "INTEGER" 361 (.int 0 360),e P "REAL" 363 (.int 1 362),e P "DOUBLE" 365 (.int 2 364),e P "COMPLEX" 367 (.int 3 366),e P "CHARACTER" 369 (.int 5 368),er P "units_of" 376 148,e P "SECOND" 380 (.int 6 379),e P "LABEL" 382 (.int 7 381),er P "Memory" 438 186,er P "need_units" 447 197,er P "read_cell" 457 204,er P "load_number" 467 211,er P "store_number" 477 218,er P "load_text" 487 225,er P "store_text" 497 232,er P "pad" 505 239,er P "unit_size" 513 246,er P "extent" 523 253,er P "element_place" 540 260,er P "sub_place" 551 267,er P "elements_of" 557 272,er P "held_elements" 568 279,er P "span_of" 580 286,er P "Run" 631 303,er P "evaluate" 639 314,er P "named_place" 648 321,er P "bound_of" 656 328,er P "part_place" 666 335,er P "place_of" 672 340,er P "has_place" 679 347,er P "eval_const" 687 354,er P "eval_place" 695 361,er P "reckon" 706 368,er P "fit_int" 717 375,er P "real_to_int" 729 382,er P "is_zero" 738 389,er P "trip_count" 753 396,er P "Flow" 787 413,er P "note_label" 796 424,er P "note_arm" 810 431,er P "open_arm" 817 438,er P "note_ends" 831 445,er P "flow_of" 844 452,er P "flow_for" 854 459,er P "count_step" 861 466,er P "jump_to" 871 473,er P "store_value" 880 480,er P "label_place" 888 487,er P "label_in" 897 494,er P "Level" 935 511,er P "begin_loop" 953 522,er P "end_round" 962 529,er P "ListWalk" 1013 560,e P "NOT_CONNECTED" 1017 (.int 11 1016),e P "WRONG_SORT" 1019 (.int 16 1018),e P "BEHIND_END" 1021 (.int 17 1020),e P "NO_RECORD" 1023 (.int 18 1022),e P "TOO_LONG" 1025 (.int 19 1024),er P "Store" 1053 581,er P "unit_of" 1061 592,er P "need_access" 1069 599,er P "need_form" 1077 606,er P "read_record" 1085 613,er P "cut_file" 1092 620,er P "write_record" 1100 627,er P "size_of" 1110 634,er P "read_direct" 1118 641,er P "write_direct" 1127 648,er P "UnitSource" 1163 672,er P "fit_internal" 1174 683,er P "DATA_WORDS" 1184 684,e P "MOST_IDLE" 1188 (.int 100000 1187),e P "MOST_LINE" 1192 (.int 100000 1191),er P "add_flat" 1204 691,er P "flat_of" 1214 698,er P "FormatControl" 1273 736,er P "FormatModes" 1313 764,er P "moved" 1322 775,er P "Line" 1367 806,er P "FormatWriter" 1427 848,er P "FormatReader" 1503 897,er P "ListSource" 1540 925,er P "World" 1577 946,er P "next_input" 1584 957,e P "INPUT_UNIT" 1588 (.int 5 1587),e P "OUTPUT_UNIT" 1590 (.int 6 1589),er P "InputSource" 1626 981,er P "DirectSource" 1664 1009,er P "is_internal" 1671 1020,er P "unit_for" 1680 1027,er P "is_standard" 1690 1034,er P "refuse_number" 1697 1041,er P "format_text" 1704 1048,er P "maker_of" 1714 1055,er P "Writing" 1763 1086,er P "begin_write" 1772 1097,er P "deliver" 1785 1104,er P "source_of" 1794 1111,er P "is_blank_zero" 1802 1118,er P "begin_read" 1812 1125,er P "iostat_of" 1819 1132,er P "outcome" 1828 1139,er P "unit_value" 1836 1144,er P "format_at" 1844 1151,er P "format_value" 1850 1156,er P "control_values" 1863 1163,er P "settle" 1875 1170,er P "done" 1884 1177,er P "do_read" 1900 1184,er P "item_value" 1908 1191,er P "store_internal" 1918 1198,er P "do_write" 1935 1205,er P "transfer_statements" 1941 1212,er P "Limits" 1994 1230,er P "UnitTree" 2039 1251,er P "_law_fields" 2047 1256,er P "_law_tree" 2052 1259,er P "_law_spin" 2060 1266,er P "_law_node" 2067 1273,er P "_law_deed" 2079 1280,er P "_law_edit" 2090 1287,er P "_law_field" 2103 1294,er P "_law_ask" 2111 1301,er P "_law_run" 2117 1306,er P "_law_heard" 2128 1313,er P "_law_told" 2135 1320,er P "_law_moved" 2151 1327,er P "_law_due" 2160 1334,er P "law" 2166 1339]
noncomputable def dm(P:pc)(n:Nat)(v:Value):Obj:=di (.type "dict") (e P "__name__" 165 v::(DM P).take (n-1)) n
noncomputable def L0(P:pc):List Obj:=o1 (tu [])<|
 o1 (fl .none LN)<|
 o1 (cc "<module>" 182 1 11)<|
 o1 (fr 13 3 m0)<| []
noncomputable def T0(P:pc):BT:=bt 12 (putAt 12 (fl .none (LN.take 0)) (putAt 3 (dm P 9 (s "__main__" 164)) (putAt 2 (di .none [] 0) (bo P<|(L0 P)))))
noncomputable def L1(P:pc):List Obj:=g7 m0 15 "_wall" 0 187 1 1 3 ["k"]<|
 o1 (tu [.type "Exception"])<|
 o1 pp<|
 o1 (di (.type "dict") [eM P 203 m1,eQ P 205 "F77Error",eF P 207 5,er P "__init__" 215 35,er P "__static_attributes__" 217 36] 5)<|
 o1 (tu [])<|
 o1 (fl .none (iE 4 [7,34]))<|
 o1 (cc "F77Error" 198 5 25)<|
 o1 (fr 27 24 m1)<|
 f7 m1 29 "__init__" "F77Error.__init__" (me 2 0) 208 7 2 3 ["self","text"]<|
 o1 (tu (ss 216 ["text"]))<|
 o1 (di (.type "dict") [eM P 203 m1,eF P 207 5,er P "__init__" 215 35,er P "__static_attributes__" 217 36,er P "__weakref__" 219 39,e P "__doc__" 220 .none] 3)<|
 o1 (cl "F77Error" "F77Error" [.type "Exception"] [r 38,.type "Exception",.type "BaseException",.type "object"] 37 true [r 51,r 63,r 82,r 101,r 139] [some (r 22),none,some (s "F77Error" 196),some (s "F77Error" 204),some (.builtin "Exception.__new__"),some (.bool true)])<|
 o1 (gw 218 38)<|
 o1 (su 38)<|
 o1 (ii 38)<|
 o1 (tu [r 38])<|
 o1 pp<|
 o1 (di (.type "dict") [eM P 232 m1,eQ P 234 "CheckFault",eF P 236 10,er P "__static_attributes__" 237 49] 4)<|
 o1 (tu [])<|
 o1 (fl .none [])<|
 o1 (cc "CheckFault" 227 10 45)<|
 o1 (fr 47 44 m1)<|
 o1 (tu [])<|
 o1 (di (.type "dict") [eM P 232 m1,eF P 236 10,er P "__static_attributes__" 237 49,e P "__doc__" 238 .none] 2)<|
 o1 (cl "CheckFault" "CheckFault" [r 38] [r 51,r 38,.type "Exception",.type "BaseException",.type "object"] 50 true [] [some (r 42),none,some (s "CheckFault" 225),some (s "CheckFault" 233),some (.builtin "Exception.__new__"),some (.bool true)])<|
 o1 (su 51)<|
 o1 (ii 51)<|
 o1 (tu [r 38])<|
 o1 pp<|
 o1 (di (.type "dict") [eM P 248 m1,eQ P 250 "RunFault",eF P 252 12,er P "__static_attributes__" 253 61] 4)<|
 o1 (tu [])<|
 o1 (fl .none [])<|
 o1 (cc "RunFault" 243 12 57)<|
 o1 (fr 59 56 m1)<|
 o1 (tu [])<|
 o1 (di (.type "dict") [eM P 248 m1,eF P 252 12,er P "__static_attributes__" 253 61,e P "__doc__" 254 .none] 2)<|
 o1 (cl "RunFault" "RunFault" [r 38] [r 63,r 38,.type "Exception",.type "BaseException",.type "object"] 62 true [] [some (r 54),none,some (s "RunFault" 241),some (s "RunFault" 249),some (.builtin "Exception.__new__"),some (.bool true)])<|
 o1 (su 63)<|
 o1 (ii 63)<|
 o1 (tu [r 38])<|
 o1 pp<|
 o1 (di (.type "dict") [eM P 264 m1,eQ P 266 "FormatFault",eF P 268 14,er P "__init__" 277 79,er P "__static_attributes__" 279 80] 5)<|
 o1 (tu [])<|
 o1 (fl .none (iE 4 [16,78]))<|
 o1 (cc "FormatFault" 259 14 69)<|
 o1 (fr 71 68 m1)<|
 f7 m1 73 "__init__" "FormatFault.__init__" (me 5 0) 269 16 3 3 ["self","at","text"]<|
 o1 (tu (ss 278 ["at"]))<|
 o1 (di (.type "dict") [eM P 264 m1,eF P 268 14,er P "__init__" 277 79,er P "__static_attributes__" 279 80,e P "__doc__" 280 .none] 2)<|
 o1 (cl "FormatFault" "FormatFault" [r 38] [r 82,r 38,.type "Exception",.type "BaseException",.type "object"] 81 true [] [some (r 66),none,some (s "FormatFault" 257),some (s "FormatFault" 265),some (.builtin "Exception.__new__"),some (.bool true)])<|
 o1 (su 82)<|
 o1 (ii 82)<|
 o1 (tu [r 38])<|
 o1 pp<|
 o1 (di (.type "dict") [eM P 290 m1,eQ P 292 "IoFault",eF P 294 19,er P "__init__" 303 98,er P "__static_attributes__" 305 99] 5)<|
 o1 (tu [])<|
 o1 (fl .none (iE 4 [21,97]))<|
 o1 (cc "IoFault" 285 19 88)<|
 o1 (fr 90 87 m1)<|
 f7 m1 92 "__init__" "IoFault.__init__" (me 6 0) 295 21 3 3 ["self","code","text"]<|
 o1 (tu (ss 304 ["code"]))<|
 o1 (di (.type "dict") [eM P 290 m1,eF P 294 19,er P "__init__" 303 98,er P "__static_attributes__" 305 99,e P "__doc__" 306 .none] 2)<|
 o1 (cl "IoFault" "IoFault" [r 38] [r 101,r 38,.type "Exception",.type "BaseException",.type "object"] 100 true [r 120] [some (r 85),none,some (s "IoFault" 283),some (s "IoFault" 291),some (.builtin "Exception.__new__"),some (.bool true)])<|
 o1 (su 101)<|
 o1 (ii 101)<| []
noncomputable def T1(P:pc):BT:=bt 12 (putAt 101 (cl "IoFault" "IoFault" [r 38] [r 101,r 38,.type "Exception",.type "BaseException",.type "object"] 100 true [] [some (r 85),none,some (s "IoFault" 283),some (s "IoFault" 291),some (.builtin "Exception.__new__"),some (.bool true)]) (putAt 38 (cl "F77Error" "F77Error" [.type "Exception"] [r 38,.type "Exception",.type "BaseException",.type "object"] 37 true [r 51,r 63,r 82,r 101] [some (r 22),none,some (s "F77Error" 196),some (s "F77Error" 204),some (.builtin "Exception.__new__"),some (.bool true)]) (putAt 12 (fl .none (LN.take 18)) (putAt 3 (dm P 15 (s "f77.errors" 194)) (putAt 2 (di .none [e P "type.__subclasses__.Exception.0" 221 (.int 38 0),e P "type.__subclasses__.Exception.n" 222 (.int 1 0)] 2) (bo P<|(L0 P++L1 P)))))))
noncomputable def L2(P:pc):List Obj:=o1 (tu [r 101])<|
 o1 pp<|
 o1 (di (.type "dict") [eM P 316 m1,eQ P 318 "EndFault",eF P 320 24,er P "__init__" 328 117,er P "__static_attributes__" 329 118] 5)<|
 o1 (tu [])<|
 o1 (fl .none (iE 4 [26,116]))<|
 o1 (cc "EndFault" 311 24 107)<|
 o1 (fr 109 106 m1)<|
 f7 m1 111 "__init__" "EndFault.__init__" (me 7 0) 321 26 2 3 ["self","text"]<|
 o1 (tu [])<|
 o1 (di (.type "dict") [eM P 316 m1,eF P 320 24,er P "__init__" 328 117,er P "__static_attributes__" 329 118,e P "__doc__" 330 .none] 2)<|
 o1 (cl "EndFault" "EndFault" [r 101] [r 120,r 101,r 38,.type "Exception",.type "BaseException",.type "object"] 119 true [] [some (r 104),none,some (s "EndFault" 309),some (s "EndFault" 317),some (.builtin "Exception.__new__"),some (.bool true)])<|
 o1 (su 120)<|
 o1 (ii 120)<|
 o1 (tu [r 38])<|
 o1 pp<|
 o1 (di (.type "dict") [eM P 340 m1,eQ P 342 "TooLong",eF P 344 28,er P "__init__" 352 136,er P "__static_attributes__" 354 137] 5)<|
 o1 (tu [])<|
 o1 (fl .none (iE 4 [30,135]))<|
 o1 (cc "TooLong" 335 28 126)<|
 o1 (fr 128 125 m1)<|
 f7 m1 130 "__init__" "TooLong.__init__" (me 8 0) 345 30 2 3 ["self","steps"]<|
 o1 (tu (ss 353 ["steps"]))<|
 o1 (di (.type "dict") [eM P 340 m1,eF P 344 28,er P "__init__" 352 136,er P "__static_attributes__" 354 137,e P "__doc__" 355 .none] 2)<|
 o1 (cl "TooLong" "TooLong" [r 38] [r 139,r 38,.type "Exception",.type "BaseException",.type "object"] 138 true [] [some (r 123),none,some (s "TooLong" 333),some (s "TooLong" 341),some (.builtin "Exception.__new__"),some (.bool true)])<|
 o1 (su 139)<|
 o1 (ii 139)<|
 g7 m2 142 "units_of" 15 370 39 1 3 ["kind"]<|
 o1 (tu [])<|
 o1 pp<|
 o1 (di (.type "dict") [eM P 390 m3,eQ P 392 "Memory",eF P 394 48,er P "__init__" 403 162,er P "load" 411 169,er P "store" 420 176,er P "undefine" 428 183,er P "__static_attributes__" 431 184] 8)<|
 o1 (tu [])<|
 o1 (fl .none (iE 4 [50,161,54,168,59,175,65,182]))<|
 o1 (cc "Memory" 385 48 152)<|
 o1 (fr 154 151 m3)<|
 f7 m3 156 "__init__" "Memory.__init__" (me 19 0) 395 50 3 3 ["self","numeric","characters"]<|
 f7 m3 163 "load" "Memory.load" (me 19 1) 404 54 2 3 ["self","place"]<|
 f7 m3 170 "store" "Memory.store" (me 19 2) 412 59 3 3 ["self","place","value"]<|
 f7 m3 177 "undefine" "Memory.undefine" (me 19 3) 421 65 2 3 ["self","place"]<|
 o1 (tu (ss 429 ["characters","numeric"]))<|
 o1 (di (.type "dict") [eM P 390 m3,eF P 394 48,er P "__init__" 403 162,er P "load" 411 169,er P "store" 420 176,er P "undefine" 428 183,er P "__static_attributes__" 431 184,er P "__dict__" 433 187,er P "__weakref__" 435 188,e P "__doc__" 436 .none] 4)<|
 o1 (kl "Memory" 186 383 391)<|
 o1 (gd 432 186)<|
 o1 (gw 434 186)<|
 o1 (su 186)<|
 o1 (ii 186)<|
 g7 m3 191 "need_units" 20 439 67 3 3 ["cells","address","count"]<|
 g7 m3 198 "read_cell" 21 448 70 3 3 ["cells","address","tag","cell"]<|
 g7 m3 205 "load_number" 22 458 75 3 3 ["cells","kind","address","value"]<|
 g7 m3 212 "store_number" 23 468 83 4 3 ["cells","kind","address","value"]<|
 g7 m3 219 "load_text" 24 478 92 3 3 ["cells","address","length","signs"]<|
 g7 m3 226 "store_text" 25 488 98 3 3 ["cells","address","text","k"]<|
 g7 m3 233 "pad" 26 498 102 2 3 ["text","length"]<|
 g7 m3 240 "unit_size" 27 506 104 2 3 ["kind","length"]<| []
noncomputable def T2(P:pc):BT:=bt 12 (putAt 12 (fl .none (LN.take 54)) (putAt 3 (dm P 34 (s "f77.memory" 377)) (putAt 2 (di .none [e P "type.__subclasses__.Exception.0" 221 (.int 38 0),e P "type.__subclasses__.Exception.n" 222 (.int 1 0)] 2) (bo P<|(L0 P++L1 P++L2 P)))))
noncomputable def L3(P:pc):List Obj:=g7 m3 247 "extent" 28 514 108 1 3 ["dims","count","low","high"]<|
 g7 m3 254 "element_place" 29 524 115 2 3 ["place","subscripts","kind","address","length","dims","offset","stride","k","low","high"]<|
 g7 m3 261 "sub_place" 30 541 129 3 3 ["place","lo","hi","first","last"]<|
 f5 m3 268 "elements_of" "elements_of" (st 31) 552 135 1 3 3<|
 g7 m3 273 "held_elements" 32 558 142 2 3 ["memory","place","is_character","low","high"]<|
 g7 m3 280 "span_of" 33 569 147 1 3 ["place","kind","address","length","dims","count"]<|
 o1 (tu [])<|
 o1 pp<|
 o1 (di (.type "dict") [eM P 590 m4,eQ P 592 "Run",eF P 594 154,er P "__init__" 607 300,er P "__static_attributes__" 624 301] 5)<|
 o1 (tu [])<|
 o1 (fl .none (iE 4 [156,299]))<|
 o1 (cc "Run" 585 154 290)<|
 o1 (fr 292 289 m4)<|
 f7 m4 294 "__init__" "Run.__init__" (me 35 0) 595 156 7 3 ["self","memory","limits","units","world","expressions","statements"]<|
 o1 (tu (ss 608 ["active","clears","depth","expressions","flows","frame","library","limits","loops","memory","operations","places","statements","steps","units","world"]))<|
 o1 (di (.type "dict") [eM P 590 m4,eF P 594 154,er P "__init__" 607 300,er P "__static_attributes__" 624 301,er P "__dict__" 626 304,er P "__weakref__" 628 305,e P "__doc__" 629 .none] 4)<|
 o1 (kl "Run" 303 583 591)<|
 o1 (gd 625 303)<|
 o1 (gw 627 303)<|
 o1 (su 303)<|
 o1 (ii 303)<|
 g7 m4 308 "evaluate" 36 632 173 2 3 ["run","tree"]<|
 g7 m4 315 "named_place" 37 640 177 2 3 ["run","name","found"]<|
 g7 m4 322 "bound_of" 38 649 182 2 3 ["run","tree"]<|
 g7 m4 329 "part_place" 39 657 186 2 3 ["run","tree","base","low"]<|
 f5 m4 336 "place_of" "place_of" (st 40) 667 190 2 3 3<|
 g7 m4 341 "has_place" 41 673 197 1 3 ["tree"]<|
 g7 m4 348 "eval_const" 42 680 199 2 3 ["run","tree"]<|
 g7 m4 355 "eval_place" 43 688 201 2 3 ["run","tree"]<|
 g7 m4 362 "reckon" 44 696 203 5 3 ["run","word","kind","left","right"]<|
 g7 m5 369 "fit_int" 46 709 208 2 3 ["n","width","most"]<|
 g7 m6 376 "real_to_int" 48 720 214 1 3 ["x","m","e","found"]<|
 g7 m7 383 "is_zero" 50 732 221 1 3 ["value"]<|
 g7 m7 390 "trip_count" 51 739 225 6 3 ["kind","first","last","step","operations","limits","reckon","span","count"]<|
 o1 (tu [])<|
 o1 pp<|
 o1 (di (.type "dict") [eM P 763 m8,eQ P 765 "Flow",eF P 767 235,er P "__init__" 774 410,er P "__static_attributes__" 780 411] 5)<|
 o1 (tu [])<|
 o1 (fl .none (iE 4 [237,409]))<|
 o1 (cc "Flow" 758 235 400)<|
 o1 (fr 402 399 m8)<|
 f7 m8 404 "__init__" "Flow.__init__" (me 53 0) 768 237 1 3 ["self"]<|
 o1 (tu (ss 775 ["block_end","do_end","ending","labels","next_arm"]))<|
 o1 (di (.type "dict") [eM P 763 m8,eF P 767 235,er P "__init__" 774 410,er P "__static_attributes__" 780 411,er P "__dict__" 782 414,er P "__weakref__" 784 415,e P "__doc__" 785 .none] 4)<|
 o1 (kl "Flow" 413 756 764)<|
 o1 (gd 781 413)<|
 o1 (gw 783 413)<|
 o1 (su 413)<|
 o1 (ii 413)<|
 g7 m8 418 "note_label" 54 788 243 3 3 ["flow","label","at"]<|
 g7 m8 425 "note_arm" 55 797 249 5 3 ["flow","blocks","word","at","statements","arms","last","arm"]<|
 g7 m8 432 "open_arm" 56 811 265 1 3 ["blocks"]<|
 g7 m8 439 "note_ends" 57 818 269 5 3 ["flow","loops","blocks","label","at","target","start","arm"]<|
 g7 m8 446 "flow_of" 58 832 278 1 3 ["statements","flow","blocks","loops","at","label","stmt"]<|
 g7 m9 453 "flow_for" 60 847 300 2 3 ["run","unit"]<|
 g7 m9 460 "count_step" 61 855 304 1 3 ["run"]<|
 g7 m9 467 "jump_to" 62 862 308 3 3 ["run","unit","label","flow"]<|
 g7 m9 474 "store_value" 63 872 313 3 3 ["run","target","value"]<|
 g7 m9 481 "label_place" 64 881 315 2 3 ["run","name"]<|
 g7 m9 488 "label_in" 65 889 317 2 3 ["run","name","cell"]<| []
noncomputable def T3(P:pc):BT:=bt 12 (putAt 12 (fl .none (LN.take 150)) (putAt 3 (dm P 66 (s "f77.plainstmt" 845)) (putAt 2 (di .none [e P "type.__subclasses__.Exception.0" 221 (.int 38 0),e P "type.__subclasses__.Exception.n" 222 (.int 1 0)] 2) (bo P<|(L0 P++L1 P++L2 P++L3 P)))))
noncomputable def L4(P:pc):List Obj:=o1 (tu [])<|
 o1 pp<|
 o1 (di (.type "dict") [eM P 907 sf,eQ P 909 "Level",eF P 911 323,er P "__init__" 922 508,er P "__static_attributes__" 928 509] 5)<|
 o1 (tu [])<|
 o1 (fl .none (iE 4 [325,507]))<|
 o1 (cc "Level" 902 323 498)<|
 o1 (fr 500 497 sf)<|
 f7 sf 502 "__init__" "Level.__init__" (me 67 0) 912 325 5 3 ["self","items","target","step","count"]<|
 o1 (tu (ss 923 ["at","count","items","step","target"]))<|
 o1 (di (.type "dict") [eM P 907 sf,eF P 911 323,er P "__init__" 922 508,er P "__static_attributes__" 928 509,er P "__dict__" 930 512,er P "__weakref__" 932 513,e P "__doc__" 933 .none] 4)<|
 o1 (kl "Level" 511 900 908)<|
 o1 (gd 929 511)<|
 o1 (gw 931 511)<|
 o1 (su 511)<|
 o1 (ii 511)<|
 g7 sf 516 "begin_loop" 68 936 331 2 3 ["run","item","word","items","target","first","last","step","low","high","stride","count"]<|
 g7 sf 523 "end_round" 69 954 339 2 3 ["run","level","place"]<|
 o1 (tu [])<|
 o1 pp<|
 o1 (di (.type "dict") [eM P 970 sf,eQ P 972 "ListWalk",eF P 974 345,er P "__init__" 983 543,er P "next" 993 550,er P "take" 1002 557,er P "__static_attributes__" 1006 558] 7)<|
 o1 (tu [])<|
 o1 (fl .none (iE 4 [347,542,352,549,372,556]))<|
 o1 (cc "ListWalk" 965 345 533)<|
 o1 (fr 535 532 sf)<|
 f7 sf 537 "__init__" "ListWalk.__init__" (me 70 0) 975 347 3 3 ["self","run","items"]<|
 f7 sf 544 "next" "ListWalk.next" (me 70 1) 984 352 1 3 ["self","place","level","found"]<|
 f7 sf 551 "take" "ListWalk.take" (me 70 2) 994 372 2 3 ["self","item","place"]<|
 o1 (tu (ss 1003 ["elements","levels","run"]))<|
 o1 (di (.type "dict") [eM P 970 sf,eF P 974 345,er P "__init__" 983 543,er P "next" 993 550,er P "take" 1002 557,er P "__static_attributes__" 1006 558,er P "__dict__" 1008 561,er P "__weakref__" 1010 562,e P "__doc__" 1011 .none] 4)<|
 o1 (kl "ListWalk" 560 963 971)<|
 o1 (gd 1007 560)<|
 o1 (gw 1009 560)<|
 o1 (su 560)<|
 o1 (ii 560)<|
 o1 (tu [])<|
 o1 pp<|
 o1 (di (.type "dict") [eM P 1033 lU,eQ P 1035 "Store",eF P 1037 390,er P "__init__" 1044 578,er P "__static_attributes__" 1046 579] 5)<|
 o1 (tu [])<|
 o1 (fl .none (iE 4 [392,577]))<|
 o1 (cc "Store" 1028 390 568)<|
 o1 (fr 570 567 lU)<|
 f7 lU 572 "__init__" "Store.__init__" (me 77 0) 1038 392 1 3 ["self"]<|
 o1 (tu (ss 1045 ["files"]))<|
 o1 (di (.type "dict") [eM P 1033 lU,eF P 1037 390,er P "__init__" 1044 578,er P "__static_attributes__" 1046 579,er P "__dict__" 1048 582,er P "__weakref__" 1050 583,e P "__doc__" 1051 .none] 4)<|
 o1 (kl "Store" 581 1026 1034)<|
 o1 (gd 1047 581)<|
 o1 (gw 1049 581)<|
 o1 (su 581)<|
 o1 (ii 581)<|
 g7 lU 586 "unit_of" 78 1054 394 2 3 ["units","number"]<|
 g7 lU 593 "need_access" 79 1062 398 2 3 ["unit","access"]<|
 g7 lU 600 "need_form" 80 1070 401 2 3 ["unit","form"]<|
 g7 lU 607 "read_record" 81 1078 404 1 3 ["unit","records"]<|
 g7 lU 614 "cut_file" 82 1086 413 1 3 ["unit"]<|
 g7 lU 621 "write_record" 83 1093 418 2 3 ["unit","record"]<|
 g7 lU 628 "size_of" 84 1101 422 1 3 ["record","size","kind","value"]<|
 g7 lU 635 "read_direct" 85 1111 429 2 3 ["unit","number"]<| []
noncomputable def T4(P:pc):BT:=bt 12 (putAt 12 (fl .none (LN.take 189)) (putAt 3 (dm P 84 (s "f77.files" 1014)) (putAt 2 (di .none [e P "type.__subclasses__.Exception.0" 221 (.int 38 0),e P "type.__subclasses__.Exception.n" 222 (.int 1 0)] 2) (bo P<|(L0 P++L1 P++L2 P++L3 P++L4 P)))))
noncomputable def L5(P:pc):List Obj:=g7 lU 642 "write_direct" 86 1119 435 3 3 ["unit","number","record"]<|
 o1 (tu [])<|
 o1 pp<|
 o1 (di (.type "dict") [eM P 1135 lU,eQ P 1137 "UnitSource",eF P 1139 445,er P "__init__" 1147 662,er P "next_record" 1154 669,er P "__static_attributes__" 1156 670] 6)<|
 o1 (tu [])<|
 o1 (fl .none (iE 4 [447,661,450,668]))<|
 o1 (cc "UnitSource" 1130 445 652)<|
 o1 (fr 654 651 lU)<|
 f7 lU 656 "__init__" "UnitSource.__init__" (me 87 0) 1140 447 2 3 ["self","unit"]<|
 f7 lU 663 "next_record" "UnitSource.next_record" (me 87 1) 1148 450 1 3 ["self"]<|
 o1 (tu (ss 1155 ["unit"]))<|
 o1 (di (.type "dict") [eM P 1135 lU,eF P 1139 445,er P "__init__" 1147 662,er P "next_record" 1154 669,er P "__static_attributes__" 1156 670,er P "__dict__" 1158 673,er P "__weakref__" 1160 674,e P "__doc__" 1161 .none] 4)<|
 o1 (kl "UnitSource" 672 1128 1136)<|
 o1 (gd 1157 672)<|
 o1 (gw 1159 672)<|
 o1 (su 672)<|
 o1 (ii 672)<|
 g7 lU 677 "fit_internal" 88 1164 452 3 3 ["records","count","length","out","record"]<|
 o1 (tu (ss 1177 ["I","F","E","D","G","L","A"]))<|
 g7 dA 685 "add_flat" 93 1193 465 2 3 ["item","flat","word","start","inner","part"]<|
 g7 dA 692 "flat_of" 94 1205 476 1 3 ["tree","flat","again","item"]<|
 o1 (tu [])<|
 o1 pp<|
 o1 (di (.type "dict") [eM P 1222 dA,eQ P 1224 "FormatControl",eF P 1226 484,er P "__init__" 1234 712,er P "next_item" 1244 719,er P "close_group" 1252 726,er P "revert" 1259 733,er P "__static_attributes__" 1266 734] 8)<|
 o1 (tu [])<|
 o1 (fl .none (iE 4 [486,711,493,718,519,725,527,732]))<|
 o1 (cc "FormatControl" 1217 484 702)<|
 o1 (fr 704 701 dA)<|
 f7 dA 706 "__init__" "FormatControl.__init__" (me 95 0) 1227 486 2 3 ["self","tree"]<|
 f7 dA 713 "next_item" "FormatControl.next_item" (me 95 1) 1235 493 2 3 ["self","has_value","entry","word"]<|
 f7 dA 720 "close_group" "FormatControl.close_group" (me 95 2) 1245 519 2 3 ["self","start"]<|
 f7 dA 727 "revert" "FormatControl.revert" (me 95 3) 1253 527 1 3 ["self"]<|
 o1 (tu (ss 1260 ["again","at","counts","flat","idle","is_used"]))<|
 o1 (di (.type "dict") [eM P 1222 dA,eF P 1226 484,er P "__init__" 1234 712,er P "next_item" 1244 719,er P "close_group" 1252 726,er P "revert" 1259 733,er P "__static_attributes__" 1266 734,er P "__dict__" 1268 737,er P "__weakref__" 1270 738,e P "__doc__" 1271 .none] 4)<|
 o1 (kl "FormatControl" 736 1215 1223)<|
 o1 (gd 1267 736)<|
 o1 (gw 1269 736)<|
 o1 (su 736)<|
 o1 (ii 736)<|
 o1 (tu [])<|
 o1 pp<|
 o1 (di (.type "dict") [eM P 1281 dA,eQ P 1283 "FormatModes",eF P 1285 533,er P "__init__" 1293 754,er P "set_by" 1302 761,er P "__static_attributes__" 1306 762] 6)<|
 o1 (tu [])<|
 o1 (fl .none (iE 4 [535,753,540,760]))<|
 o1 (cc "FormatModes" 1276 533 744)<|
 o1 (fr 746 743 dA)<|
 f7 dA 748 "__init__" "FormatModes.__init__" (me 96 0) 1286 535 2 3 ["self","is_zeros"]<|
 f7 dA 755 "set_by" "FormatModes.set_by" (me 96 1) 1294 540 2 3 ["self","item","word"]<|
 o1 (tu (ss 1303 ["is_plus","is_zeros","scale"]))<|
 o1 (di (.type "dict") [eM P 1281 dA,eF P 1285 533,er P "__init__" 1293 754,er P "set_by" 1302 761,er P "__static_attributes__" 1306 762,er P "__dict__" 1308 765,er P "__weakref__" 1310 766,e P "__doc__" 1311 .none] 4)<|
 o1 (kl "FormatModes" 764 1274 1282)<|
 o1 (gd 1307 764)<|
 o1 (gw 1309 764)<|
 o1 (su 764)<|
 o1 (ii 764)<|
 g7 dA 769 "moved" 97 1314 551 2 3 ["at","item","word"]<| []
noncomputable def T5(P:pc):BT:=bt 12 (putAt 12 (fl .none (LN.take 213)) (putAt 3 (dm P 95 (s "f77.fmtrun" 1175)) (putAt 2 (di .none [e P "type.__subclasses__.Exception.0" 221 (.int 38 0),e P "type.__subclasses__.Exception.n" 222 (.int 1 0)] 2) (bo P<|(L0 P++L1 P++L2 P++L3 P++L4 P++L5 P)))))
noncomputable def L6(P:pc):List Obj:=o1 (tu [])<|
 o1 pp<|
 o1 (di (.type "dict") [eM P 1330 dA,eQ P 1332 "Line",eF P 1334 558,er P "__init__" 1341 789,er P "put" 1350 796,er P "text" 1357 803,er P "__static_attributes__" 1360 804] 7)<|
 o1 (tu [])<|
 o1 (fl .none (iE 4 [560,788,564,795,573,802]))<|
 o1 (cc "Line" 1325 558 779)<|
 o1 (fr 781 778 dA)<|
 f7 dA 783 "__init__" "Line.__init__" (me 98 0) 1335 560 1 3 ["self"]<|
 f7 dA 790 "put" "Line.put" (me 98 1) 1342 564 2 3 ["self","text","sign"]<|
 f7 dA 797 "text" "Line.text" (me 98 2) 1351 573 1 3 ["self"]<|
 o1 (tu (ss 1358 ["at","signs"]))<|
 o1 (di (.type "dict") [eM P 1330 dA,eF P 1334 558,er P "__init__" 1341 789,er P "put" 1350 796,er P "text" 1357 803,er P "__static_attributes__" 1360 804,er P "__dict__" 1362 807,er P "__weakref__" 1364 808,e P "__doc__" 1365 .none] 4)<|
 o1 (kl "Line" 806 1323 1331)<|
 o1 (gd 1361 806)<|
 o1 (gw 1363 806)<|
 o1 (su 806)<|
 o1 (ii 806)<|
 o1 (tu [])<|
 o1 pp<|
 o1 (di (.type "dict") [eM P 1375 dA,eQ P 1377 "FormatWriter",eF P 1379 575,er P "__init__" 1388 824,er P "step" 1396 831,er P "put" 1406 838,er P "finish" 1414 845,er P "__static_attributes__" 1420 846] 8)<|
 o1 (tu [])<|
 o1 (fl .none (iE 4 [577,823,584,830,593,837,604,844]))<|
 o1 (cc "FormatWriter" 1370 575 814)<|
 o1 (fr 816 813 dA)<|
 f7 dA 818 "__init__" "FormatWriter.__init__" (me 99 0) 1380 577 3 3 ["self","tree","edit"]<|
 f7 dA 825 "step" "FormatWriter.step" (me 99 1) 1389 584 2 3 ["self","item"]<|
 f7 dA 832 "put" "FormatWriter.put" (me 99 2) 1397 593 3 3 ["self","kind","value","item"]<|
 f7 dA 839 "finish" "FormatWriter.finish" (me 99 3) 1407 604 1 3 ["self","item"]<|
 o1 (tu (ss 1415 ["control","edit","line","modes","records"]))<|
 o1 (di (.type "dict") [eM P 1375 dA,eF P 1379 575,er P "__init__" 1388 824,er P "step" 1396 831,er P "put" 1406 838,er P "finish" 1414 845,er P "__static_attributes__" 1420 846,er P "__dict__" 1422 849,er P "__weakref__" 1424 850,e P "__doc__" 1425 .none] 4)<|
 o1 (kl "FormatWriter" 848 1368 1376)<|
 o1 (gd 1421 848)<|
 o1 (gw 1423 848)<|
 o1 (su 848)<|
 o1 (ii 848)<|
 o1 (tu [])<|
 o1 pp<|
 o1 (di (.type "dict") [eM P 1435 dA,eQ P 1437 "FormatReader",eF P 1439 611,er P "__init__" 1451 866,er P "step" 1459 873,er P "field" 1468 880,er P "take" 1480 887,er P "finish" 1488 894,er P "__static_attributes__" 1496 895] 9)<|
 o1 (tu [])<|
 o1 (fl .none (iE 4 [613,865,622,872,631,879,636,886,647,893]))<|
 o1 (cc "FormatReader" 1430 611 856)<|
 o1 (fr 858 855 dA)<|
 f7 dA 860 "__init__" "FormatReader.__init__" (me 100 0) 1440 613 6 3 ["self","tree","source","read","is_zeros","limits"]<|
 f7 dA 867 "step" "FormatReader.step" (me 100 1) 1452 622 2 3 ["self","item"]<|
 f7 dA 874 "field" "FormatReader.field" (me 100 2) 1460 631 2 3 ["self","width","text"]<|
 f7 dA 881 "take" "FormatReader.take" (me 100 3) 1469 636 3 3 ["self","kind","length","first","item","width"]<|
 f7 dA 888 "finish" "FormatReader.finish" (me 100 4) 1481 647 1 3 ["self","item"]<|
 o1 (tu (ss 1489 ["at","control","limits","modes","read","record","source"]))<|
 o1 (di (.type "dict") [eM P 1435 dA,eF P 1439 611,er P "__init__" 1451 866,er P "step" 1459 873,er P "field" 1468 880,er P "take" 1480 887,er P "finish" 1488 894,er P "__static_attributes__" 1496 895,er P "__dict__" 1498 898,er P "__weakref__" 1500 899,e P "__doc__" 1501 .none] 4)<|
 o1 (kl "FormatReader" 897 1428 1436)<|
 o1 (gd 1497 897)<|
 o1 (gw 1499 897)<|
 o1 (su 897)<|
 o1 (ii 897)<|
 o1 (tu [])<|
 o1 pp<|
 o1 (di (.type "dict") [eM P 1511 dA,eQ P 1513 "ListSource",eF P 1515 652,er P "__init__" 1523 915,er P "next_record" 1530 922,er P "__static_attributes__" 1533 923] 6)<|
 o1 (tu [])<|
 o1 (fl .none (iE 4 [654,914,658,921]))<|
 o1 (cc "ListSource" 1506 652 905)<|
 o1 (fr 907 904 dA)<|
 f7 dA 909 "__init__" "ListSource.__init__" (me 101 0) 1516 654 2 3 ["self","records"]<|
 f7 dA 916 "next_record" "ListSource.next_record" (me 101 1) 1524 658 1 3 ["self"]<|
 o1 (tu (ss 1531 ["at","records"]))<|
 o1 (di (.type "dict") [eM P 1511 dA,eF P 1515 652,er P "__init__" 1523 915,er P "next_record" 1530 922,er P "__static_attributes__" 1533 923,er P "__dict__" 1535 926,er P "__weakref__" 1537 927,e P "__doc__" 1538 .none] 4)<|
 o1 (kl "ListSource" 925 1504 1512)<|
 o1 (gd 1534 925)<|
 o1 (gw 1536 925)<|
 o1 (su 925)<|
 o1 (ii 925)<| []
noncomputable def T6(P:pc):BT:=bt 12 (putAt 12 (fl .none (LN.take 225)) (putAt 3 (dm P 99 (s "f77.world" 1541)) (putAt 2 (di .none [e P "type.__subclasses__.Exception.0" 221 (.int 38 0),e P "type.__subclasses__.Exception.n" 222 (.int 1 0)] 2) (bo P<|(L0 P++L1 P++L2 P++L3 P++L4 P++L5 P++L6 P)))))
noncomputable def L7(P:pc):List Obj:=o1 (tu [])<|
 o1 pp<|
 o1 (di (.type "dict") [eM P 1550 Cw,eQ P 1552 "World",eF P 1554 664,er P "__init__" 1563 943,er P "__static_attributes__" 1570 944] 5)<|
 o1 (tu [])<|
 o1 (fl .none (iE 4 [666,942]))<|
 o1 (cc "World" 1545 664 933)<|
 o1 (fr 935 932 Cw)<|
 f7 Cw 937 "__init__" "World.__init__" (me 103 0) 1555 666 3 3 ["self","input_records","store"]<|
 o1 (tu (ss 1564 ["at","input","makers","out","store","units"]))<|
 o1 (di (.type "dict") [eM P 1550 Cw,eF P 1554 664,er P "__init__" 1563 943,er P "__static_attributes__" 1570 944,er P "__dict__" 1572 947,er P "__weakref__" 1574 948,e P "__doc__" 1575 .none] 4)<|
 o1 (kl "World" 946 1543 1551)<|
 o1 (gd 1571 946)<|
 o1 (gw 1573 946)<|
 o1 (su 946)<|
 o1 (ii 946)<|
 g7 Cw 951 "next_input" 104 1578 673 1 3 ["world"]<|
 o1 (tu [])<|
 o1 pp<|
 o1 (di (.type "dict") [eM P 1598 gH,eQ P 1600 "InputSource",eF P 1602 681,er P "__init__" 1610 971,er P "next_record" 1617 978,er P "__static_attributes__" 1619 979] 6)<|
 o1 (tu [])<|
 o1 (fl .none (iE 4 [683,970,686,977]))<|
 o1 (cc "InputSource" 1593 681 961)<|
 o1 (fr 963 960 gH)<|
 f7 gH 965 "__init__" "InputSource.__init__" (me 108 0) 1603 683 2 3 ["self","world"]<|
 f7 gH 972 "next_record" "InputSource.next_record" (me 108 1) 1611 686 1 3 ["self"]<|
 o1 (tu (ss 1618 ["world"]))<|
 o1 (di (.type "dict") [eM P 1598 gH,eF P 1602 681,er P "__init__" 1610 971,er P "next_record" 1617 978,er P "__static_attributes__" 1619 979,er P "__dict__" 1621 982,er P "__weakref__" 1623 983,e P "__doc__" 1624 .none] 4)<|
 o1 (kl "InputSource" 981 1591 1599)<|
 o1 (gd 1620 981)<|
 o1 (gw 1622 981)<|
 o1 (su 981)<|
 o1 (ii 981)<|
 o1 (tu [])<|
 o1 pp<|
 o1 (di (.type "dict") [eM P 1634 gH,eQ P 1636 "DirectSource",eF P 1638 688,er P "__init__" 1647 999,er P "next_record" 1654 1006,er P "__static_attributes__" 1657 1007] 6)<|
 o1 (tu [])<|
 o1 (fl .none (iE 4 [690,998,694,1005]))<|
 o1 (cc "DirectSource" 1629 688 989)<|
 o1 (fr 991 988 gH)<|
 f7 gH 993 "__init__" "DirectSource.__init__" (me 109 0) 1639 690 3 3 ["self","unit","rec"]<|
 f7 gH 1000 "next_record" "DirectSource.next_record" (me 109 1) 1648 694 1 3 ["self"]<|
 o1 (tu (ss 1655 ["rec","unit"]))<|
 o1 (di (.type "dict") [eM P 1634 gH,eF P 1638 688,er P "__init__" 1647 999,er P "next_record" 1654 1006,er P "__static_attributes__" 1657 1007,er P "__dict__" 1659 1010,er P "__weakref__" 1661 1011,e P "__doc__" 1662 .none] 4)<|
 o1 (kl "DirectSource" 1009 1627 1635)<|
 o1 (gd 1658 1009)<|
 o1 (gw 1660 1009)<|
 o1 (su 1009)<|
 o1 (ii 1009)<|
 g7 gH 1014 "is_internal" 110 1665 697 1 3 ["control"]<|
 g7 gH 1021 "unit_for" 111 1672 699 2 3 ["world","control","unit"]<|
 g7 gH 1028 "is_standard" 112 1681 703 3 3 ["world","control","number","unit"]<|
 g7 gH 1035 "refuse_number" 113 1691 706 1 3 ["control"]<|
 g7 gH 1042 "format_text" 114 1698 709 1 3 ["text"]<|
 g7 gH 1049 "maker_of" 115 1705 711 3 3 ["world","word","control","sort"]<| []
noncomputable def T7(P:pc):BT:=bt 12 (putAt 12 (fl .none (LN.take 255)) (putAt 3 (dm P 111 (s "f77.transfer" 1585)) (putAt 2 (di .none [e P "type.__subclasses__.Exception.0" 221 (.int 38 0),e P "type.__subclasses__.Exception.n" 222 (.int 1 0)] 2) (bo P<|(L0 P++L1 P++L2 P++L3 P++L4 P++L5 P++L6 P++L7 P)))))
noncomputable def L8(P:pc):List Obj:=o1 (tu [])<|
 o1 pp<|
 o1 (di (.type "dict") [eM P 1722 gH,eQ P 1724 "Writing",eF P 1726 718,er P "__init__" 1736 1069,er P "put" 1745 1076,er P "finish" 1752 1083,er P "__static_attributes__" 1756 1084] 7)<|
 o1 (tu [])<|
 o1 (fl .none (iE 4 [720,1068,725,1075,728,1082]))<|
 o1 (cc "Writing" 1717 718 1059)<|
 o1 (fr 1061 1058 gH)<|
 f7 gH 1063 "__init__" "Writing.__init__" (me 116 0) 1727 720 4 3 ["self","world","control","maker"]<|
 f7 gH 1070 "put" "Writing.put" (me 116 1) 1737 725 3 3 ["self","kind","value"]<|
 f7 gH 1077 "finish" "Writing.finish" (me 116 2) 1746 728 1 3 ["self"]<|
 o1 (tu (ss 1753 ["control","maker","world"]))<|
 o1 (di (.type "dict") [eM P 1722 gH,eF P 1726 718,er P "__init__" 1736 1069,er P "put" 1745 1076,er P "finish" 1752 1083,er P "__static_attributes__" 1756 1084,er P "__dict__" 1758 1087,er P "__weakref__" 1760 1088,e P "__doc__" 1761 .none] 4)<|
 o1 (kl "Writing" 1086 1715 1723)<|
 o1 (gd 1757 1086)<|
 o1 (gw 1759 1086)<|
 o1 (su 1086)<|
 o1 (ii 1086)<|
 g7 gH 1091 "begin_write" 117 1764 730 3 3 ["world","control","limits"]<|
 g7 gH 1098 "deliver" 118 1773 739 3 3 ["world","control","records","texts","unit","rec","record"]<|
 g7 gH 1105 "source_of" 119 1786 755 2 3 ["world","control","unit"]<|
 g7 gH 1112 "is_blank_zero" 120 1795 765 2 3 ["world","control"]<|
 g7 gH 1119 "begin_read" 121 1803 769 3 3 ["world","control","limits","source"]<|
 g7 gH 1126 "iostat_of" 122 1813 772 1 3 ["fault"]<|
 g7 gH 1133 "outcome" 123 1820 774 2 3 ["fault","control","word"]<|
 f5 ud 1140 "unit_value" "unit_value" (st 125) 1831 782 3 3 3<|
 g7 ud 1145 "format_at" 126 1837 789 2 3 ["unit","label"]<|
 f5 ud 1152 "format_value" "format_value" (st 127) 1845 793 3 3 3<|
 g7 ud 1157 "control_values" 128 1851 804 4 3 ["run","unit","control","is_write","found","word","tree"]<|
 g7 ud 1164 "settle" 129 1864 817 5 3 ["run","unit","at","control","fault","label"]<|
 g7 ud 1171 "done" 130 1876 824 3 3 ["run","at","control"]<|
 g7 ud 1178 "do_read" 131 1885 828 4 3 ["run","unit","at","stmt","control","reading","fault","walk","item","value"]<|
 g7 ud 1185 "item_value" 132 1901 851 2 3 ["run","item"]<|
 g7 ud 1192 "store_internal" 133 1909 855 3 3 ["run","places","texts","k"]<|
 g7 ud 1199 "do_write" 134 1919 858 4 3 ["run","unit","at","stmt","control","writing","fault","walk","item","value","texts"]<|
 g7 ud 1206 "transfer_statements" 135 1936 880 0 3 []<| []
noncomputable def T8(P:pc):BT:=bt 12 (putAt 12 (fl .none (LN.take 312)) (putAt 3 (dm P 130 (s "f77.limits" 1942)) (putAt 2 (di .none [e P "type.__subclasses__.Exception.0" 221 (.int 38 0),e P "type.__subclasses__.Exception.n" 222 (.int 1 0)] 2) (bo P<|(L0 P++L1 P++L2 P++L3 P++L4 P++L5 P++L6 P++L7 P++L8 P)))))
noncomputable def L9(P:pc):List Obj:=o1 (tu [])<|
 o1 pp<|
 o1 (di (.type "dict") [eM P 1951 EC,eQ P 1953 "Limits",eF P 1955 883,er P "__init__" 1978 1227,er P "__static_attributes__" 1987 1228] 5)<|
 o1 (tu [])<|
 o1 (fl .none (iE 4 [885,1226]))<|
 o1 (cc "Limits" 1946 883 1216)<|
 o1 (fr 1218 1215 EC)<|
 o1 (tu [.int 32 1956,.int 7 1957,.int 15 1958,.int 38 1959,.int 1000000 1960,.int 19 1961,.int 72 1962,.int 40 1963])<|
 f7 (df:=(r 1220)) EC 1221 "__init__" "Limits.__init__" (me 137 0) 1964 885 9 3 ["self","width","real_digits","double_digits","top_exponent","steps","continuations","columns","depth"]<|
 o1 (tu (ss 1979 ["columns","continuations","depth","double_digits","real_digits","steps","top_exponent","width"]))<|
 o1 (di (.type "dict") [eM P 1951 EC,eF P 1955 883,er P "__init__" 1978 1227,er P "__static_attributes__" 1987 1228,er P "__dict__" 1989 1231,er P "__weakref__" 1991 1232,e P "__doc__" 1992 .none] 4)<|
 o1 (kl "Limits" 1230 1944 1952)<|
 o1 (gd 1988 1230)<|
 o1 (gw 1990 1230)<|
 o1 (su 1230)<|
 o1 (ii 1230)<|
 o1 (tu [])<|
 o1 pp<|
 o1 (di (.type "dict") [eM P 2004 EB,eQ P 2006 "UnitTree",eF P 2008 895,er P "__init__" 2017 1248,er P "__static_attributes__" 2032 1249] 5)<|
 o1 (tu [])<|
 o1 (fl .none (iE 4 [897,1247]))<|
 o1 (cc "UnitTree" 1999 895 1238)<|
 o1 (fr 1240 1237 EB)<|
 f7 EB 1242 "__init__" "UnitTree.__init__" (me 139 0) 2009 897 3 3 ["self","kind","name"]<|
 o1 (tu (ss 2018 ["commons","constants","datas","dummies","entries","equivs","formats","kind","labels","name","result","saves","statements","symbols"]))<|
 o1 (di (.type "dict") [eM P 2004 EB,eF P 2008 895,er P "__init__" 2017 1248,er P "__static_attributes__" 2032 1249,er P "__dict__" 2034 1252,er P "__weakref__" 2036 1253,e P "__doc__" 2037 .none] 4)<|
 o1 (kl "UnitTree" 1251 1997 2005)<|
 o1 (gd 2033 1251)<|
 o1 (gw 2035 1251)<|
 o1 (su 1251)<|
 o1 (ii 1251)<|
 o1 (li [s "  7" 2042,s " 40" 2043,s "x  " 2044,s "   " 2045,s " 21" 2046] 0)<|
 o1 (tu [s "I" 2050,.int 3 2051,.none])<|
 o1 (tu [s "repeat" 2048,.int 9 2049,r 1257])<|
 o1 (li [r 1258] 0)<|
 g7 se 1260 "_law_spin" 143 2053 915 2 3 ["wheel","many"]<|
 g7 se 1267 "_law_node" 144 2061 920 1 3 ["wheel"]<|
 g7 se 1274 "_law_deed" 145 2068 924 1 3 ["wheel","is_read","has_stat","items","_","way"]<|
 g7 se 1281 "_law_edit" 146 2080 939 5 3 ["item","kind","value","scale","is_plus"]<|
 g7 se 1288 "_law_field" 147 2091 943 7 3 ["item","kind","length","piece","scale","is_zeros","limits"]<|
 g7 se 1295 "_law_ask" 148 2104 947 2 3 ["run","tree"]<|
 f5 se 1302 "_law_run" "_law_run" (st 149) 2112 953 1 3 3<|
 g7 se 1307 "_law_heard" 150 2118 967 2 3 ["run","deed","control","word","fault"]<|
 g7 se 1314 "_law_told" 151 2129 976 1 3 ["node"]<|
 g7 se 1321 "_law_moved" 152 2136 980 2 3 ["own","deed","line","at","item","cell","value","code","row","piece"]<|
 g7 se 1328 "_law_due" 153 2152 1008 2 3 ["own","deed","end"]<|
 f5 se 1335 "law" "law" (st 154) 2161 1015 1 3 3<| []
noncomputable def T9(P:pc):BT:=bt 12 (putAt 3 (dm P 146 (s "law_pq0369_01" 2040)) (putAt 2 (di .none [e P "type.__subclasses__.Exception.0" 221 (.int 38 0),e P "type.__subclasses__.Exception.n" 222 (.int 1 0)] 2) (bo P<|(L0 P++L1 P++L2 P++L3 P++L4 P++L5 P++L6 P++L7 P++L8 P++L9 P))))
theorem Ea(w:World)(os:OsState):topGo treeTable PW w 11 (some (.ref 6)) 12 ⟨H3 w.params,⟨[]⟩,Jr,JK,os⟩ (topStub PW)=
  some ((sh T0 15 187 w os).abs,⟨denote treeTable CD,CD,po 0 0 0 0,[topFrame (po 0 0 0 0)]⟩):=by kernel_rfl
theorem Al(w:World)(os:OsState):segRun treeTable PW w 11 (some (.ref 6)) 1 1 (sh T0 15 187 w os).abs (blockOf BD EN CD (po 0 0 0 0) [topFrame (po 0 0 0 0)])=some (.next,(sh T0 15 187 w os).abs,CD,po 0 0 0 0):=by kernel_rfl
theorem FR(w:World)(os:OsState)(s:Shared)(ps:Pos):topRun treeTable PW w 11 (some (.ref 6)) 2 s ⟨doneF .next,CD,ps,[topFrame (po 0 0 0 0)]⟩=some s:=by kernel_rfl
theorem Bi(w:World):((H3 w.params).isNs mainGlobals&&(Array.mk []:Array GenState).size==0,(H3 w.params).objs.size,(H3 w.params).nsMap mainGlobals "__annotations__")=(true,11,some (.ref 6)):=by kernel_rfl
theorem uS:∀w:World,(fencedOpening treeTable PW w 21000).map (fun s=>(s.heap,s.gens,s.drawn,s.toks))=some (H3 w.params,Array.mk [],Jr,JK):=
 boot_open (by kernel_rfl) (by decide) (fun ι=>by kernel_rfl)
theorem Fb:(BD.drop 155)= []:=by kernel_rfl
theorem p1(w:World)(os:OsState):segRunT treeTable PW w 11 (some (.ref 6)) 1 1185 (sh T0 15 187 w os) (piecesOf (sts 0 7) EN CD (po 0 0 0 0) [topFrame (po 0 0 0 0)])=some (.next,sh T1 104 309 w os,CD,po 19 0 23 24):=by
 rw[r9,r8]
 kernel_rfl
theorem p2(w:World)(os:OsState):segRunT treeTable PW w 11 (some (.ref 6)) 1 1186 (sh T1 104 309 w os) (piecesOf (sts 7 21) EN CD (po 19 0 23 24) [topFrame (po 0 0 0 0)])=some (.next,sh T2 247 514 w os,CD,po 104 0 107 25):=by
 rw[r9,r8]
 kernel_rfl
theorem p3(w:World)(os:OsState):segRunT treeTable PW w 11 (some (.ref 6)) 1 1469 (sh T2 247 514 w os) (piecesOf (sts 28 38) EN CD (po 104 0 107 25) [topFrame (po 0 0 0 0)])=some (.next,sh T3 495 898 w os,CD,po 317 0 321 18):=by
 rw[r9,r8]
 kernel_rfl
theorem p4(w:World)(os:OsState):segRunT treeTable PW w 11 (some (.ref 6)) 1 1118 (sh T3 495 898 w os) (piecesOf (sts 66 20) EN CD (po 317 0 321 18) [topFrame (po 0 0 0 0)])=some (.next,sh T4 642 1119 w os,CD,po 429 0 434 37):=by
 rw[r9,r8]
 kernel_rfl
theorem p5(w:World)(os:OsState):segRunT treeTable PW w 11 (some (.ref 6)) 1 1052 (sh T4 642 1119 w os) (piecesOf (sts 86 12) EN CD (po 429 0 434 37) [topFrame (po 0 0 0 0)])=some (.next,sh T5 776 1323 w os,CD,po 551 0 557 23):=by
 rw[r9,r8]
 kernel_rfl
theorem p6(w:World)(os:OsState):segRunT treeTable PW w 11 (some (.ref 6)) 1 1240 (sh T5 776 1323 w os) (piecesOf (sts 98 5) EN CD (po 551 0 557 23) [topFrame (po 0 0 0 0)])=some (.next,sh T6 930 1543 w os,CD,po 663 0 663 8):=by
 rw[r9,r8]
 kernel_rfl
theorem p7(w:World)(os:OsState):segRunT treeTable PW w 11 (some (.ref 6)) 1 975 (sh T6 930 1543 w os) (piecesOf (sts 103 13) EN CD (po 663 0 663 8) [topFrame (po 0 0 0 0)])=some (.next,sh T7 1056 1715 w os,CD,po 711 0 717 35):=by
 rw[r9,r8]
 kernel_rfl
theorem p8(w:World)(os:OsState):segRunT treeTable PW w 11 (some (.ref 6)) 1 877 (sh T7 1056 1715 w os) (piecesOf (sts 116 21) EN CD (po 711 0 717 35) [topFrame (po 0 0 0 0)])=some (.next,sh T8 1213 1944 w os,CD,po 882 0 882 8):=by
 rw[r9,r8]
 kernel_rfl
theorem p9(w:World)(os:OsState):segRunT treeTable PW w 11 (some (.ref 6)) 1 907 (sh T8 1213 1944 w os) (piecesOf (sts 137 18) EN CD (po 882 0 882 8) [topFrame (po 0 0 0 0)])=some (.next,sh T9 1340 2167 w os,CD,po 1015 0 1028 15):=by
 rw[r9,r8]
 kernel_rfl
noncomputable def HH(P:pc):Heap:=absHeap (T9 P) 1340 {}
noncomputable def q1:Program:=view PW [154]
noncomputable def lo1:List Str:=PW.boundNames.filter fun x=>!(x==z "law")
theorem Gp(P:pc):staticsOk (importedModules PW.main.body) (H3 P) (HH P)=true:=by kernel_rfl
theorem Gn(P:pc):namesBound PW (HH P)=true:=by kernel_rfl
theorem Gm(P:pc):laidKept (H3 P) (HH P)=true:=by kernel_rfl
theorem Gl(w:World)(os:OsState):seen ((recsOf q1).map (·.name)) (ownsOf q1) [] ⟨HH w.params,#[],{},2167,os⟩=expectedOf q1:=by kernel_rfl
theorem Gk(P:pc):(HH P).bltView=bltViewBooted:=by kernel_rfl
theorem Gj(P:pc):(HH P).keysOk (looseW q1 lo1) ((recsOf q1).map (·.name)) ((litsOf q1).map (·.1)) ((clssOf q1 (looseW q1 lo1)).map (·.name))=true:=by kernel_rfl
theorem Gi(P:pc):(HH P).accountedOkI (importedModules PW.main.body)=true:=by kernel_rfl
theorem Gh(P:pc):((HH P).isNs mainGlobals&&(HH P).isNs builtinsNs&&tablesOk q1 (HH P))=true:=by kernel_rfl
theorem Gg(w:World)(os:OsState):tabsOk q1 ⟨HH w.params,#[],{},2167,os⟩=true:=by kernel_rfl
theorem Gf(w:World)(os:OsState):pinSeenD q1 (drecsOf q1) ⟨HH w.params,#[],{},2167,os⟩=pinGoodD (drecsOf q1):=by kernel_rfl
theorem Ge(w:World)(os:OsState):(plainSeenE q1 (looseW q1 lo1) ⟨HH w.params,#[],{},2167,os⟩,plainSeenD q1 lo1 ⟨HH w.params,#[],{},2167,os⟩,wideSeen q1 ⟨HH w.params,#[],{},2167,os⟩,clsSeenW q1 lo1 ⟨HH w.params,#[],{},2167,os⟩)=(plainGoodE q1 (looseW q1 lo1),plainGoodD q1 lo1,wideGood q1,clsGoodW q1 lo1):=by kernel_rfl
noncomputable abbrev TR(w:World)(N:Nat)(s:Shared)(t:Thread):Option Shared:=topRun treeTable PW w 11 (some (.ref 6)) N s t
theorem mA{w:World}{n N a m b:Nat}{s s':SharedT}{r:Shared}{p p':Pos}(hb:a+m=b)(k:TR w N s'.abs (restOf (BD.drop b) EN CD p' [topFrame (po 0 0 0 0)])=some r)
  (h:segRunT treeTable PW w 11 (some (.ref 6)) 1 n s (piecesOf (sts a m) EN CD p [topFrame (po 0 0 0 0)])=some (.next,s',CD,p')):TR w (n+N) s.abs (restOf (BD.drop a) EN CD p [topFrame (po 0 0 0 0)])=some r:=by
 have e:BD.drop a=sts a m++BD.drop b:=by
  rw[<-hb,<-List.drop_drop]
  exact(List.take_append_drop m _).symm
 rw[e]
 exact piece_app (segRun_of h) k
theorem E2(w:World)(os:OsState):TR w (12+(1+(1185+(1186+(1469+(1118+(1052+(1240+(975+(877+(907+2))))))))))) ⟨H3 w.params,⟨[]⟩,Jr,JK,os⟩ (topStub PW)=some (sh T9 1340 2167 w os).abs:=by
 have k9:TR w 2 (sh T9 1340 2167 w os).abs (restOf (BD.drop 155) EN CD (po 1015 0 1028 15) [topFrame (po 0 0 0 0)])=some (sh T9 1340 2167 w os).abs:=by
  rw[Fb]
  exact FR w os _ _
 have k8:=mA (a:=137) (m:=18) (b:=155) rfl k9 (p9 w os)
 have k7:=mA (a:=116) (m:=21) (b:=137) rfl k8 (p8 w os)
 have k6:=mA (a:=103) (m:=13) (b:=116) rfl k7 (p7 w os)
 have k5:=mA (a:=98) (m:=5) (b:=103) rfl k6 (p6 w os)
 have k4:=mA (a:=86) (m:=12) (b:=98) rfl k5 (p5 w os)
 have k3:=mA (a:=66) (m:=20) (b:=86) rfl k4 (p4 w os)
 have k2:=mA (a:=28) (m:=38) (b:=66) rfl k3 (p3 w os)
 have k1:=mA (a:=7) (m:=21) (b:=28) rfl k2 (p2 w os)
 have k0:=mA (a:=0) (m:=7) (b:=7) rfl k1 (p1 w os)
 rw[La] at k0
 exact go_top (Ea w os) (piece_block (Al w os) k0)
theorem ru{p q:Program}{lo:List Str}{h₀ h₁:Heap}{k:Nat}{os:OsState}(a:staticsOk (importedModules p.main.body) h₀ h₁=true)(b:namesBound p h₁=true)(d:laidKept h₀ h₁=true)
  (e:seen ((recsOf q).map (·.name)) (ownsOf q) [] ⟨h₁,#[],{},k,os⟩=expectedOf q) (f:h₁.bltView=bltViewBooted) (g:h₁.keysOk (looseW q lo) ((recsOf q).map (·.name)) ((litsOf q).map (·.1)) ((clssOf q (looseW q lo)).map (·.name))=true)
  (h:h₁.accountedOkI (importedModules p.main.body)=true) (i:(h₁.isNs mainGlobals&&h₁.isNs builtinsNs&&tablesOk q h₁)=true) (j:tabsOk q ⟨h₁,#[],{},k,os⟩=true) (l:pinSeenD q (drecsOf q) ⟨h₁,#[],{},k,os⟩=pinGoodD (drecsOf q))
  (m:(plainSeenE q (looseW q lo) ⟨h₁,#[],{},k,os⟩,plainSeenD q lo ⟨h₁,#[],{},k,os⟩,wideSeen q ⟨h₁,#[],{},k,os⟩,clsSeenW q lo ⟨h₁,#[],{},k,os⟩)=(plainGoodE q (looseW q lo),plainGoodD q lo,wideGood q,clsGoodW q lo)) {hv:Heap} (x:h₁=hv):
  ((staticsOk (importedModules p.main.body) h₀ h₁&&namesBound p h₁&&gensDone ⟨h₁,#[],{},k,os⟩&&laidKept h₀ h₁),openSeen q lo (importedModules p.main.body) (fun ι=>true) true ⟨h₁,#[],{},k,os⟩,h₁)=(true,openGood q lo,hv):=by
 simp only[db] at i
 simp only[Li] at m
 refine HJ ?_ (HJ ?_ x)
 ·show(staticsOk (importedModules p.main.body) h₀ h₁&&namesBound p h₁&&true&&laidKept h₀ h₁)=true
  rw[a,b,d]
  rfl
 ·refine HJ e (HJ f (HJ ?_ (HJ j (HJ l (HJ m.1 (HJ m.2.1 (HJ m.2.2.1 m.2.2.2)))))))
  show(h₁.keysOk _ _ _ _&&h₁.accountedOkI _&&h₁.isNs mainGlobals&&h₁.isNs builtinsNs&&tablesOk q h₁&&true&&true)=true
  rw[g,h,i.1.1,i.1.2,i.2]
  rfl
theorem ul{p q:Program}{lo:List Str}{N M m₀ k₀ k₁:Nat}{ann:Option Value}{H₀ H₁:pc->Heap}{gs₀:Array GenState}{d₀:Drawn}
  (uS:∀w:World,(fencedOpening treeTable p w N).map (fun s=>(s.heap,s.gens,s.drawn,s.toks))=some (H₀ w.params,gs₀,d₀,k₀))
  (size:∀w:World,((H₀ w.params).isNs mainGlobals&&gs₀.size==0,(H₀ w.params).objs.size,(H₀ w.params).nsMap mainGlobals "__annotations__")=(true,m₀,ann))
  (run:∀(w:World) (os:OsState),topRun treeTable p w m₀ ann M ⟨H₀ w.params,gs₀,d₀,k₀,os⟩ (topStub p)=some ⟨H₁ w.params,#[],{},k₁,os⟩) (le:gy M N=true)
  (looks:∀(w:World) os,((staticsOk (importedModules p.main.body) (H₀ w.params) (H₁ w.params)&&namesBound p (H₁ w.params)&&gensDone ⟨H₁ w.params,#[],{},k₁,os⟩&&laidKept (H₀ w.params) (H₁ w.params)),openSeen q lo (importedModules p.main.body) (fun ι=>true) true ⟨H₁ w.params,#[],{},k₁,os⟩,H₁ w.params)=(true,openGood q lo,H₁ w.params)):
  LeftO p q lo (fun ι=>true) (fun s=>s.heap) (fun w=>H₁ w.params) N:=LeftO.of_pieces (H₀:=H₀) (H₁:=H₁) uS size run le fun w=>funext fun os=>looks w os
theorem left_:LeftO PW q1 lo1 (fun ι=>true) (fun s=>s.heap) (fun w=>HH w.params) 21000:=
 ul (H₀:=H3) (H₁:=HH) (gs₀:=⟨[]⟩) (d₀:=Jr) (k₀:=JK) (m₀:=11) (ann:=some (.ref 6)) (k₁:=2167) uS Bi E2 (by rfl) fun w os=>
  ru (Gp w.params) (Gn w.params) (Gm w.params) (Gl w os) (Gk w.params) (Gj w.params) (Gi w.params) (Gh w.params) (Gg w os) (Gf w os) (Ge w os) rfl
noncomputable abbrev RW:OpenLaw:=PySem.Challenge.rw_pq0369_01
theorem l2:namesResolve PySem.Challenge.rw_pq0369_01.row.prog=true:=by
 rw[PySem.W.Fast.te8377067652309620493]
 kernel_rfl
theorem l4:noRoadLSs {strict:=!(importedModules PySem.Challenge.rw_pq0369_01.row.prog.main.body).all cThrough.contains,foot:=none,bare:=List.filter (readsOut PySem.Challenge.rw_pq0369_01.row.prog PySem.Challenge.rw_pq0369_01.row.prog.main.body) [ag "vars",ag "dir",ag "locals"]} PySem.Challenge.rw_pq0369_01.row.prog.main.body=true:=by
 rw[PySem.W.Fast.te8326940854005059898,PySem.W.Fast.te13343964577679436407]
 kernel_rfl
theorem l5:(namesMeet PySem.Challenge.rw_pq0369_01.row.prog PySem.Challenge.rw_pq0369_01.row.prog.main.body fun x n=>attrL n)=true:=by
 rw[IW,PySem.W.Fast.te17868728402115742887]
 kernel_rfl
theorem l6:looksOpen PySem.Challenge.rw_pq0369_01.row.prog=true:=by
 unfold looksOpen
 exact IR (IR (IR (IR (IR (by kernel_rfl) (by kernel_rfl)) l2) (by kernel_rfl)) l4) l5
theorem Gd:(PySem.Challenge.rw_pq0369_01.bound'.all fun n=>!builtinNamed n||PySem.Challenge.rw_pq0369_01.about== [n]||!PySem.Challenge.rw_pq0369_01.reads n)=true:=by kernel_rfl
theorem Gc:(namesMeet PySem.Challenge.rw_pq0369_01.prog PySem.Challenge.rw_pq0369_01.above fun x n=>!PySem.Challenge.rw_pq0369_01.own.contains n)=true:=by
 rw[IW]
 kernel_rfl
theorem said:PySem.Challenge.rw_pq0369_01.wellSaid=true:=by
 unfold OpenLaw.wellSaid OpenRow.wellSaid OpenRow.partSaid
 repeat' with_reducible refine IR ?_ ?_
 all_goals first|with_reducible exact l6|with_reducible exact Gd|with_reducible exact Gc|kernel_rfl
end MH
end
section
open PySem PySem.W PySem.Spec PySem.Calls PyProof.Rows
namespace Mine
noncomputable def KA:List Nat:= [0,1,2,3,4,5,6,7,8,9,10,11,13,14,34,35,37,38,97,98,100,101,116,117,119,120,147,148,161,162,168,169,175,176,185,186,196,197,203,204,210,211,217,218,245,246,259,260,299,300,302,303,313,314,320,321,339,340,346,347,353,354,360,361,479,480,507,508,510,511,542,543,549,550,556,557,559,560,577,578,580,581,684,690,691,697,698,711,712,718,719,725,726,735,736,753,754,763,764,788,789,795,796,802,803,805,806,823,824,837,838,844,845,847,848,865,866,879,880,886,887,893,894,896,897,942,943,945,946,956,957,970,971,977,978,980,981,1019,1020,1033,1034,1040,1041,1054,1055,1068,1069,1075,1076,1082,1083,1085,1086,1096,1097,1103,1104,1110,1111,1117,1118,1124,1125,1131,1132,1138,1139,1143,1144,1155,1156,1162,1163,1169,1170,1176,1177,1183,1184,1190,1191,1204,1205,1211,1212,1220,1226,1227,1229,1230,1247,1248,1250,1251,1256,1257,1258,1259,1265,1266,1272,1273,1279,1280,1286,1287,1293,1294,1300,1301,1305,1306,1312,1313,1319,1320,1326,1327,1333,1334,1338,1339]
noncomputable def KK(P:pc):Frag:=KA.filterMap fun a=>((MH.T9 P).get a).bind fun o=>(alive o).map fun o=>(a,o)
theorem DF(P:pc):(KK P).In (MH.HH P):=fun a o e=>by
 have hm:(a,o)∈KK P:=Jq e
 obtain⟨b,hb,e2⟩:=List.mem_filterMap.mp hm
 obtain⟨o1,e3,e4⟩:=Hq.mp e2
 obtain⟨o2,e5,e6⟩:=JR.mp e4
 have hlt:b<1340:=of_decide_eq_true (eg.mp (show(KA.all fun a=>decide (a<1340))=true from by decide+kernel) b hb)
 have h:=abs_get (life:={}) hlt e3
 rw[e5] at h
 cases e6
 exact h
noncomputable def kX(sc:Scope):Option (Addr×Addr×Str):=match mn sc.names (ag "into") with
 |some .local=>some (1305,1303,ag "_law_run.<locals>.")
 |_=>none
noncomputable def yi(j:Nat):Stmt:=((MH.fB (MH.st 149))[j]?).getD (.Pass ⟨0,0,0,0⟩)
noncomputable def bh(j:Nat):DfI:=match yi j with
 | .FunctionDef n a b _ _ _ sc _ _ _=>⟨n,ag "_law_run.<locals>."++n,a,b,sc⟩
 |_=>⟨⟨#[]⟩,⟨#[]⟩,default,[],default⟩
noncomputable def sS(P:pc):Ck:=⟨NM,KK P,1340,kX⟩
noncomputable def yw(P:pc):Nat->Scope->Nat->Expr->Bool
 |0,_,_,_=>false
 |n+1,sc,k,x=>opt (fun e=>eX (sS P) (yw P n) 12 sc e x) (lk TB.cmps k)
noncomputable def BB(w:World)(loose:List Str)(mean:H8->Option Value)(mg mb:Str->Option Value)(ns:List Int):Base:=
 {prog:=MH.PW,w:=w,K:=KK w.params,p:=topProg,loose:=loose,mean:=mean,mg:=mg,mb:=mb,ce:=fun sc k x=>∃n,yw w.params n sc k x=true,dfs:=bh,nest:=kX,ns:=ns}
theorem dC{l:List (Nat×Nat)}:∀{a b:Nat},fO l a b=true->(a,b)∈l:=by
 induction l with
 |nil=>intro a b h;cases h
 |cons p r ih=>
  intro a b h
  rcases Ib.mp h with h|h
  ·rw[db] at h
   rw[<-aH h.1,<-aH h.2]
   exact .head _
  ·exact .tail _ (ih h)
theorem l9{α:Type}{l:List ((Nat×Nat)×α)}:∀{a b:Nat} {x:α},xY l a b=some x->((a,b),x)∈l:=by
 induction l with
 |nil=>intro a b x h;cases h
 |cons p r ih=>
  intro a b x h
  have h:(match av p.1.1 a&&av p.1.2 b with|true=>some p.2|false=>xY r a b)=some x:=h
  cases e:av p.1.1 a&&av p.1.2 b with
  |true=>
   rw[e] at h
   rw[db] at e
   rw[<-aH e.1,<-aH e.2,<-bd h]
   exact .head _
  |false=>rw[e] at h;exact .tail _ (ih h)
theorem B9(P:pc):(TB.ats.all fun p=>mO (KK P) p.1 (NM p.2))=true:=by kernel_rfl
theorem B0(P:pc):(TB.sts.all fun p=>i9 (KK P) p.1 (NM p.2))=true:=by kernel_rfl
theorem B4(P:pc):(TB.mts.all fun p=>oz (KK P) p.1.1 (NM p.1.2) p.2&&u8 p.2 1340)=true:=by kernel_rfl
theorem B8(P:pc):(TB.cas.all fun p=>hU (KK P) p.1.1 (NM p.1.2) p.2&&(u8 p.2 1340&&u8 p.1.1 1340))=true:=by kernel_rfl
theorem BX(P:pc):(TB.xst.all fun p=>dF (KK P) p.1 (NM p.2))=true:=by kernel_rfl
theorem BZ(P:pc):(TB.xgt.all fun p=>lr (KK P) p.1 (NM p.2))=true:=by kernel_rfl
theorem B3(P:pc):(TB.own.all fun p=>ownIn (KK P) p.1 (NM p.2))=true:=by kernel_rfl
theorem yZ(P:pc):(TB.fns.all fun p=>u8 p.1 1340&&keepIn (KK P) (.ref p.1))=true:=by kernel_rfl
theorem y3(P:pc):(TB.cls.all fun p=>(u8 p.1 1340&&keepIn (KK P) (.ref p.1))&&(makesIn (KK P) p.1&&(gz (KK P) p.1 p.2&&u8 p.2 1340)))=true:=by kernel_rfl
theorem y0(P:pc):(TB.exs.all fun p=>(u8 p.1 1340&&keepIn (KK P) (.ref p.1))&&(cI (KK P) p.1&&(gz (KK P) p.1 p.2&&u8 p.2 1340)))=true:=by kernel_rfl
theorem B7(P:pc):(TB.cat.all fun p=>decide (mroIn (KK P) p.1 (.ref p.2)=some true))=true:=by kernel_rfl
theorem BY(P:pc):findCls (KK P) (.type "Exception") (.type "type") (ag "__init__")=some (.val (.builtin "Exception.__init__")):=by kernel_rfl
theorem B5(P:pc):(TB.isa.all fun p=>bif p.2 then isIn (KK P) (.ref p.1.1) p.1.2 else lp (KK P) p.1.1 p.1.2)=true:=by kernel_rfl
noncomputable def Dc(v w:Value):Bool:=(oget (de v) fun i=>oget (de w) fun j=>grd (Io i j) (some ())).isSome
noncomputable def A9(k:Ck)(fi:FnI)(scope:Scope)(dM:List Value):Bool:=fF fi.pn&&(fi.pn.all (fun i=>kB scope (k.nm i) .local||kB scope (k.nm i) .cell)&&(!nX scope&&(vy ((cellsFrom 0 scope.names []).map (·.1)) (fi.cel.map k.nm)&&(fF fi.cel&&(fi.cel.all (fun c=>kB scope (k.nm c) .cell)&&(!scope.isCoroutine&&(!scope.isGenerator&&(decide (scope.kind= .function)&&aZ Dc fi.dfl dM))))))))
noncomputable def uW(k:Ck)(scope:Scope)(cdv:Value)(qual:Str):Bool:=match k.nest scope with
 |none=>true
 |some t=>decide (cdv= .ref t.1)&&seq (qual++".<locals>.") t.2.2
noncomputable def fdOf(K:Frag)(f:Nat):Option FuncData:=oget (K.lookup f) fun o=>match o.data with
 | .func fd=>some fd
 |_=>none
noncomputable def pU(K:Frag)(fd:FuncData):List Value:=match fd.defaults with
 | .ref a=>match K.lookup a with
  |some ⟨_,_,.seq vs _,_⟩=>vs.toList
  |_=> []
 |_=> []
noncomputable def bodyOf(fd:FuncData):List Stmt:=match fd.body with
 | .stmts b=>b
 |_=> []
noncomputable def uE(fd:FuncData):Bool:=(match fd.body with| .stmts _=>true|_=>false)&&(av fd.globals mainGlobals&&(bM fd.closure&&av fd.builtins builtinsNs))
noncomputable def Gu(P:pc)(f:Nat)(fi:FnI):Bool:=opt (fun fd=>uE fd&&(codeIn (KK P) fd.code fd.qualname&&(A9 (sS P) fi fd.scope (pU (KK P) fd)&&uW (sS P) fd.scope fd.code fd.qualname))) (fdOf (KK P) f)
noncomputable def FQ(P:pc)(f:Nat)(fi:FnI):Bool:=opt (fun fd=>aZ (rq (sS P) (eX (sS P) (yw P 3) 12 fd.scope) fd.scope 12) fi.body (bodyOf fd)) (fdOf (KK P) f)
theorem FS(P:pc):(TB.fns.all fun p=>Gu P p.1 p.2)=true:=by kernel_rfl
noncomputable def Ek:List Str->Bool
 | []=>true
 |a::r=>r.all (fun b=>!seq a b)&&Ek r
theorem u0:∀{l:List Str},Ek l=true->l.Nodup
 | [],_=> .nil
 |a::r,h=>sB.mpr ⟨fun hm=>dL ((seq_iff.mpr rfl).symm.trans (eB (eg.mp (aD h).1 a hm))),u0 (aD h).2⟩
noncomputable def NML:List Str:=NMS.map ag
theorem zr:Ek NML=true:=by kernel_rfl
theorem xJ:(NML.all fun x=>u8 x.cps.toList.length 30&&!seq x (ag ".0"))=true:=by kernel_rfl
theorem vq(i:Nat):(NML[i]?=some (NM i))\/(NML[i]?=none/\NM i=⟨(Hr (i+30) 120).toArray⟩):=by
 unfold NM NML
 rw[Iq]
 cases NMS[i]? with
 |none=>exact .inr ⟨rfl,rfl⟩
 |some x=>exact .inl rfl
theorem gY{i:Nat}(h:NM i=⟨(Hr (i+30) 120).toArray⟩):(NM i).cps.toList.length=i+30:=by
 rw[h]
 exact List.length_replicate
theorem ji{i:Nat}(h:NML[i]?=some (NM i)):(NM i).cps.toList.length<30/\NM i≠ag ".0":=by
 have h1:=aD (eg.mp xJ _ (Kj h))
 exact⟨al h1.1,fun e=>dL ((seq_iff.mpr e).symm.trans (eB h1.2))⟩
theorem pq(i j:Nat)(e:NM i=NM j):i=j:=by
 rcases vq i with hi|⟨_,hi⟩<;>rcases vq j with hj|⟨_,hj⟩
 ·obtain⟨h1,e1⟩:=He.mp hi
  obtain⟨h2,e2⟩:=He.mp hj
  exact(List.getElem_inj (h₀:=h1) (h₁:=h2) (u0 zr)).mp (by rw[e1,e2,e])
 ·have h1:=(ji hi).1
  rw[e,gY hj] at h1
  omega
 ·have h1:=(ji hj).1
  rw[<-e,gY hi] at h1
  omega
 ·have h1:=gY hi
  rw[e,gY hj] at h1
  omega
theorem Ar(i:Nat):NM i≠ag ".0":=by
 rcases vq i with hi|⟨_,hi⟩
 ·exact(ji hi).2
 ·intro e
  have h1:=gY hi
  rw[e] at h1
  have:(ag ".0").cps.toList.length=2:=by kernel_rfl
  omega
theorem DI(P:pc):((KK P).lookup sysModules).isSome=true:=by kernel_rfl
theorem FH(P:pc):(KK P).lookup 684=some (MH.tu [MH.s "I" 1177,MH.s "F" 1178,MH.s "E" 1179,MH.s "D" 1180,MH.s "G" 1181,MH.s "L" 1182,MH.s "A" 1183])/\(KK P).lookup 1256=some (MH.li [MH.s "  7" 2042,MH.s " 40" 2043,MH.s "x  " 2044,MH.s "   " 2045,MH.s " 21" 2046] 0)/\
  (KK P).lookup 1257=some (MH.tu [MH.s "I" 2050,.int 3 2051,.none])/\(KK P).lookup 1258=some (MH.tu [MH.s "repeat" 2048,.int 9 2049,MH.r 1257])/\(KK P).lookup 1259=some (MH.li [MH.r 1258] 0):=⟨by kernel_rfl,by kernel_rfl,by kernel_rfl,by kernel_rfl,by kernel_rfl⟩
theorem nT{α:Type}{i:Nat}{a:α}{r:List (Nat×α)}{k:Nat}{x:α}(h:lk ((i,a)::r) k=some x):(i=k/\a=x)\/lk r k=some x:=by
 rw[aR] at h
 cases e:av i k with
 |true=>rw[e] at h;exact .inl ⟨aH e,bd h⟩
 |false=>rw[e] at h;exact .inr h
theorem zU(w:World)(loose:List Str)(mean:H8->Option Value)(mg mb:Str->Option Value)(ns:List Int):StaOk (CO (BB w loose mean mg mb ns)) where
 dot:=Ar
 inj:=pq
 sm:=kt.mp (DI w.params)
 ho:=fun k x h=>by
  obtain⟨h1,h2,h3,h4,h5⟩:=FH w.params
  rcases nT (show HO k=some x from h) with⟨rfl,rfl⟩|h
  ·exact⟨show _<1340 by decide,rfl,_,h1,fun FN J hd=>⟨_,rfl,.cons ⟨_,rfl⟩ (.cons ⟨_,rfl⟩ (.cons ⟨_,rfl⟩ (.cons ⟨_,rfl⟩ (.cons ⟨_,rfl⟩ (.cons ⟨_,rfl⟩ (.cons ⟨_,rfl⟩ .nil))))))⟩⟩
  rcases nT h with⟨rfl,rfl⟩|h
  ·exact⟨show _<1340 by decide,rfl,_,h2,fun FN J hd=>⟨_,0,rfl,.cons ⟨_,rfl⟩ (.cons ⟨_,rfl⟩ (.cons ⟨_,rfl⟩ (.cons ⟨_,rfl⟩ (.cons ⟨_,rfl⟩ .nil))))⟩⟩
  rcases nT h with⟨rfl,rfl⟩|h
  ·exact⟨show _<1340 by decide,rfl,_,h3,fun FN J hd=>⟨_,rfl,.cons ⟨_,rfl⟩ (.cons ⟨_,rfl⟩ (.cons rfl .nil))⟩⟩
  rcases nT h with⟨rfl,rfl⟩|h
  ·exact⟨show _<1340 by decide,rfl,_,h4,fun FN J hd=>⟨_,rfl,.cons ⟨_,rfl⟩ (.cons ⟨_,rfl⟩ (.cons ⟨1257,hd _ (show _<1340 by decide),rfl⟩ .nil))⟩⟩
  rcases nT h with⟨rfl,rfl⟩|h
  ·exact⟨show _<1340 by decide,rfl,_,h5,fun FN J hd=>⟨_,0,rfl,.cons ⟨1258,hd _ (show _<1340 by decide),rfl⟩ .nil⟩⟩
  cases h
noncomputable def vl:Nat->(Nat->Value)->List Value
 |0,_=> []
 |n+1,v=>v 0::vl n fun i=>v (i+1)
theorem tE:∀vs:List Value,vl vs.length (fun i=>vs.getD i .none)=vs
 | []=>rfl
 |a::r=>congrArg (a:: ·) (tE r)
theorem AZ(P:pc)(Z:Setting)(v:Nat->Value):(TB.fns.map fun p=>(fdOf (KK P) p.1).bind fun fd=>peek (KK P) Z (bindArgs fd ⟨vl (p.2.pn.length-(pU (KK P) fd).length) v,[]⟩))=
  TB.fns.map fun p=>(fdOf (KK P) p.1).map fun fd=>bR NM p.2.pn (vl (p.2.pn.length-(pU (KK P) fd).length) v++pU (KK P) fd):=by kernel_rfl
theorem AV(Z:Setting)(v:Nat->Value)(doc pm ct:Value)(c:Addr):(TB.dfs.map fun p=>peek [] Z (bindArgs (fnOf (bh p.1).name (bh p.1).qual (bh p.1).params (bh p.1).body (bh p.1).scope .none .none doc pm none (.ref c) ct) ⟨vl p.2.pn.length v,[]⟩))=TB.dfs.map fun p=>some (bR NM p.2.pn (vl p.2.pn.length v++ [])):=by kernel_rfl
noncomputable def xO(P:pc)(a n:Nat):Bool:=((TB.fns.drop a).take n).all fun p=>av p.1 1306||FQ P p.1 p.2
theorem m0(P:pc):xO P 0 12=true:=by kernel_rfl
theorem m1(P:pc):xO P 12 10=true:=by kernel_rfl
theorem m2(P:pc):xO P 22 10=true:=by kernel_rfl
theorem m3(P:pc):xO P 32 10=true:=by kernel_rfl
theorem m4(P:pc):xO P 42 10=true:=by kernel_rfl
theorem m5(P:pc):xO P 52 10=true:=by kernel_rfl
theorem m6(P:pc):xO P 62 10=true:=by kernel_rfl
theorem m7(P:pc):xO P 72 11=true:=by kernel_rfl
noncomputable def Gw(P:pc)(p:Nat×FnI):Bool:=A9 (sS P) p.2 (bh p.1).scope []&&((kX (bh p.1).scope).isNone&&aZ (rq (sS P) (eX (sS P) (yw P 3) 12 (bh p.1).scope) (bh p.1).scope 12) p.2.body (bh p.1).body)
theorem FU(P:pc):(TB.dfs.all (Gw P))=true:=by kernel_rfl
noncomputable def Gv(P:pc)(k:FuncData->Bool):Bool:=opt k (fdOf (KK P) 1306)
theorem D0(P:pc):Gv P (fun fd=>aZ (rq (sS P) (eX (sS P) (yw P 3) 12 fd.scope) fd.scope 12) (b_l_run.drop 2) ((bodyOf fd).drop 2))=true:=by kernel_rfl
theorem rW{fd:FuncData}(h:uE fd=true):fd=fnOf fd.name fd.qualname fd.params (bodyOf fd) fd.scope fd.defaults fd.kwdefaults fd.doc fd.pyModule fd.annotations fd.code fd.closureTuple:=by
 obtain⟨name,qual,params,body,scope,gl,clo,dV,kV,doc,pm,an,cdv,ct,bi⟩:=fd
 have h1:=aD h
 have h2:=aD h1.2
 have h3:=aD h2.2
 have e1:gl=mainGlobals:=aH h2.1
 have e2:clo= []:=bD h3.1
 have e3:bi=builtinsNs:=aH h3.2
 subst e1 e2 e3
 have h4:=h1.1
 cases body with
 |stmts b=>rfl
 |_=>exact dL h4
theorem yF{K:Frag}{f:Nat}{fd:FuncData}(h:fdOf K f=some fd):∃oc od osl,K.lookup f=some ⟨oc,od,.func fd,osl⟩:=by
 obtain⟨⟨oc,od,dt,osl⟩,e,f1⟩:h:=aC h
 cases dt with
 |func=>cases f1;exact⟨oc,od,osl,e⟩
 |_=>exact bn rfl (heq_of_eq f1)
theorem uZ{nm:Nat->Str}(inj:∀i j,nm i=nm j->i=j):∀{l:List Nat},fF l=true->(l.map nm).Nodup
 | [],_=> .nil
 |i::r,h=>by
  have h1:=aD h
  rw[mo,sB]
  refine⟨fun hm=>?_,uZ inj h1.2⟩
  obtain⟨j,hj,e⟩:=re.mp hm
  have h2:=eB h1.1
  rw[inj _ _ e] at hj
  rw[List.contains_iff_mem.mpr hj] at h2
  cases h2
theorem A7{J:Rho}{v w:Value}(h:Dc v w=true):VR J v w:=by
 obtain⟨u,f1⟩:=kt.mp h
 obtain⟨i,e1,f2⟩:f1:=aC f1
 obtain⟨j,e2,f3⟩:f2:=aC f2
 obtain⟨e3,f4⟩:f3:=aM f3
 obtain⟨t,rfl⟩:=cB e1
 obtain⟨u,rfl⟩:=cB e2
 rw[(Ii _ _).mp e3]
 exact⟨_,rfl⟩
theorem vL{S:Core}(inj:∀i j,S.nm i=S.nm j->i=j){fi:FnI}{name qual:Str}{params:Arguments}{body:List Stmt}{scope:Scope}{dV kV doc pm cdv ct:Value}{an:Option Addr}{dM:List Value}(h:A9 S.ck fi scope dM=true)(hms:All2 (MS S scope) fi.body body)
  (hb:∀(vs:List Value) (s:Shared),S.K.In s.heap->(vs++dM).length=fi.pn.length->Lv s (fnOf name qual params body scope dV kV doc pm an cdv ct) ⟨vs,[]⟩ (bR S.nm fi.pn (vs++dM)))
  (hn:∀c P q,S.nest scope=some (c,P,q)->cdv= .ref c/\qual++".<locals>."=q):FnB S fi name qual params body scope dV kV doc pm cdv ct an dM:=by
 have h1:=aD h
 have h2:=aD h1.2
 have h3:=aD h2.2
 have h4:=aD h3.2
 have h5:=aD h4.2
 have h6:=aD h5.2
 have h7:=aD h6.2
 have h8:=aD h7.2
 have h9:=aD h8.2
 exact{bind:=hb,dr:=fun J ι=>ac (fun ι ι=>A7) h9.2,pn:=h1.1,loc:=fun i hi=>(Ib.mp (eg.mp h2.1 i hi)).imp cV cV,fs:=eB h3.1,cel:=ssq_iff.mp h4.1,cnd:=uZ inj h5.1,cok:=fun c hc=>cV (eg.mp h6.1 c hc),ms:=hms,co:=eB h7.1,gen:=eB h8.1,kind:=of_decide_eq_true h9.1,nest:=hn}
theorem uV{k:Ck}{scope:Scope}{cdv:Value}{qual:Str}(h:uW k scope cdv qual=true):∀c P q,k.nest scope=some (c,P,q)->cdv= .ref c/\qual++".<locals>."=q:=by
 intro c P q e
 unfold uW at h
 rw[e] at h
 have h1:=aD h
 exact⟨of_decide_eq_true h1.1,seq_iff.mp h1.2⟩
section
variable(w:World)(loose:List Str)(mean:H8->Option Value)(mg mb:Str->Option Value)(ns:List Int)
theorem yf{n:Nat}{sc:Scope}{e:IE}{x:Expr}(h:eX (sS w.params) (yw w.params n) 12 sc e x=true):ME (CO (BB w loose mean mg mb ns)) sc e x:=AD (S:=CO (BB w loose mean mg mb ns)) (cb:=yw w.params n) (fun sc k x h=>⟨n,h⟩) 12 sc e x h
theorem u9{sc:Scope}{a:List IS}{b:List Stmt}(h:aZ (rq (sS w.params) (eX (sS w.params) (yw w.params 3) 12 sc) sc 12) a b=true):All2 (MS (CO (BB w loose mean mg mb ns)) sc) a b:=
 ac (fun i s h=>zz (S:=CO (BB w loose mean mg mb ns)) (fun e x h=>yf w loose mean mg mb ns h) 12 i s h) h
theorem zy{p:Nat×FnI}(hp:p∈TB.fns)(h:av p.1 1306=false):FQ w.params p.1 p.2=true:=by
 have e:TB.fns=TB.fns.take 12++((TB.fns.drop 12).take 10++((TB.fns.drop 22).take 10++((TB.fns.drop 32).take 10++((TB.fns.drop 42).take 10++((TB.fns.drop 52).take 10++((TB.fns.drop 62).take 10++(TB.fns.drop 72).take 11)))))):=by kernel_rfl
 rw[e] at hp
 have key:∀{a n:Nat},xO w.params a n=true->p∈(TB.fns.drop a).take n->FQ w.params p.1 p.2=true:=fun hm hq=>by
  have:=eg.mp hm p hq
  rw[h] at this
  exact this
 simp only[nl] at hp
 rcases hp with hp|hp|hp|hp|hp|hp|hp|hp
 ·exact key (m0 _) hp
 ·exact key (m1 _) hp
 ·exact key (m2 _) hp
 ·exact key (m3 _) hp
 ·exact key (m4 _) hp
 ·exact key (m5 _) hp
 ·exact key (m6 _) hp
 ·exact key (m7 _) hp
end
noncomputable def xU(j:Nat):Pos:=match yi j with
 | .FunctionDef _ _ _ _ _ _ _ _ _ p=>p
 |_=>⟨0,0,0,0⟩
noncomputable def AG:Scope:=MH.fS (MH.st 149)
theorem tm:MH.fB (MH.st 149)=yi 0::yi 1::(MH.fB (MH.st 149)).drop 2:=by kernel_rfl
theorem Gb:yi 0= .FunctionDef (NM 107) (bh 0).params (bh 0).body [] none [] (bh 0).scope none (NM 107) (xU 0)/\(xU 0).line=955/\(xU 0).col=4:=⟨by kernel_rfl,by kernel_rfl,by kernel_rfl⟩
theorem Ga:yi 1= .FunctionDef (NM 185) (bh 1).params (bh 1).body [] none [] (bh 1).scope none (NM 185) (xU 1)/\(xU 1).line=958/\(xU 1).col=4:=⟨by kernel_rfl,by kernel_rfl,by kernel_rfl⟩
theorem CI(P:pc):(fdOf (KK P) 1306).map (fun fd=>(bodyOf fd,fd.scope))=some (MH.fB (MH.st 149),AG):=by kernel_rfl
theorem ze(P:pc):(KK P).lookup 1305=some (MH.co "_law_run" "_law_run" 2112 953 1 3 1302 true 181 1303 .none .none .none (MH.r 1304) 2115 2116):=by kernel_rfl
theorem zd:kX AG=some (1305,1303,ag "_law_run.<locals>."):=by kernel_rfl
noncomputable def A8(j:Nat)(v:Nat):Prop:=ae AG (NM v)/\(bh j).params.defaults= []/\(bh j).params.kw_defaults= []/\(∀env,annTrees (bh j).params none env= [])/\(bh j).scope.names.all (fun y=>!decide (y.2= .free))=true/\bh j=⟨NM v,ag "_law_run.<locals>."++NM v,(bh j).params,(bh j).body,(bh j).scope⟩
theorem E8:A8 0 107:=⟨⟨cV (by kernel_rfl),by kernel_rfl⟩,by kernel_rfl,by kernel_rfl,fun env=>by kernel_rfl,by kernel_rfl,by kernel_rfl⟩
theorem E7:A8 1 185:=⟨⟨cV (by kernel_rfl),by kernel_rfl⟩,by kernel_rfl,by kernel_rfl,fun env=>by kernel_rfl,by kernel_rfl,by kernel_rfl⟩
section
variable(w:World)(loose:List Str)(mean:H8->Option Value)(mg mb:Str->Option Value)(ns:List Int)
theorem Ag:CodeK (CO (BB w loose mean mg mb ns)).K 1305 1303:=⟨_,_,_,_,_,_,_,_,_,ze w.params,rfl,rfl,rfl,rfl,rfl,rfl,rfl,rfl,by decide⟩
theorem ua{j v l c:Nat}(h:A8 j v)(hs:yi j= .FunctionDef (NM v) (bh j).params (bh j).body [] none [] (bh j).scope none (NM v) (xU j)/\(xU j).line=l/\(xU j).col=c):MS (CO (BB w loose mean mg mb ns)) AG (.fdef v j 1303 l c) (yi j):=by
 rw[hs.1,<-hs.2.1,<-hs.2.2]
 exact .fdef (S:=CO (BB w loose mean mg mb ns)) (c:=1305) (q:=ag "_law_run.<locals>.") (x:=v) zd (Ag w loose mean mg mb ns) (show 1303<1340 by decide) h.1 h.2.1 h.2.2.1 h.2.2.2.1 (fun y hy e=>by
  have:=eB (eg.mp h.2.2.2.2.1 y hy)
  rw[decide_eq_true e] at this
  cases this) h.2.2.2.2.2
theorem zx:All2 (MS (CO (BB w loose mean mg mb ns)) AG) b_l_run (MH.fB (MH.st 149)):=by
 have h:=D0 w.params
 obtain⟨fd,e,h⟩:=b9 h
 have e2:=CI w.params
 rw[e] at e2
 have e3:=bd e2
 have e4:bodyOf fd=MH.fB (MH.st 149):=congrArg K9 e3
 have e5:fd.scope=AG:=congrArg K8 e3
 rw[e4,e5] at h
 have h2:=u9 w loose mean mg mb ns h
 rw[tm,show b_l_run= .fdef 107 0 1303 955 4:: .fdef 185 1 1303 958 4::b_l_run.drop 2 from rfl]
 exact .cons (ua w loose mean mg mb ns E8 Gb) (.cons (ua w loose mean mg mb ns E7 Ga) h2)
theorem vK:FnsOk (CO (BB w loose mean mg mb ns)) TB where
 fn:=fun f fi h=>by
  have hm:=az h
  have h1:=eg.mp (FS w.params) _ hm
  obtain⟨fd,e,h2⟩:=b9 h1
  obtain⟨oc,od,osl,e2⟩:=yF e
  have h3:=aD h2
  have h4:=aD h3.2
  have h5:=aD h4.2
  have hfd:=rW h3.1
  have hms:All2 (MS (CO (BB w loose mean mg mb ns)) fd.scope) fi.body (bodyOf fd):=by
   cases e6:av f 1306 with
   |false=>
    have h6:=zy w hm e6
    obtain⟨fd2,e7,h7⟩:=b9 h6
    have e7:fdOf (KK w.params) f=some fd2:=e7
    rw[e] at e7
    cases e7
    exact u9 w loose mean mg mb ns h7
   |true=>
    have:=aH e6
    subst this
    have e7:lk TB.fns 1306=some ⟨false,[184],[],[],b_l_run⟩:=by kernel_rfl
    rw[e7] at h
    have e8:=CI w.params
    rw[e] at e8
    have e9:=bd e8
    rw[show bodyOf fd=MH.fB (MH.st 149) from congrArg K9 e9,show fd.scope=AG from congrArg K8 e9,<-bd h]
    exact zx w loose mean mg mb ns
  refine⟨fd.name,fd.qualname,fd.params,bodyOf fd,fd.scope,fd.defaults,fd.kwdefaults,fd.doc,fd.pyModule,fd.code,fd.closureTuple,oc,fd.annotations,od,osl,pU (KK w.params) fd,by rw[<-hfd];exact e2,h4.1,vL pq h5.1 hms (fun vs s X hl=>?_) (uV h5.2)⟩
  refine kp_binds X fun Z=>?_
  have hl:(vs++pU (KK w.params) fd).length=fi.pn.length:=hl
  have hb:=cq (AZ w.params Z fun i=>vs.getD i .none) hm
  dsimp only at hb
  rw[e] at hb
  simp only[KW,Option.map_some] at hb
  rw[show fi.pn.length-(pU (KK w.params) fd).length=vs.length by rw[<-hl,Hv];omega,tE] at hb
  rw[<-hfd]
  exact hb
 hb:=fun f fi h=>al (aD (eg.mp (yZ w.params) _ (az h))).1
 df:=fun i fi h doc pm c' ctv=>by
  have hm:=az h
  have h1:=aD (eg.mp (FU w.params) _ hm)
  have h2:=aD h1.2
  refine vL pq h1.1 (u9 w loose mean mg mb ns h2.2) (fun vs s X hl=>?_) fun c P q e=>?_
  ·refine kp_binds (K:= []) (fun a o e=>by cases e) fun Z=>?_
   have hl:vs.length=fi.pn.length:=by rw[<-hl,wT]
   have hb:=cq (AV Z (fun i=>vs.getD i .none) doc pm ctv c') hm
   dsimp only at hb
   rw[<-hl,tE] at hb
   exact hb
  ·have e:kX (bh i).scope=some (c,P,q):=e
   have h3:(kX (bh i).scope).isNone=true:=h2.1
   rw[e] at h3
   cases h3
theorem BW:TbOk (CO (BB w loose mean mg mb ns)) TB where
 cmps:=fun sc k x h=>by
  obtain⟨n,h⟩:=h
  cases n with
  |zero=>cases h
  |succ n=>
   obtain⟨e,e1,h1⟩:=b9 h
   exact⟨e,e1,yf w loose mean mg mb ns h1⟩
 ats:=fun C x h=>eg.mp (B9 w.params) _ (dC h)
 sts:=fun C x h=>eg.mp (B0 w.params) _ (dC h)
 mts:=fun C m f h=>have h1:=aD (eg.mp (B4 w.params) _ (l9 h));⟨h1.1,al h1.2⟩
 cas:=fun C m f h=>have h1:=aD (eg.mp (B8 w.params) _ (l9 h));⟨h1.1,al (aD h1.2).1,al (aD h1.2).2⟩
 xst:=fun C x h=>eg.mp (BX w.params) _ (dC h)
 xgt:=fun C x h=>eg.mp (BZ w.params) _ (dC h)
 own:=fun C x h=>eg.mp (B3 w.params) _ (dC h)
 kp:=fun k h=>by
  have h:((lk TB.fns k).isSome||(lk TB.cls k).isSome||(lk TB.exs k).isSome)=true:=h
  rw[Jm,Jm] at h
  rcases h with(h|h)|h
  ·obtain⟨a,e⟩:=kt.mp h
   have h1:=aD (eg.mp (yZ w.params) _ (az e))
   exact⟨al h1.1,h1.2⟩
  ·obtain⟨a,e⟩:=kt.mp h
   have h1:=aD (aD (eg.mp (y3 w.params) _ (az e))).1
   exact⟨al h1.1,h1.2⟩
  ·obtain⟨a,e⟩:=kt.mp h
   have h1:=aD (aD (eg.mp (y0 w.params) _ (az e))).1
   exact⟨al h1.1,h1.2⟩
 cls:=fun C f h=>have h1:=aD (aD (eg.mp (y3 w.params) _ (az h))).2;⟨h1.1,(aD h1.2).1,al (aD h1.2).2⟩
 exs:=fun C f h=>have h1:=aD (aD (eg.mp (y0 w.params) _ (az h))).2;⟨h1.1,(aD h1.2).1,al (aD h1.2).2⟩
 cat:=fun C D h=>of_decide_eq_true (eg.mp (B7 w.params) _ (dC h))
 xin:=BY w.params
 isa:=fun C D b h=>by
  have:=eg.mp (B5 w.params) _ (l9 h)
  cases b with
  |true=>exact this
  |false=>exact this
theorem CP(hn:ns.length<=50):PB (BB w loose mean mg mb ns):=⟨BW w loose mean mg mb ns,vK w loose mean mg mb ns,hn⟩
end
section
variable{p:Program}{loose:List Str}{mean:H8->Option Value}{mg mb:Str->Option Value}{h:Heap}{as:List Addr}
noncomputable def Off(h:Heap)(as:List Addr):Prop:=∀a∈as,∀o,h.get? a=some o->(∀es n,o.data≠.dict es n)/\o.cls≠.type "module"
theorem ic(hN:Off h as){a:Addr}{m:Str->Option Value}(x:h.Ns a m):(hideAll h as).Ns a m:=
 let⟨o,es,ep,e,hd,r⟩:=x;⟨o,es,ep,IM as e fun hm=>(hN a hm o e).1 es ep hd,hd,r⟩
theorem tH(hN:Off h as)(T:Lh p loose mean mg mb h):Lh topProg (loose++(recsOf p).map (·.name)++(litsOf p).map (·.1)++(clssOf p loose).map (·.name)) mean mg mb (hideAll h as) where
 g:=ic hN T.g
 b:=ic hN T.b
 nolimit:=let⟨mc,a,r⟩:=T.nolimit;⟨mc,ic hN a,r⟩
 nodigits:=let⟨mc,a,r⟩:=T.nodigits;⟨mc,ic hN a,r⟩
 fn:=fun d hd=>absurd (show d∈([]:List DefRec) from hd) HN
 own:=fun o ho=>absurd (show o∈([]:List OwnSpec) from ho) HN
 const:=fun x d e=>by cases (show(none:Option PyData)=some d from e)
 free:=fun x h1 h2 ι ι ι=>by
  simp only[nl,not_or] at h2
  exact T.free x h1 h2.1.1.1 h2.1.1.2 h2.1.2 h2.2
 builtins:=T.builtins
 tab:=fun d hd=>absurd (show d∈([]:List DefRec) from hd) HN
 bmain:=let⟨bm,ob,a1,a2,a3,a4,r⟩:=T.bmain;⟨bm,ob,a1,a2,IM as a3 fun hm=>(hN bm hm ob a3).2 a4,a4,r⟩
 seer:=fun e=>absurd (show false=true from e) HV
end
theorem xm{vs:List Value}{ns:List Int}(h:Lr vs ns):All2 (VR fun ι=>none) (fL ns) vs:=by
 induction h with
 |nil=>exact .nil
 |cons n t h ih=>exact .cons ⟨t,rfl⟩ ih
noncomputable def nZ(o:Obj):Bool:=match o.cls,o.data with
 | .type t,.seq vs _=>bif t=="list" then vs.toList.all (fun v=>match v with| .int _ _=>true|_=>false) else false
 |_,_=>false
theorem qk(P:pc):((KK P).all fun q=>!nZ q.2)=true:=by kernel_rfl
theorem AL(P:pc):(KK P).lookup 1303=none:=by kernel_rfl
theorem AM(P:pc):nsIn (KK P) mainGlobals (ag "law")=some (some (.ref 1339)):=by kernel_rfl
theorem DH(P:pc):codeHdIn (KK P) 1305 1303=true:=by kernel_rfl
theorem nY{vs:List Value}{ns:List Int}(h:Lr vs ns):vs.all (fun v=>match v with| .int _ _=>true|_=>false)=true:=by
 induction h with
 |nil=>rfl
 |cons n t _ ih=>exact ih
noncomputable def J0(L:Addr):Rho:=fun k=>if k<1340 then some k else if k=1340 then some L else none
theorem vu{L:Addr}{k:Nat}(h:k<1340):J0 L k=some k:=if_pos h
theorem vv(L:Addr):J0 L 1340=some L:=rfl
theorem Du{L:Addr}{k:Nat}(h:1341<=k):J0 L k=none:=by
 unfold J0
 rw[if_neg (by omega),if_neg (by omega)]
theorem rz{w:World}{p:Program}{loose:List Str}{mean:H8->Option Value}{mg mb:Str->Option Value}{s₁:Shared}{fa L:Addr}{its:List Value}{ms:List Int}(T:Lh p loose mean mg mb s₁.heap)(X:(KK w.params).In s₁.heap)(hP:s₁.heap.get? 1303=some (tabObj #[]))(hfa:mg (ag "law")=some (.ref fa))
  (hL:s₁.heap.IsList L its.toArray) (hI:Lr its ms) (hms:ms.length<=63) {R:Hp->Shared->Prop}
  (hR:∀s',(∀b o,(ghostOf s₁.heap [(1305,1303)]).get? b=some o->s'.heap.get? b=some o)->GrownAll [(1305,1303)] s'.heap->s'.os=s₁.os->s'.gens=s₁.gens->R (.ok (.ret (.bool true))) s'):
  Hj (model MH.PW w) callerA (.call (.ref fa) ⟨[.ref L],[]⟩) R s₁:=by
 obtain⟨oL,hLo,hLc,nL,hLd⟩:=hL
 have hLne:L≠1303:=fun e=>by
  rw[e,hP] at hLo
  cases hLo
  cases hLc
 have hLsm:(L==sysModules)=false:=by
  refine beq_eq_false_iff_ne.mpr fun e=>?_
  subst e
  obtain⟨o,ho⟩:=kt.mp (DI w.params)
  have h1:=X _ _ ho
  rw[hLo] at h1
  cases h1
  have h2:=eg.mp (qk w.params) _ (Jq ho)
  have h3:nZ oL=true:=by
   unfold nZ
   rw[hLc,hLd]
   exact nY hI
  rw[h3] at h2
  cases h2
 have hoff:Off s₁.heap [1303,L]:=fun a ha o e=>by
  rcases eq.mp ha with rfl|ha
  ·rw[hP] at e
   cases e
   exact⟨fun ι ι q=>(by cases q),fun q=>(by cases q)⟩
  ·rw[o0.mp ha,hLo] at e
   cases e
   exact⟨fun ι ι q=>(by rw[hLd] at q;cases q),fun q=>(by rw[hLc] at q;exact absurd q (by decide))⟩
 have TB1:=tH hoff T
 generalize loose++(recsOf p).map (·.name)++(litsOf p).map (·.1)++(clssOf p loose).map (·.name)=lo2 at TB1
 have XB1:(KK w.params).In (hideAll s₁.heap [1303,L]):=fun a o e=>IM _ (X a o e) fun hm=>by
  rcases eq.mp hm with rfl|hm
  ·rw[AL] at e
   cases e
  ·rw[o0.mp hm] at e
   have h1:=X _ _ e
   rw[hLo] at h1
   cases h1
   have h2:=eg.mp (qk w.params) _ (Jq e)
   have h3:nZ oL=true:=by
    unfold nZ
    rw[hLc,hLd]
    exact nY hI
   rw[h3] at h2
   cases h2
 have e1:=mg_of X T.g (AM w.params)
 rw[hfa] at e1
 cases e1
 have FO:=vK w lo2 mean mg mb (ms.take 50)
 have PBk:=CP w lo2 mean mg mb (ms.take 50) (List.length_take_le _ _)
 have SO:=zU w lo2 mean mg mb (ms.take 50)
 obtain⟨name,qual,params,body,scope,dV,kV,doc,pm,cdv,ct,oc,an,od,osl,dM,hl,hc,O⟩:=FO.fn 1339 ⟨false,[203],[],[44,174],b_law⟩ (by kernel_rfl)
 have hdM:dM= []:=by
  have:=O.dr (fun k=>if k<1340 then some k else none) fun k hk=>if_pos hk
  cases this
  rfl
 subst hdM
 have hO:=X _ _ hl
 have hnd:=cr (S:=⟨CO (BB w lo2 mean mg mb (ms.take 50)),fun ι o=>o=oL⟩) SO.inj (vs:= [pf L]++ []) O.pn
 have hkind:((bR NM [203] ([pf L]++ [])).all fun y=>scope.names.lookup y.1==some .local||scope.names.lookup y.1==some .cell)=true:=eg.mpr fun y hy=>by
  obtain⟨i,hi,e⟩:=cj (S:=⟨CO (BB w lo2 mean mg mb (ms.take 50)),fun ι o=>o=oL⟩) hy
  rw[e]
  rcases O.loc i hi with q|q<;>rw[q]<;>rfl
 have hcn:((cellsFrom 0 scope.names []).map (·.1)).Nodup:=by rw[O.cel];exact O.cnd
 obtain⟨st',hE,hJ⟩:=ur (B:=BB w lo2 mean mg mb (ms.take 50)) PBk (ms:=ms) (by omega) (by unfold fL aP;exact List.map_take.symm)
 refine JZ (by decide) hO rfl O.co O.gen rfl (Kx X hc) (O.bind [.ref L] s₁ X rfl _ _ _ _ ?_)
 refine Jp O.kind (kindsX hkind _) fun env' he s' x=>?_
 subst he
 refine⟨T.nolimit.keeps x.toInCall.keep,Ln ?_⟩
 obtain⟨h₁,tk,rfl,_⟩:=x.done
 have hk₁:=x.toInCall.keep
 obtain⟨cells,NC,Y⟩:=Cl.news (h₀:=s₁.heap) (wh _) fun n c hm=>⟨x.cell n c (Kp (Jj scope.names 0 (s₁.heap.objs.size+1) [] [] rfl▸hcn) hm),x.above n c hm⟩
 have hN1:News (hideAll s₁.heap [1303,L]) s₁.heap.objs.size h₁ (cells++ [(L,oL),(1303,tabObj #[])]):=fun q hq=>by
  rcases nl.mp hq with hq|hq
  ·refine⟨(NC q hq).1,(NC q hq).2.1,?_⟩
   cases z:(hideAll s₁.heap [1303,L]).get? q.1 with
   |none=>rfl
   |some o=>have:=I4 _ z;rw[(NC q hq).2.2] at this;cases this
  ·rcases eq.mp hq with rfl|hq
   ·exact⟨hk₁ _ _ hLo,Hg (r7 hLo),I7 _ (.tail _ (.head _))⟩
   ·rw[o0.mp hq]
    exact⟨hk₁ _ _ hP,Hg (r7 hP),I7 _ (.head _)⟩
 have R0:Mine.Rel MH.PW w NM (CO (BB w lo2 mean mg mb (ms.take 50))).dfi (fun ι o=>o=oL) 1340 (J0 L) 1341 [(1340,.plst ms),(1303,.tabl [])] [(L,oL),(1303,tabObj #[])]:=
  ⟨fun k hk=>vu hk,by decide,fun k hk=>Du hk,by simp[hLne],.cons ⟨vv L,⟨rfl,its,nL,hLc,hLd,xm hI⟩,hLsm⟩ (.cons ⟨vu (by decide),⟨[],rfl,rfl⟩,rfl⟩ .nil)⟩
 refine qy (S:=⟨CO (BB w lo2 mean mg mb (ms.take 50)),fun ι o=>o=oL⟩) (st:=⟨1341,none,40,[(1340,.plst ms),(1303,.tabl [])],[]⟩) (A1:=callerA) (envs:= []) (d:=39) (LA:= [(1340,.plst ms),(1303,.tabl [])]) (vs:= [.ref 1340]) (vs':= [.ref L]) (lo:= [(203,.ref 1340)]) SO O rfl (below_caller _) XB1 TB1 XB1
  ⟨x.toInCall.ns,fun b o e=>hk₁ b o (I4 _ e),HZ (Lm _ _)⟩ hN1 Y (fun q hq=>by
   rcases eq.mp hq with rfl|hq
   ·exact r7 hLo
   ·rw[o0.mp hq];exact r7 hP) R0 (.cons ⟨L,vv L,rfl⟩ .nil) rfl (fun ι ι=>rfl) (by decide) (by decide) hJ fun cx J1 eA eO cxo eE hle=>?_
 intro J' g' s' v' y hv
 cases hv with
 |ret hv=>
  cases hv
  obtain⟨m,news,F',N,R',_⟩:=y.ok.fr
  have hle':=Rho.le_trans hle y.le
  have hin:∀q∈EX ms,q∈st'.led:=hE
  refine hR s' (fun b o e=>?_) ⟨?_,trivial⟩ y.same.os y.same.gens
  ·by_cases hb:b=L
   ·subst hb
    rw[I4 _ e|>.symm.trans hLo|>bd]
    obtain⟨q,hq,r1,r2,r3⟩:=R'.er.mem (hin (1340,.plst ms) (.head _))
    have:J' 1340=some b:=hle' _ _ (vv b)
    have h3:q.1=b:=by
     have:=r1.symm.trans this
     exact bd this
    have h4:q.2=oL:=r2.1
    have h5:=(N q hq).1
    rw[h3,h4] at h5
    exact h5
   ·refine F'.keep _ _ (y.turn.other _ _ ?_ (by rw[eO];exact HN))
    refine IM _ (I4 _ e) fun hm=>?_
    rcases eq.mp hm with rfl|hm
    ·rw[show(ghostOf s₁.heap [(1305,1303)]).get? 1303=none from I7 _ (.head _)] at e
     cases e
    ·exact hb (o0.mp hm)
  ·obtain⟨q,hq,r1,r2,r3⟩:=R'.er.mem (hin (1303,.tabl [(955,4),(958,4)]) (.tail _ (.head _)))
   have:J' 1303=some 1303:=hle' _ _ (vu (by decide))
   have h3:q.1=1303:=bd (r1.symm.trans this)
   obtain⟨cs,_,h4⟩:=r2
   have h5:=(N q hq).1
   rw[h3,h4] at h5
   exact⟨_,h5⟩
noncomputable def YPc(w:World)(h:Heap):Prop:=(KK w.params).In h/\h.get? 1303=some (tabObj #[])
theorem yp_ok(w:World)(s:Shared)(e:s.heap=MH.HH w.params):YPc w s.heap:=by
 rw[e]
 exact⟨DF _,abs_get (t:=MH.T9 w.params) (o:=MH.fl .none []) (by decide) (by kernel_rfl)⟩
theorem yp_keeps(w:World)(h h':Heap)(y:YPc w h)(k:∀b o,h.get? b=some o->h'.get? b=some o):YPc w h':=⟨fun a o e=>k _ _ (y.1 a o e),k _ _ y.2⟩
noncomputable def lawD:DefRec:=⟨ag "law",MH.fA (MH.st 154),MH.fB (MH.st 154),MH.fS (MH.st 154),match MH.st 154 with| .FunctionDef _ _ _ _ _ _ _ _ _ p=>p|_=>⟨0,0,0,0⟩⟩
theorem law_def:defOf MH.q1 (ag "law")=some (lawD,[]):=by kernel_rfl
set_option tactic.hygienic true in
theorem call_:WalkO MH.q1 MH.lo1 (fun ι ι=>True) YPc PySem.Challenge.rw_pq0369_01.row.toRowW lawD [] (fun f vs=>LF f vs):=by
 intro w s₀ s₁ mg mb G Y fa o pm cd doc dV kV ho hd hcd hD hmg hg args vals as hpre hlay hrd hwl hlo
 wrow_args hpre hlay hrd hwl hlo
 rename_i ms hs q1 q2 q3 q4 as1 as2 L its as3 hL ra hw1 r0 hI q5 hc1 hc2
 have hT:TabsAt [(1305,1303)] s₁.heap:=fun q hq=>by
  rw[o0.mp hq]
  exact⟨codeHd_of_K Y.1 (DH _),Y.2⟩
 refine enter_call (kn_post (tabs:= [(1305,1303)]) hT (fun ι ι=>rfl) ?_)
 refine rz (w:=w) G.T Y.1 Y.2 hmg hL hI (by omega) fun s' k1 k2 k3 k4=>⟨⟨.inl ⟨.bool true,.bool true,[],rfl,fun ι=>rfl,.bool _,?_,fun ι=>⟨.nil,fun a ha=>by cases ha⟩⟩,k1,k3,k4.trans hg⟩,k2⟩
 wrow_post
theorem v_ok:(chainsOk MH.q1&&opensWell PySem.Challenge.rw_pq0369_01.row.prog&&(frees PySem.Challenge.rw_pq0369_01.row.toRowW&&PySem.Challenge.rw_pq0369_01.row.within.isEmpty))=true:=by kernel_rfl
theorem v_def:PySem.Challenge.rw_pq0369_01.row.prog.theDef PySem.Challenge.rw_pq0369_01.row.name=some (lawD.params,lawD.body,lawD.scope):=by kernel_rfl
theorem v_kw:kwWritten? lawD.params.kwonlyargs lawD.params.kw_defaults=some []:=by kernel_rfl
theorem v_bare:PySem.Challenge.rw_pq0369_01.row.prog.bare:=⟨rfl,rfl,rfl,rfl,rfl,by decide+kernel⟩
theorem v_hw:PySem.Challenge.rw_pq0369_01.row.toRowW.promised:=by w_witness2
theorem v_left:LeftO PySem.Challenge.rw_pq0369_01.row.prog MH.q1 MH.lo1 (fun ι=>true) (fun s=>s.heap) (fun w=>MH.HH w.params) 21000:=MH.left_
end Mine
theorem PySem.Challenge.cw_pq0369_01_holds : PySem.Challenge.rw_pq0369_01.Holds :=
 holds_law MH.said fun k1=>holds_open (q:=MH.q1) (loose:=MH.lo1) (Xt:=fun ι=>true) (XP:=fun ι ι=>True) (Yf:=fun s=>s.heap) (Ya:=fun w=>MH.HH w.params) (YP:=Mine.YPc) (d:=Mine.lawD) (kwd:= []) Mine.v_left Mine.yp_ok Mine.yp_keeps (fun ι ι=>trivial) (fun ι ι ι ι ι=>trivial)
  Mine.law_def Mine.v_def Mine.v_kw (fun s ι=>recFacts_of (R:= []) (s:=s) rfl) rfl k1 Mine.v_ok Mine.v_bare Mine.v_hw Mine.call_
end
