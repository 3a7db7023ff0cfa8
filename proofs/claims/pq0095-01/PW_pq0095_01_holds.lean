import PyProof.Rows.All
import Wide.All
import OpenK.AllK
import Wide.FinOn
import Lean
import PySem.Challenge.RW_pq0095_01
open PySem PySem.W PyProof.Rows PySem.Calls
set_option Elab.async false
set_option linter.all false
set_option maxRecDepth 100000
set_option maxHeartbeats 0
set_option genCtorIdx false
set_option genSizeOf false
set_option genInjectivity false
namespace Mine.Internal
local macro_rules |`(mutual $cs* end)=>let d:=cs[0]!.raw[1][2][1][1].getSepArgs;let n:=cs[1]!.raw;let f:=fun (c:UInt8)=>let c:=c.toNat;if c<58 then c-48 else if c<91 then c-55 else c-61;return Nat.repeat (fun (go:Lean.Syntax→Lean.Syntax) s=>let m:=(s.getId.toString++"0").toUTF8;if m.size>2&&m.size<5&&m.get! 0>88&&m.get! 0<91 then go (d.getD (f (m.get! 0)*3844+f (m.get! 1)*62+f (m.get! 2)-130694) s) else let s:=(s.setInfo .none).setArgs ⟨s.getArgs.toList.map go⟩;if s.getKind==d[1]!.getKind then d[0]!.setArg 1 (Lean.mkNullNode #[s[0],s[2]]) else if s[1].getKind==n[1].getKind then s.setArg 0 (s[0].setArg 4 n[0][4]) else s) 9999 id (Lean.mkNullNode (cs.extract 2 cs.size))
open And renaming intro→v5
open _root_.Array renaming length_toList→iv,getElem?_toList→l9,getElem?_eq_getElem→od,getD_eq_getD_getElem?→sq,forIn_toList→NF,toList→abR,toList_push→acf,getElem?_eq_none→acq,toList_inj→axM,empty_append→axP,append_empty→axQ,eraseIdxIfInBounds_eq→ax0
open Bool renaming false_ne_true→h8,not_eq_true'→jY,noConfusion→vV,true_and→xY,or_true→ya,or_false→Ds,false_and→NG,and_false→ab6,true_or→acv,and_eq_true_iff→axI,or_eq_true_iff→axJ,eq_false_iff→axK
open Classical renaming byContradiction→bp
open ForInStep renaming yield→ub
open Iff renaming mpr→xZ,mp→Dq,rfl→Hs
open Int renaming natCast_nonneg→vY,ofNat_lt→x1,ofNat_le→Dk,lt_of_le_of_lt→Hb,le_trans→NK,add_sub_cancel→acr,eq_ofNat_of_zero_le→ax3
open _root_.List renaming length_map→bt,toArray→bT,mem_cons_self→b3,length_append→cj,not_mem_nil→cS,range→di,getElem?_eq_getElem→dy,map_append→dK,mem_append_right→d8,mem_of_getElem?→et,mem_cons_of_mem→eI,append_nil→eL,length_range→fN,getElem?_map→gy,cons_ne_nil→gP,length_cons→g5,getD_eq_getElem?_getD→ho,append_assoc→hG,mem_append_left→ko,map_map→kJ,nodup_nil→lC,length→l5,map_cons→mF,lookup_cons→nz,Pairwise→oa,forIn_cons→o6,eq_nil_of_length_eq_zero→p5,getElem?_eq_none→p6,getElem?_append_left→qb,getElem?_toArray→q8,getElem?_range→q9,getElem?_append_right→ra,flatMap_append→rg,replicate→sl,map_congr_left→sv,length_singleton→sx,length_filter_le→ue,flatMap_cons→uf,getElem?_concat_length→ug,sum_append→ui,forIn_nil→vW,getElem_mem→v3,foldl_append→wc,mem_cons→xT,nodup_append→xU,getElem?_nil→xV,getElem?_inj→xX,getElem_map→x4,nodup_range→x9,sum_cons→yb,mem_map→z7,mem_singleton→z8,map→z9,mem_append→Aa,size_toArray→Ac,zip_cons_cons→Ad,any_cons→Ae,take_append_drop→Ai,mem_filter→Dh,nodup_iff_pairwise_ne→Di,filterMap_cons→Dm,perm_ext_iff_of_nodup→Dr,flatMap_nil→Dt,mem_range→G5,mem_flatMap→G6,pairwise_map→G7,drop→G8,foldl→Hc,lookup→Hf,ext_getElem→Hi,getElem_range→Hj,length_nil→Hl,pairwise_lt_range→Ho,nil_append→Hu,filter_cons→Hv,filter_append→Hw,all_eq_true→NC,flatMap→ND,zip_nil_right→NH,foldl_cons→NI,ext_getElem?→NM,getElem_eq_getD→NO,drop_eq_getElem_cons→NV,getElem?_set_ne→NY,casesOn→NZ,take_length→N0,getElem?_take_of_lt→N1,pairwise_singleton→N4,pairwise_iff_getElem→N5,length_take_of_le→Oi,cons_append→Oj,length_zipIdx→Ol,sum_singleton→Ot,map_id→Ov,filterMap→abM,mem_filterMap→abN,any_eq_true→abO,toList_toArray→abP,append_toArray→abU,push_toArray→abW,getElem?_drop→acd,map_take→acg,map_drop→ach,perm_middle→aci,filter_congr→acA,getElem?_zipIdx→acD,map_singleton→acE,pairwise_cons→axL,pairwise_append→axN,mem_zipIdx_iff_getElem?→axO,zip_nil_left→axS,findIdx?_cons→axU,findIdx?_toArray→axV,replicate_succ→axX,eraseIdx_toArray→ax1,eraseIdx_of_length_le→ax2,getElem_toArray→ax7,reverse_cons→ayg,mem_of_find?_eq_some→ayi,mem_erase_of_ne→ayt,length_erase_of_mem→ayu,length_pos_of_mem→ayv,filterMap_map→ayA,getElem?_cons_succ→ayB,map_eq_flatMap→ayJ,contains_cons→ayQ,dropWhile_cons→ayS
open List.Nodup renaming sublist→axT
open List.Pairwise renaming nil→Hk,filter→Oq,imp_of_mem→ayz,imp→ayO
open List.Perm renaming cons→ays
open List.cons renaming inj→g4
open Nat renaming le_trans→au,le_refl→bV,le_add_right→cx,add_le_add_left→c0,add_assoc→dw,le_of_eq→dH,zero_le→dQ,succ_le_succ→dX,ne_of_lt→ej,lt_of_lt_of_le→ew,le_add_left→fp,lt_of_le_of_lt→fF,add_right_comm→fO,add_comm→gi,add_le_add→gR,le_of_lt_succ→hp,le_of_not_lt→hq,add_le_add_right→h7,le_of_lt→h9,mul_le_mul_left→iu,le_succ→jt,succ_pos→jI,le_succ_of_le→kn,succ_ne_zero→k5,lt_trans→lD,zero_add→l8,le_antisymm→mG,mul_le_mul_right→mI,beq→o5,lt_succ_self→o9,not_lt_zero→pa,ne_of_gt→p8,lt_succ_of_lt→p9,lt_of_le_of_ne→rb,add_sub_cancel'→rd,sub_self→rf,not_lt_of_le→sm,not_le_of_lt→su,lt_irrefl→t9,le_of_succ_le→ud,mul_add→uh,succ_mul→wb,lt_succ_of_le→x3,pow_succ→x7,sub_add_cancel→x8,succ→Ab,le_sub_one_of_lt→Af,zero_lt_of_lt→Ag,mul_assoc→Aj,lt_of_not_le→Dl,two_pos→Dn,succ_add_eq_add_succ→Dp,mul_succ→Du,ne_of_beq_eq_false→G4,min_eq_left→Hg,mul_two→Hh,mul_pos→Hx,one_mul→NJ,succ_ne_self→NU,le_of_succ_le_succ→NX,sub_sub→N2,max_eq_left→N3,lt_or_eq_of_le→Ob,le_mul_of_pos_left→Oe,mod_lt→Oh,max_eq_right→Om,zero_mul→Oo,add_zero→Ou,le_max_left→Ow,le_max_right→Ox,min_self→abX,add_left_cancel→ab3,lt_add_of_pos_right→ab7,sub_pos_of_lt→acj,add_lt_add_left→ack,pos_of_ne_zero→acp,add_mul_mod_self_left→acs,min_eq_right→acu,mul_left_comm→acw,add_mul→acx,two_mul→acy,le_mul_of_pos_right→acz,add_left_comm→acB,le_of_add_le_add_right→acC,le_of_ble_eq_true→axH,sub_lt_sub_left→ayd,sub_le_sub_left→ayk,le_div_iff_mul_le→ayl,div_lt_iff_lt_mul→aym,add_lt_add_right→ayn,succ_lt_succ_iff→ayo,zero_ne_add_one→ayp,not_succ_le_self→ayw,exists_eq_add_of_le→ayx,lt_of_add_lt_add_left→ayy,eq_of_mul_eq_mul_left→ayK,le_of_mul_le_mul_left→ayL,pow_le_pow_right→ayM,add_sub_cancel→ayN,div_le_div_right→ayP
open Nat.succ renaming inj→oc
open Ne renaming symm→q6
open Option renaming some_ne_none→sk,getD→Ha
open Option.some renaming inj→cu
open Prod renaming ext→iF,fst→NW
open Prod.mk renaming inj→gQ
open PyProof.Rows.F renaming plain_set_update_loop→acm,entry_set_update_loop→ayC
open PySem renaming strKind→o7,wpAt_of_wpAny→Hy,KeyKind→Og,intKind→abT,wpAt_bind→acH,wpAt→acI,list_append→axZ,callWith_type→ayc
open PySem.Around renaming under_plainId→Ah,frames_deeper→acK
open PySem.AutoSeq1 renaming wpAny_loadPart'→ab2
open PySem.Builtin.Dict renaming takeOut→ax5
open PySem.Builtin.List renaming listSameRef→ayG
open PySem.Builtin.ObjectAttr renaming storeInDict→ayU
open PySem.Builtin.Range renaming rangeSize→ab5
open PySem.Builtin.SmallTypes renaming nextOf→He,ownedTupleIsFree→ayb
open PySem.Builtin.Str renaming occurrences→acG
open PySem.Builtin.Tuple renaming tupleHashOf→xW
open PySem.Calls renaming spliced_nil→NS,spliced_cons→NT
open PySem.Code renaming builtin→x2,quiet_builtin→acn
open PySem.Data renaming noConfusion→vX
open PySem.Data.func renaming inj→Oy
open PySem.Data.seq renaming inj→abS
open PySem.Expr renaming casesOn→p7,Call→ab4
open PySem.F renaming slot_tuple_hash→G9,slot_list_pop→NL,slot_tuple_iterator_next→NP,slot_zip_next→NR,plainAttrs_list→N7,plainAttrs_dict→N8,slot_tuple_getattribute→N9,slot_tuple_eq→abQ,slot_list_append→abV,slot_dict_keyiterator_next→ab8,ks_slot_super_ga→acJ,args_list_append_2→axY,slot_dict_setdefault→ax4,entry_tuple_iterator_next→ax8,args_tuple_iterator_next_1→ax9,slot_tuple_getitem→ayh,plain_set_new→ayD,called_set→ayE,plain_extend_loop→ayH,plain_list_iadd→ayI,excBase_Exception→ayR,store_Exception→ayT
open PySem.FuncBody.stmts renaming inj→Oz
open PySem.Heap renaming get?_push_of_some→eu,lt_size→fE,get?_push_size→fM,SameBut→mE,get?_update_self→q7,size_push→so,ExtBut→vZ,get?_update_other→Ht,IsTuple→ab0,get?_update_ne→aca
open PySem.Heap.IsSliceOf renaming new→ayj
open PySem.Heap.SameBut renaming update→km,refl→ayf
open PySem.KeyKind renaming is_eq_decide→axW
open PySem.NameKind renaming noConfusion→o8,free→uc,cell→v7,globalImplicit→acL
open PySem.Obj renaming mapSeq→l7,data→ua,mapFields→x5,putSet→x6,cls→Dj,mapDictKeys→Hd,data_mapFields→NQ,isFreed_of_fields→aya
open PySem.Sem renaming wp_bind'→NN,wp_mono→abZ
open PySem.SetTable renaming runEnd→iS,leap→mH,below→oe,insertAt→pb,bits→sr,Probe→v9,grown→wa,toList_insertAt→Hm,laid→Hp,turns→Hq,has→Oc,fill→Od,layClean→Of,fits→ace,insertAt_perm→ayr
open PySem.SetTable.Met renaming candidate→ayq
open PySem.SetTable.Slot renaming noConfusion→Hn
open PySem.SetTable.below renaming go→Oa
open PySem.SetTable.layClean renaming free→Hr
open PySem.SetTable.probe renaming go→qa
open PySem.Shared renaming heap→ab1
open PySem.Stmt renaming Assign→aye
open PySem.Str renaming ofString→er,empty→jc
open PySem.Txt renaming isspace→acF
open PySem.Value renaming noConfusion→hn,ref→jX,none→l6,type→v8,bool→abY,isStrOf_shape→acb
open PySem.Value.bool renaming inj→ax6
open PySem.Value.ref renaming inj→N6
open PySem.Value.str renaming inj→axR
open PySem.Value.type renaming inj→t8
open PySem.Walks renaming list→ab9
open PySem.pickOrder renaming go→aco
open String renaming splitOnAux→ayF
open PySem
mutual
example:=⟨1,1^^^2⟩
noncomputable def x:=1
inductive hR(a b:Prop):Prop
 |mk (l:a) (r:b)
inductive jd(a0 a1 a2:Prop):Prop
 |mk (h0:a0) (ak:a1) (av:a2)
inductive hr(a0 a1 a2 dB:Prop):Prop
 |mk (h0:a0) (ak:a1) (av:a2) (aP:dB)
inductive iG(a0 a1 a2 dB eb:Prop):Prop
 |mk (h0:a0) (ak:a1) (av:a2) (aP:dB) (da:eb)
inductive yc(a0 a1 a2 dB eb g6:Prop):Prop
 |mk (h0:a0) (ak:a1) (av:a2) (aP:dB) (da:eb) (fG:g6)
inductive Ak(a0 a1 a2 dB eb g6 ia:Prop):Prop
 |mk (h0:a0) (ak:a1) (av:a2) (aP:dB) (da:eb) (fG:g6) (pd:ia)
inductive OA(a0 a1 a2 dB eb g6 ia k6:Prop):Prop
 |mk (h0:a0) (ak:a1) (av:a2) (aP:dB) (da:eb) (fG:g6) (pd:ia) (nA:k6)
inductive yd(a0 a1 a2 dB eb g6 ia k6 nB:Prop):Prop
 |mk (h0:a0) (ak:a1) (av:a2) (aP:dB) (da:eb) (fG:g6) (pd:ia) (nA:k6) (lE:nB)
inductive acM(a0 a1 a2 dB eb g6 ia k6 nB rh:Prop):Prop
 |mk (h0:a0) (ak:a1) (av:a2) (aP:dB) (da:eb) (fG:g6) (pd:ia) (nA:k6) (lE:nB) (qc:rh)
inductive acN(a0 a1 a2 dB eb g6 ia k6 nB rh wd:Prop):Prop
 |mk (h0:a0) (ak:a1) (av:a2) (aP:dB) (da:eb) (fG:g6) (pd:ia) (nA:k6) (lE:nB) (qc:rh) (OB:wd)
theorem acO{a b c:Prop}(h:a→(b↔c)):hR a b↔hR a c:=⟨λz=>⟨z.1,(h z.1).mp z.2⟩,λz=>⟨z.1,(h z.1).mpr z.2⟩⟩
theorem acP{a b c:Prop}(h:a→(b↔c)):hR a b↔And a c:=⟨λz=>⟨z.1,(h z.1).mp z.2⟩,λz=>⟨z.1,(h z.1).mpr z.2⟩⟩
variable{β:Type}{α:Type}{l:List α}
theorem OC{f:α→β}{b:β}:b∈l.map f↔∃a,hR (a∈l) (f a=b):=z7.trans ⟨λz=>z.imp λa z=>⟨z.1,z.2⟩,λz=>z.imp λO z=>⟨z.1,z.2⟩⟩
variable{a:Nat}
theorem dl{b:Nat}(h:Nat.ble a b=true):a≤b:=axH h
theorem uj{b:Nat}(h:Nat.ble (a+1) b=true):a<b:=axH h
theorem cq{b:Nat}(h:Nat.beq a b=false):a≠b:=G4 h
theorem tt:true=true:=rfl
theorem cp:false=false:=rfl
theorem bR{α:Type _}{a b:α}(h:a∈[b]):a=b:=z8.mp h
theorem cL{x y:Bool}(h:(x&&y)=true):x=true∧y=true:=axI.mp h
theorem dz{hS:Type _}{b:hS}{l:List hS}{a:hS}(h:a∈b::l):a=b∨a∈l:=xT.mp h
theorem ee{α:Type _}{β:Type _}{b:β}{f:α→β}{l:List α}(h:b∈z9 f l):∃(a:α),a∈l∧f a=b:=z7.mp h
theorem gG{x y:Bool}(h:(x||y)=true):x=true∨y=true:=axJ.mp h
theorem iw{α:Type _}{a:α}{s t:List α}(h:a∈s++t):a∈s∨a∈t:=Aa.mp h
theorem je{α:Type _}{a b:α}(h:a=b):a∈[b]:=z8.mpr h
theorem ju{α:Type _}{p:α→Bool}{l:List α}(h:l.all p=true):∀(x:α),x∈l→p x=true:=NC.mp h
variable{i:Nat}
theorem jJ{α:Type _}{a:α}{l:List α}(h:l[i]?=some a):∃(h:i<l.length),l[i]=a:=List.getElem?_eq_some_iff.mp h
theorem jK{m n:Nat}(h:m∈di n):m<n:=G5.mp h
theorem kp{α:Type _}{β:Type _}{b:β}{f:α→β}{l:List α}(h:∃(a:α),a∈l∧f a=b):b∈z9 f l:=z7.mpr h
theorem lF{x y:Bool}(h:x=true∧y=true):(x&&y)=true:=axI.mpr h
theorem ma{α:Type _}{a:α}{l:List α}(h:¬a∈l∧l.Nodup):(a::l).Nodup:=List.nodup_cons.mpr h
theorem og{m n:Nat}(h:m<n):m∈di n:=G5.mpr h
theorem pe{α:Type _}{a:α}{l:List α}(h:a∈l):∃(i:Nat),l[i]?=some a:=List.mem_iff_getElem?.mp h
theorem ri{hS:Type _}{p:hS→Bool}{as:List hS}{x:hS}(h:x∈List.filter p as):x∈as∧p x=true:=Dh.mp h
theorem rj{α:Type _}{β:Type _}{f:α→List β}{b:β}{l:List α}(h:b∈ND f l):∃(a:α),a∈l∧b∈f a:=G6.mp h
theorem sy{a b:Bool}(h:(a=true↔b=true)):a=b:=Bool.eq_iff_iff.mpr h
theorem sz{α:Type _}{p:α→Bool}{l:List α}(h:∀(x:α),x∈l→p x=true):l.all p=true:=NC.mpr h
theorem sA{α:Type _}{l:List α}(h:l.isEmpty=true):l=[]:=List.isEmpty_iff.mp h
theorem uk{α:Type _}{a:α}{l:List α}(h:(a::l).Nodup):¬a∈l∧l.Nodup:=List.nodup_cons.mp h
theorem we{hS:Type _}{o:Option hS}(h:∀(a:hS),o≠some a):o=none:=Option.eq_none_iff_forall_ne_some.mpr h
theorem wg{x y:Bool}(h:x=true∨y=true):(x||y)=true:=axJ.mpr h
theorem wh{α:Type _}{b:α}{xs:Array α}(h:xs[i]?=some b):∃(h:i<xs.size),xs[i]=b:=Array.getElem?_eq_some_iff.mp h
theorem ye{b:Nat}(h:b≤a):¬a<b:=Nat.not_lt.mpr h
theorem yf{α:Type _}{β:Type _}{f:α→Option β}{l:List α}{b:β}(h:b∈abM f l):∃(a:α),a∈l∧f a=some b:=abN.mp h
theorem yg{α:Type _}{hS:Type _}{f:α→hS}{R:hS→hS→Prop}{l:List α}(h:oa (λ(a b:α)=>R (f a) (f b)) l):oa R (z9 f l):=G7.mpr h
theorem yh{n:Nat}(h:n<1):n=0:=Nat.lt_one_iff.mp h
theorem Al{hS:Type _}{b:hS}{Hz:Type _}{x:Option Hz}{f:Hz→hS}(h:Option.map f x=some b):∃(a:Hz),x=some a∧f a=b:=Option.map_eq_some_iff.mp h
theorem Am(h:i≤0):i=0:=Nat.le_zero.mp h
theorem An{α:Type _}{o:Option α}(h:o.isNone=true):o=none:=Option.isNone_iff_eq_none.mp h
theorem Ao{m n:Nat}(h:m<n.succ):m<n∨m=n:=Nat.lt_succ_iff_lt_or_eq.mp h
theorem Ap{α:Type _}{β:Type _}{f:α→List β}{b:β}{l:List α}(h:∃(a:α),a∈l∧b∈f a):b∈ND f l:=G6.mpr h
theorem Dv{α:Type _}{a:α}{l:List α}(h:a∈l.toArray):a∈l:=List.mem_toArray.mp h
theorem Dw{b:Bool}(h:b=false):b≠true:=Bool.eq_false_iff.mp h
theorem Dx{α:Type _}{R:α→α→Prop}{a:α}{l:List α}(h:(∀(jf:α),jf∈l→R a jf)∧oa R l):oa R (a::l):=axL.mpr h
theorem Dy{hS:Type _}{p q:List hS}(h:p++q=[]):p=[]∧q=[]:=List.append_eq_nil_iff.mp h
theorem Dz{α:Type _}{l₁ l₂:List α}(h:l₁.Nodup∧l₂.Nodup∧∀(a:α),a∈l₁→∀(b:α),b∈l₂→a≠b):(l₁++l₂).Nodup:=xU.mpr h
theorem DA{α:Type _}{β:Type _}{f:α→β}{l:List α}(h:z9 f l=[]):l=[]:=List.map_eq_nil_iff.mp h
theorem DB{α:Type _}{β:Type _}{f:α→Option β}{l:List α}{b:β}(h:∃(a:α),a∈l∧f a=some b):b∈abM f l:=abN.mpr h
theorem HA{b:Bool}(h:b≠true):b=false:=Bool.eq_false_iff.mpr h
theorem HB{α:Type _}{xs bf:Array α}(h:xs.toList=bf.toList):xs=bf:=axM.mp h
theorem HC{α:Type _}{hS:Type _}{f:α→hS}{R:hS→hS→Prop}{l:List α}(h:oa R (z9 f l)):oa (λ(a b:α)=>R (f a) (f b)) l:=G7.mp h
theorem HD{hS:Type _}{l:List hS}(h:oa (λ(c6 cT:hS)=>c6≠cT) l):l.Nodup:=Di.mpr h
theorem HE{α:Type _}{l₁ l₂:List α}(h:(l₁++l₂).Nodup):l₁.Nodup∧l₂.Nodup∧∀(a:α),a∈l₁→∀(b:α),b∈l₂→a≠b:=xU.mp h
theorem HF{β:Type _}{α:Type _}{R:β→β→Prop}{l:List α}{f:α→List β}(h:(∀(a:α),a∈l→oa R (f a))∧oa (λ(acQ acR:α)=>∀(x:β),x∈f acQ→∀(y:β),y∈f acR→R x y) l):oa R (ND f l):=List.pairwise_flatMap.mpr h
theorem OD{b:Nat}(h:¬a<b):b≤a:=Nat.not_lt.mp h
theorem OE{α:Type _}{l:List α}(h:G8 i l=[]):l.length≤i:=List.drop_eq_nil_iff.mp h
theorem OF{α:Type _}{p:α→Bool}{l:List α}(h:l.any p=true):∃(x:α),x∈l∧p x=true:=abO.mp h
theorem OG{n m:Nat}(h:n - m=0):n≤m:=Nat.sub_eq_zero_iff_le.mp h
theorem OH{hS:Type _}{x:Option hS}(h:x.isSome=true):∃(a:hS),x=some a:=Option.isSome_iff_exists.mp h
theorem OI{α:Type _}[LT α]{l₁ l₂:List α}(h:¬l₁<l₂):l₂≤l₁:=List.not_lt.mp h
theorem OJ{α:Type _}{R:α→α→Prop}{l₁ l₂:List α}(h:oa R l₁∧oa R l₂∧∀(a:α),a∈l₁→∀(b:α),b∈l₂→R a b):oa R (l₁++l₂):=axN.mpr h
theorem OK{α:Type _}{R:α→α→Prop}{a:α}{l:List α}(h:oa R (a::l)):(∀(jf:α),jf∈l→R a jf)∧oa R l:=axL.mp h
theorem OL{b:Nat}(h:b<a):¬a≤b:=Nat.not_le.mpr h
theorem OM{α:Type _}{a b:α}(h:[a]=[b]):a=b:=List.singleton_inj.mp h
theorem ON{α:Type _}{x:α×Nat}{l:List α}(h:l[x.snd]?=some x.fst):x∈l.zipIdx:=axO.mpr h
theorem cA{α:Sort _}{a b c:α}(h:b=a)(k:b=c):a=c:=h.symm.trans k
theorem c4{α:Type _}{o:Option α}{a b:α}(h:o=some a)(k:o=some b):a=b:=cu (h.symm.trans k)
theorem g7{P:Prop}{α:Type _}{o:Option α}{a:α}(h:o=some a)(k:o=none):P:=absurd (h.symm.trans k) (sk _)
end
mutual
example:=⟨hR 1 2,1∧2⟩
noncomputable def x:=1
theorem iH{P:Prop}(h:P):P:=h
theorem nb{P:Prop}{b:Bool}(h:b=!b):P:=by
 cases b
 ·exact vV h
 ·exact vV h
theorem cW{P:Prop}{a:α}(h:some a=none):P:=absurd h (sk _)
variable{A:Around}{s:Shared}{M:Model}
theorem cC{m:Sem α}{Q:α→Shared→Prop}{E:Value→Shared→Prop}(h:let Q':=Q;let E':=E;let s':=s;wpAny M A m Q' E' s'):wpAny M A m Q E s:=h
theorem ht{m:Sem α}{Q:α→Shared→Prop}{E:Value→Shared→Prop}(h:let Q':=Q;let E':=E;wpAny M A m Q' E' s):wpAny M A m Q E s:=h
theorem bd{Q:α→Shared→Prop}{E:Value→Shared→Prop}{f:β→Sem α}{m:Sem β}(h:wpAny M A m (λb=>wpAny M A (f b) Q E) E s):wpAny M A (m >>= f) Q E s:=wpAny_bind h
theorem fw{α:Sort _}{P:α→Prop}{a b:α}(h:a=b)(k:P b):P a:=h▸k
theorem g8{α:Sort _}{P:α→Prop}{a b:α}(h:b=a)(k:P b):P a:=h▸k
@[elab_as_elim] theorem aa{α:Sort _}{P:α→Prop}{a b:α}(h:a=b)(k:P b):P a:=h▸k
@[elab_as_elim] theorem aV{α:Sort _}{P:α→Prop}{a b:α}(h:b=a)(k:P b):P a:=h▸k
theorem aL{α:Sort _}{R:α→Prop}{a b:α}(h:a=b)(k:R b):R a:=fw (P:=λx=>R x) h k
theorem bL{α:Sort _}{R:α→Prop}{a b:α}(h:b=a)(k:R b):R a:=g8 (P:=λx=>R x) h k
theorem aj{α:Sort _}{bE:Sort _}{R:α→bE→Prop}{a b:α}{aY:bE}(h:a=b)(k:R b aY):R a aY:=fw (P:=λx=>R x aY) h k
theorem aQ{α:Sort _}{bE:Sort _}{R:α→bE→Prop}{a b:α}{aY:bE}(h:b=a)(k:R b aY):R a aY:=g8 (P:=λx=>R x aY) h k
theorem d9{α:Sort _}{bE:Sort _}{dc:Sort _}{R:α→bE→dc→Prop}{a b:α}{aY:bE}{cD:dc}(h:a=b)(k:R b aY cD):R a aY cD:=fw (P:=λx=>R x aY cD) h k
theorem lG{α:Sort _}{bE:Sort _}{dc:Sort _}{R:α→bE→dc→Prop}{a b:α}{aY:bE}{cD:dc}(h:b=a)(k:R b aY cD):R a aY cD:=g8 (P:=λx=>R x aY cD) h k
theorem cb{α:Sort _}{bE:Sort _}{dc:Sort _}{g9:Sort _}{R:α→bE→dc→g9→Prop}{a b:α}{aY:bE}{cD:dc}{fh:g9}(h:a=b)(k:R b aY cD fh):R a aY cD fh:=fw (P:=λx=>R x aY cD fh) h k
theorem Aq{α:Sort _}{bE:Sort _}{dc:Sort _}{g9:Sort _}{R:α→bE→dc→g9→Prop}{a b:α}{aY:bE}{cD:dc}{fh:g9}(h:b=a)(k:R b aY cD fh):R a aY cD fh:=g8 (P:=λx=>R x aY cD fh) h k
theorem kK{α:Sort _}{bE:Sort _}{dc:Sort _}{g9:Sort _}{nC:Sort _}{R:α→bE→dc→g9→nC→Prop}{a b:α}{aY:bE}{cD:dc}{fh:g9}{kL:nC}(h:a=b)(k:R b aY cD fh kL):R a aY cD fh kL:=fw (P:=λx=>R x aY cD fh kL) h k
theorem acS{α:Sort _}{bE:Sort _}{dc:Sort _}{g9:Sort _}{nC:Sort _}{R:α→bE→dc→g9→nC→Prop}{a b:α}{aY:bE}{cD:dc}{fh:g9}{kL:nC}(h:b=a)(k:R b aY cD fh kL):R a aY cD fh kL:=g8 (P:=λx=>R x aY cD fh kL) h k
theorem bW{α:Sort _}{a3:Sort _}{R:a3→Prop}{f1:α→a3}{a b:α}(h:a=b)(k:R (f1 b)):R (f1 a):=fw (P:=λx=>R (f1 x)) h k
theorem fU{α:Sort _}{a3:Sort _}{R:a3→Prop}{f1:α→a3}{a b:α}(h:b=a)(k:R (f1 b)):R (f1 a):=g8 (P:=λx=>R (f1 x)) h k
theorem dS{α:Sort _}{b4:Sort _}{a3:Sort _}{R:a3→Prop}{f1:α→b4→a3}{a b:α}{ba:b4}(h:a=b)(k:R (f1 b ba)):R (f1 a ba):=fw (P:=λx=>R (f1 x ba)) h k
theorem um{α:Sort _}{b4:Sort _}{a3:Sort _}{R:a3→Prop}{f1:α→b4→a3}{a b:α}{ba:b4}(h:b=a)(k:R (f1 b ba)):R (f1 a ba):=g8 (P:=λx=>R (f1 x ba)) h k
theorem Ar{α:Sort _}{b4:Sort _}{eD:Sort _}{a3:Sort _}{R:a3→Prop}{f1:α→b4→eD→a3}{a b:α}{ba:b4}{cJ:eD}(h:a=b)(k:R (f1 b ba cJ)):R (f1 a ba cJ):=fw (P:=λx=>R (f1 x ba cJ)) h k
theorem pf{α:Sort _}{b4:Sort _}{eD:Sort _}{a3:Sort _}{R:a3→Prop}{f1:α→b4→eD→a3}{a b:α}{ba:b4}{cJ:eD}(h:b=a)(k:R (f1 b ba cJ)):R (f1 a ba cJ):=g8 (P:=λx=>R (f1 x ba cJ)) h k
theorem aX{α:Sort _}{a3:Sort _}{bE:Sort _}{R:a3→bE→Prop}{f1:α→a3}{a b:α}{aY:bE}(h:a=b)(k:R (f1 b) aY):R (f1 a) aY:=fw (P:=λx=>R (f1 x) aY) h k
theorem bN{α:Sort _}{a3:Sort _}{bE:Sort _}{R:a3→bE→Prop}{f1:α→a3}{a b:α}{aY:bE}(h:b=a)(k:R (f1 b) aY):R (f1 a) aY:=g8 (P:=λx=>R (f1 x) aY) h k
theorem aT{α:Sort _}{b4:Sort _}{a3:Sort _}{bE:Sort _}{R:a3→bE→Prop}{f1:α→b4→a3}{a b:α}{aY:bE}{ba:b4}(h:a=b)(k:R (f1 b ba) aY):R (f1 a ba) aY:=fw (P:=λx=>R (f1 x ba) aY) h k
theorem eT{α:Sort _}{b4:Sort _}{a3:Sort _}{bE:Sort _}{R:a3→bE→Prop}{f1:α→b4→a3}{a b:α}{aY:bE}{ba:b4}(h:b=a)(k:R (f1 b ba) aY):R (f1 a ba) aY:=g8 (P:=λx=>R (f1 x ba) aY) h k
theorem dT{α:Sort _}{b4:Sort _}{eD:Sort _}{a3:Sort _}{bE:Sort _}{R:a3→bE→Prop}{f1:α→b4→eD→a3}{a b:α}{aY:bE}{ba:b4}{cJ:eD}(h:a=b)(k:R (f1 b ba cJ) aY):R (f1 a ba cJ) aY:=fw (P:=λx=>R (f1 x ba cJ) aY) h k
theorem gn{α:Sort _}{b4:Sort _}{eD:Sort _}{a3:Sort _}{bE:Sort _}{R:a3→bE→Prop}{f1:α→b4→eD→a3}{a b:α}{aY:bE}{ba:b4}{cJ:eD}(h:b=a)(k:R (f1 b ba cJ) aY):R (f1 a ba cJ) aY:=g8 (P:=λx=>R (f1 x ba cJ) aY) h k
theorem As{α:Sort _}{b4:Sort _}{eD:Sort _}{qd:Sort _}{a3:Sort _}{bE:Sort _}{R:a3→bE→Prop}{f1:α→b4→eD→qd→a3}{a b:α}{aY:bE}{ba:b4}{cJ:eD}{mJ:qd}(h:a=b)(k:R (f1 b ba cJ mJ) aY):R (f1 a ba cJ mJ) aY:=fw (P:=λx=>R (f1 x ba cJ mJ) aY) h k
theorem DC{α:Sort _}{b4:Sort _}{eD:Sort _}{qd:Sort _}{a3:Sort _}{bE:Sort _}{R:a3→bE→Prop}{f1:α→b4→eD→qd→a3}{a b:α}{aY:bE}{ba:b4}{cJ:eD}{mJ:qd}(h:b=a)(k:R (f1 b ba cJ mJ) aY):R (f1 a ba cJ mJ) aY:=g8 (P:=λx=>R (f1 x ba cJ mJ) aY) h k
theorem mK{α:Sort _}{a3:Sort _}{bE:Sort _}{dc:Sort _}{R:a3→bE→dc→Prop}{f1:α→a3}{a b:α}{aY:bE}{cD:dc}(h:a=b)(k:R (f1 b) aY cD):R (f1 a) aY cD:=fw (P:=λx=>R (f1 x) aY cD) h k
theorem acT{α:Sort _}{a3:Sort _}{bE:Sort _}{dc:Sort _}{R:a3→bE→dc→Prop}{f1:α→a3}{a b:α}{aY:bE}{cD:dc}(h:b=a)(k:R (f1 b) aY cD):R (f1 a) aY cD:=g8 (P:=λx=>R (f1 x) aY cD) h k
theorem jL{α:Sort _}{b4:Sort _}{a3:Sort _}{bE:Sort _}{dc:Sort _}{R:a3→bE→dc→Prop}{f1:α→b4→a3}{a b:α}{aY:bE}{cD:dc}{ba:b4}(h:a=b)(k:R (f1 b ba) aY cD):R (f1 a ba) aY cD:=fw (P:=λx=>R (f1 x ba) aY cD) h k
theorem acU{α:Sort _}{b4:Sort _}{a3:Sort _}{bE:Sort _}{dc:Sort _}{R:a3→bE→dc→Prop}{f1:α→b4→a3}{a b:α}{aY:bE}{cD:dc}{ba:b4}(h:b=a)(k:R (f1 b ba) aY cD):R (f1 a ba) aY cD:=g8 (P:=λx=>R (f1 x ba) aY cD) h k
theorem rk{α:Sort _}{b4:Sort _}{eD:Sort _}{a3:Sort _}{bE:Sort _}{dc:Sort _}{R:a3→bE→dc→Prop}{f1:α→b4→eD→a3}{a b:α}{aY:bE}{cD:dc}{ba:b4}{cJ:eD}(h:a=b)(k:R (f1 b ba cJ) aY cD):R (f1 a ba cJ) aY cD:=fw (P:=λx=>R (f1 x ba cJ) aY cD) h k
theorem acV{α:Sort _}{b4:Sort _}{eD:Sort _}{qd:Sort _}{a3:Sort _}{bE:Sort _}{dc:Sort _}{R:a3→bE→dc→Prop}{f1:α→b4→eD→qd→a3}{a b:α}{aY:bE}{cD:dc}{ba:b4}{cJ:eD}{mJ:qd}(h:a=b)(k:R (f1 b ba cJ mJ) aY cD):R (f1 a ba cJ mJ) aY cD:=fw (P:=λx=>R (f1 x ba cJ mJ) aY cD) h k
theorem jg{α:Sort _}{a3:Sort _}{bE:Sort _}{dc:Sort _}{g9:Sort _}{R:a3→bE→dc→g9→Prop}{f1:α→a3}{a b:α}{aY:bE}{cD:dc}{fh:g9}(h:a=b)(k:R (f1 b) aY cD fh):R (f1 a) aY cD fh:=fw (P:=λx=>R (f1 x) aY cD fh) h k
theorem ix{α:Sort _}{b4:Sort _}{a3:Sort _}{bE:Sort _}{dc:Sort _}{g9:Sort _}{R:a3→bE→dc→g9→Prop}{f1:α→b4→a3}{a b:α}{aY:bE}{cD:dc}{fh:g9}{ba:b4}(h:a=b)(k:R (f1 b ba) aY cD fh):R (f1 a ba) aY cD fh:=fw (P:=λx=>R (f1 x ba) aY cD fh) h k
theorem iy{α:Sort _}{b4:Sort _}{eD:Sort _}{a3:Sort _}{bE:Sort _}{dc:Sort _}{g9:Sort _}{R:a3→bE→dc→g9→Prop}{f1:α→b4→eD→a3}{a b:α}{aY:bE}{cD:dc}{fh:g9}{ba:b4}{cJ:eD}(h:a=b)(k:R (f1 b ba cJ) aY cD fh):R (f1 a ba cJ) aY cD fh:=fw (P:=λx=>R (f1 x ba cJ) aY cD fh) h k
theorem DD{α:Sort _}{b4:Sort _}{eD:Sort _}{qd:Sort _}{a3:Sort _}{bE:Sort _}{dc:Sort _}{g9:Sort _}{R:a3→bE→dc→g9→Prop}{f1:α→b4→eD→qd→a3}{a b:α}{aY:bE}{cD:dc}{fh:g9}{ba:b4}{cJ:eD}{mJ:qd}(h:a=b)(k:R (f1 b ba cJ mJ) aY cD fh):R (f1 a ba cJ mJ) aY cD fh:=fw (P:=λx=>R (f1 x ba cJ mJ) aY cD fh) h k
theorem acW{α:Sort _}{a3:Sort _}{bE:Sort _}{dc:Sort _}{g9:Sort _}{nC:Sort _}{R:a3→bE→dc→g9→nC→Prop}{f1:α→a3}{a b:α}{aY:bE}{cD:dc}{fh:g9}{kL:nC}(h:a=b)(k:R (f1 b) aY cD fh kL):R (f1 a) aY cD fh kL:=fw (P:=λx=>R (f1 x) aY cD fh kL) h k
theorem acX{α:Sort _}{a3:Sort _}{bE:Sort _}{dc:Sort _}{g9:Sort _}{nC:Sort _}{R:a3→bE→dc→g9→nC→Prop}{f1:α→a3}{a b:α}{aY:bE}{cD:dc}{fh:g9}{kL:nC}(h:b=a)(k:R (f1 b) aY cD fh kL):R (f1 a) aY cD fh kL:=g8 (P:=λx=>R (f1 x) aY cD fh kL) h k
theorem acY{α:Sort _}{b4:Sort _}{a3:Sort _}{bE:Sort _}{dc:Sort _}{g9:Sort _}{nC:Sort _}{R:a3→bE→dc→g9→nC→Prop}{f1:α→b4→a3}{a b:α}{aY:bE}{cD:dc}{fh:g9}{kL:nC}{ba:b4}(h:a=b)(k:R (f1 b ba) aY cD fh kL):R (f1 a ba) aY cD fh kL:=fw (P:=λx=>R (f1 x ba) aY cD fh kL) h k
theorem fH{α:Sort _}{cc:Sort _}{a3:Sort _}{R:a3→Prop}{f1:cc→a3}{f2:α→cc}{a b:α}(h:a=b)(k:R (f1 (f2 b))):R (f1 (f2 a)):=fw (P:=λx=>R (f1 (f2 x))) h k
theorem DE{α:Sort _}{cc:Sort _}{a3:Sort _}{R:a3→Prop}{f1:cc→a3}{f2:α→cc}{a b:α}(h:b=a)(k:R (f1 (f2 b))):R (f1 (f2 a)):=g8 (P:=λx=>R (f1 (f2 x))) h k
theorem sC{α:Sort _}{dA:Sort _}{cc:Sort _}{a3:Sort _}{R:a3→Prop}{f1:cc→a3}{f2:α→dA→cc}{a b:α}{cH:dA}(h:a=b)(k:R (f1 (f2 b cH))):R (f1 (f2 a cH)):=fw (P:=λx=>R (f1 (f2 x cH))) h k
theorem HG{α:Sort _}{dA:Sort _}{cc:Sort _}{a3:Sort _}{R:a3→Prop}{f1:cc→a3}{f2:α→dA→cc}{a b:α}{cH:dA}(h:b=a)(k:R (f1 (f2 b cH))):R (f1 (f2 a cH)):=g8 (P:=λx=>R (f1 (f2 x cH))) h k
theorem DF{α:Sort _}{dA:Sort _}{jv:Sort _}{cc:Sort _}{a3:Sort _}{R:a3→Prop}{f1:cc→a3}{f2:α→dA→jv→cc}{a b:α}{cH:dA}{hu:jv}(h:a=b)(k:R (f1 (f2 b cH hu))):R (f1 (f2 a cH hu)):=fw (P:=λx=>R (f1 (f2 x cH hu))) h k
theorem DG{α:Sort _}{dA:Sort _}{jv:Sort _}{cc:Sort _}{a3:Sort _}{R:a3→Prop}{f1:cc→a3}{f2:α→dA→jv→cc}{a b:α}{cH:dA}{hu:jv}(h:b=a)(k:R (f1 (f2 b cH hu))):R (f1 (f2 a cH hu)):=g8 (P:=λx=>R (f1 (f2 x cH hu))) h k
theorem mL{α:Sort _}{cc:Sort _}{b4:Sort _}{a3:Sort _}{R:a3→Prop}{f1:cc→b4→a3}{f2:α→cc}{a b:α}{ba:b4}(h:a=b)(k:R (f1 (f2 b) ba)):R (f1 (f2 a) ba):=fw (P:=λx=>R (f1 (f2 x) ba)) h k
theorem OO{α:Sort _}{cc:Sort _}{b4:Sort _}{a3:Sort _}{R:a3→Prop}{f1:cc→b4→a3}{f2:α→cc}{a b:α}{ba:b4}(h:b=a)(k:R (f1 (f2 b) ba)):R (f1 (f2 a) ba):=g8 (P:=λx=>R (f1 (f2 x) ba)) h k
theorem OP{α:Sort _}{dA:Sort _}{cc:Sort _}{b4:Sort _}{a3:Sort _}{R:a3→Prop}{f1:cc→b4→a3}{f2:α→dA→cc}{a b:α}{ba:b4}{cH:dA}(h:a=b)(k:R (f1 (f2 b cH) ba)):R (f1 (f2 a cH) ba):=fw (P:=λx=>R (f1 (f2 x cH) ba)) h k
theorem HH{α:Sort _}{dA:Sort _}{cc:Sort _}{b4:Sort _}{a3:Sort _}{R:a3→Prop}{f1:cc→b4→a3}{f2:α→dA→cc}{a b:α}{ba:b4}{cH:dA}(h:b=a)(k:R (f1 (f2 b cH) ba)):R (f1 (f2 a cH) ba):=g8 (P:=λx=>R (f1 (f2 x cH) ba)) h k
theorem yi{α:Sort _}{dA:Sort _}{jv:Sort _}{cc:Sort _}{b4:Sort _}{a3:Sort _}{R:a3→Prop}{f1:cc→b4→a3}{f2:α→dA→jv→cc}{a b:α}{ba:b4}{cH:dA}{hu:jv}(h:b=a)(k:R (f1 (f2 b cH hu) ba)):R (f1 (f2 a cH hu) ba):=g8 (P:=λx=>R (f1 (f2 x cH hu) ba)) h k
theorem OQ{α:Sort _}{dA:Sort _}{cc:Sort _}{b4:Sort _}{eD:Sort _}{a3:Sort _}{R:a3→Prop}{f1:cc→b4→eD→a3}{f2:α→dA→cc}{a b:α}{ba:b4}{cJ:eD}{cH:dA}(h:a=b)(k:R (f1 (f2 b cH) ba cJ)):R (f1 (f2 a cH) ba cJ):=fw (P:=λx=>R (f1 (f2 x cH) ba cJ)) h k
theorem acZ{α:Sort _}{dA:Sort _}{cc:Sort _}{b4:Sort _}{eD:Sort _}{a3:Sort _}{R:a3→Prop}{f1:cc→b4→eD→a3}{f2:α→dA→cc}{a b:α}{ba:b4}{cJ:eD}{cH:dA}(h:b=a)(k:R (f1 (f2 b cH) ba cJ)):R (f1 (f2 a cH) ba cJ):=g8 (P:=λx=>R (f1 (f2 x cH) ba cJ)) h k
theorem dU{α:Sort _}{cc:Sort _}{a3:Sort _}{bE:Sort _}{R:a3→bE→Prop}{f1:cc→a3}{f2:α→cc}{a b:α}{aY:bE}(h:a=b)(k:R (f1 (f2 b)) aY):R (f1 (f2 a)) aY:=fw (P:=λx=>R (f1 (f2 x)) aY) h k
theorem k7{α:Sort _}{cc:Sort _}{a3:Sort _}{bE:Sort _}{R:a3→bE→Prop}{f1:cc→a3}{f2:α→cc}{a b:α}{aY:bE}(h:b=a)(k:R (f1 (f2 b)) aY):R (f1 (f2 a)) aY:=g8 (P:=λx=>R (f1 (f2 x)) aY) h k
theorem gS{α:Sort _}{dA:Sort _}{cc:Sort _}{a3:Sort _}{bE:Sort _}{R:a3→bE→Prop}{f1:cc→a3}{f2:α→dA→cc}{a b:α}{aY:bE}{cH:dA}(h:a=b)(k:R (f1 (f2 b cH)) aY):R (f1 (f2 a cH)) aY:=fw (P:=λx=>R (f1 (f2 x cH)) aY) h k
theorem yj{α:Sort _}{dA:Sort _}{cc:Sort _}{a3:Sort _}{bE:Sort _}{R:a3→bE→Prop}{f1:cc→a3}{f2:α→dA→cc}{a b:α}{aY:bE}{cH:dA}(h:b=a)(k:R (f1 (f2 b cH)) aY):R (f1 (f2 a cH)) aY:=g8 (P:=λx=>R (f1 (f2 x cH)) aY) h k
theorem ac0{α:Sort _}{dA:Sort _}{jv:Sort _}{cc:Sort _}{a3:Sort _}{bE:Sort _}{R:a3→bE→Prop}{f1:cc→a3}{f2:α→dA→jv→cc}{a b:α}{aY:bE}{cH:dA}{hu:jv}(h:a=b)(k:R (f1 (f2 b cH hu)) aY):R (f1 (f2 a cH hu)) aY:=fw (P:=λx=>R (f1 (f2 x cH hu)) aY) h k
theorem DH{α:Sort _}{dA:Sort _}{jv:Sort _}{cc:Sort _}{a3:Sort _}{bE:Sort _}{R:a3→bE→Prop}{f1:cc→a3}{f2:α→dA→jv→cc}{a b:α}{aY:bE}{cH:dA}{hu:jv}(h:b=a)(k:R (f1 (f2 b cH hu)) aY):R (f1 (f2 a cH hu)) aY:=g8 (P:=λx=>R (f1 (f2 x cH hu)) aY) h k
theorem gT{α:Sort _}{cc:Sort _}{b4:Sort _}{a3:Sort _}{bE:Sort _}{R:a3→bE→Prop}{f1:cc→b4→a3}{f2:α→cc}{a b:α}{aY:bE}{ba:b4}(h:a=b)(k:R (f1 (f2 b) ba) aY):R (f1 (f2 a) ba) aY:=fw (P:=λx=>R (f1 (f2 x) ba) aY) h k
theorem Au{α:Sort _}{cc:Sort _}{b4:Sort _}{a3:Sort _}{bE:Sort _}{R:a3→bE→Prop}{f1:cc→b4→a3}{f2:α→cc}{a b:α}{aY:bE}{ba:b4}(h:b=a)(k:R (f1 (f2 b) ba) aY):R (f1 (f2 a) ba) aY:=g8 (P:=λx=>R (f1 (f2 x) ba) aY) h k
theorem gz{α:Sort _}{dA:Sort _}{cc:Sort _}{b4:Sort _}{a3:Sort _}{bE:Sort _}{R:a3→bE→Prop}{f1:cc→b4→a3}{f2:α→dA→cc}{a b:α}{aY:bE}{ba:b4}{cH:dA}(h:a=b)(k:R (f1 (f2 b cH) ba) aY):R (f1 (f2 a cH) ba) aY:=fw (P:=λx=>R (f1 (f2 x cH) ba) aY) h k
theorem OR{α:Sort _}{dA:Sort _}{cc:Sort _}{b4:Sort _}{a3:Sort _}{bE:Sort _}{R:a3→bE→Prop}{f1:cc→b4→a3}{f2:α→dA→cc}{a b:α}{aY:bE}{ba:b4}{cH:dA}(h:b=a)(k:R (f1 (f2 b cH) ba) aY):R (f1 (f2 a cH) ba) aY:=g8 (P:=λx=>R (f1 (f2 x cH) ba) aY) h k
theorem yk{α:Sort _}{dA:Sort _}{jv:Sort _}{cc:Sort _}{b4:Sort _}{a3:Sort _}{bE:Sort _}{R:a3→bE→Prop}{f1:cc→b4→a3}{f2:α→dA→jv→cc}{a b:α}{aY:bE}{ba:b4}{cH:dA}{hu:jv}(h:a=b)(k:R (f1 (f2 b cH hu) ba) aY):R (f1 (f2 a cH hu) ba) aY:=fw (P:=λx=>R (f1 (f2 x cH hu) ba) aY) h k
theorem OS{α:Sort _}{dA:Sort _}{jv:Sort _}{cc:Sort _}{b4:Sort _}{a3:Sort _}{bE:Sort _}{R:a3→bE→Prop}{f1:cc→b4→a3}{f2:α→dA→jv→cc}{a b:α}{aY:bE}{ba:b4}{cH:dA}{hu:jv}(h:b=a)(k:R (f1 (f2 b cH hu) ba) aY):R (f1 (f2 a cH hu) ba) aY:=g8 (P:=λx=>R (f1 (f2 x cH hu) ba) aY) h k
theorem OT{α:Sort _}{cc:Sort _}{b4:Sort _}{eD:Sort _}{a3:Sort _}{bE:Sort _}{R:a3→bE→Prop}{f1:cc→b4→eD→a3}{f2:α→cc}{a b:α}{aY:bE}{ba:b4}{cJ:eD}(h:a=b)(k:R (f1 (f2 b) ba cJ) aY):R (f1 (f2 a) ba cJ) aY:=fw (P:=λx=>R (f1 (f2 x) ba cJ) aY) h k
theorem Av{α:Sort _}{cc:Sort _}{b4:Sort _}{eD:Sort _}{a3:Sort _}{bE:Sort _}{R:a3→bE→Prop}{f1:cc→b4→eD→a3}{f2:α→cc}{a b:α}{aY:bE}{ba:b4}{cJ:eD}(h:b=a)(k:R (f1 (f2 b) ba cJ) aY):R (f1 (f2 a) ba cJ) aY:=g8 (P:=λx=>R (f1 (f2 x) ba cJ) aY) h k
theorem wi{α:Sort _}{dA:Sort _}{cc:Sort _}{b4:Sort _}{eD:Sort _}{a3:Sort _}{bE:Sort _}{R:a3→bE→Prop}{f1:cc→b4→eD→a3}{f2:α→dA→cc}{a b:α}{aY:bE}{ba:b4}{cJ:eD}{cH:dA}(h:a=b)(k:R (f1 (f2 b cH) ba cJ) aY):R (f1 (f2 a cH) ba cJ) aY:=fw (P:=λx=>R (f1 (f2 x cH) ba cJ) aY) h k
theorem Aw{α:Sort _}{dA:Sort _}{cc:Sort _}{b4:Sort _}{eD:Sort _}{a3:Sort _}{bE:Sort _}{R:a3→bE→Prop}{f1:cc→b4→eD→a3}{f2:α→dA→cc}{a b:α}{aY:bE}{ba:b4}{cJ:eD}{cH:dA}(h:b=a)(k:R (f1 (f2 b cH) ba cJ) aY):R (f1 (f2 a cH) ba cJ) aY:=g8 (P:=λx=>R (f1 (f2 x cH) ba cJ) aY) h k
theorem DI{α:Sort _}{dA:Sort _}{jv:Sort _}{cc:Sort _}{b4:Sort _}{eD:Sort _}{a3:Sort _}{bE:Sort _}{R:a3→bE→Prop}{f1:cc→b4→eD→a3}{f2:α→dA→jv→cc}{a b:α}{aY:bE}{ba:b4}{cJ:eD}{cH:dA}{hu:jv}(h:a=b)(k:R (f1 (f2 b cH hu) ba cJ) aY):R (f1 (f2 a cH hu) ba cJ) aY:=fw (P:=λx=>R (f1 (f2 x cH hu) ba cJ) aY) h k
theorem OU{α:Sort _}{cc:Sort _}{a3:Sort _}{bE:Sort _}{dc:Sort _}{R:a3→bE→dc→Prop}{f1:cc→a3}{f2:α→cc}{a b:α}{aY:bE}{cD:dc}(h:a=b)(k:R (f1 (f2 b)) aY cD):R (f1 (f2 a)) aY cD:=fw (P:=λx=>R (f1 (f2 x)) aY cD) h k
theorem oh{α:Sort _}{dA:Sort _}{cc:Sort _}{a3:Sort _}{bE:Sort _}{dc:Sort _}{R:a3→bE→dc→Prop}{f1:cc→a3}{f2:α→dA→cc}{a b:α}{aY:bE}{cD:dc}{cH:dA}(h:a=b)(k:R (f1 (f2 b cH)) aY cD):R (f1 (f2 a cH)) aY cD:=fw (P:=λx=>R (f1 (f2 x cH)) aY cD) h k
theorem ac1{α:Sort _}{dA:Sort _}{cc:Sort _}{a3:Sort _}{bE:Sort _}{dc:Sort _}{R:a3→bE→dc→Prop}{f1:cc→a3}{f2:α→dA→cc}{a b:α}{aY:bE}{cD:dc}{cH:dA}(h:b=a)(k:R (f1 (f2 b cH)) aY cD):R (f1 (f2 a cH)) aY cD:=g8 (P:=λx=>R (f1 (f2 x cH)) aY cD) h k
theorem OV{α:Sort _}{cc:Sort _}{b4:Sort _}{a3:Sort _}{bE:Sort _}{dc:Sort _}{R:a3→bE→dc→Prop}{f1:cc→b4→a3}{f2:α→cc}{a b:α}{aY:bE}{cD:dc}{ba:b4}(h:a=b)(k:R (f1 (f2 b) ba) aY cD):R (f1 (f2 a) ba) aY cD:=fw (P:=λx=>R (f1 (f2 x) ba) aY cD) h k
theorem OW{α:Sort _}{cc:Sort _}{b4:Sort _}{a3:Sort _}{bE:Sort _}{dc:Sort _}{R:a3→bE→dc→Prop}{f1:cc→b4→a3}{f2:α→cc}{a b:α}{aY:bE}{cD:dc}{ba:b4}(h:b=a)(k:R (f1 (f2 b) ba) aY cD):R (f1 (f2 a) ba) aY cD:=g8 (P:=λx=>R (f1 (f2 x) ba) aY cD) h k
theorem Ax{α:Sort _}{dA:Sort _}{cc:Sort _}{b4:Sort _}{a3:Sort _}{bE:Sort _}{dc:Sort _}{R:a3→bE→dc→Prop}{f1:cc→b4→a3}{f2:α→dA→cc}{a b:α}{aY:bE}{cD:dc}{ba:b4}{cH:dA}(h:a=b)(k:R (f1 (f2 b cH) ba) aY cD):R (f1 (f2 a cH) ba) aY cD:=fw (P:=λx=>R (f1 (f2 x cH) ba) aY cD) h k
theorem dG{a b:Bool}{P:Prop}(h:(a&&b)=true)(k:a=true→b=true→P):P:=by
 cases a
 ·exact vV h
 ·exact k rfl h
variable{a1:Bool}{a0:Bool}{a2:Bool}
theorem pg{P:Prop}(h:(a0&&(a1&&a2))=true)(k:a0=true→a1=true→a2=true→P):P:=dG h λx h=>dG h (k x)
variable{dB:Bool}
theorem wj{P:Prop}(h:(a0&&(a1&&(a2&&dB)))=true)(k:a0=true→a1=true→a2=true→dB=true→P):P:=dG h λx h=>pg h (k x)
variable{eb:Bool}
theorem DJ{P:Prop}(h:(a0&&(a1&&(a2&&(dB&&eb))))=true)(k:a0=true→a1=true→a2=true→dB=true→eb=true→P):P:=dG h λx h=>wj h (k x)
variable{g6:Bool}
theorem DK{P:Prop}(h:(a0&&(a1&&(a2&&(dB&&(eb&&g6)))))=true)(k:a0=true→a1=true→a2=true→dB=true→eb=true→g6=true→P):P:=dG h λx h=>DJ h (k x)
variable{ia:Bool}
theorem OX{P:Prop}(h:(a0&&(a1&&(a2&&(dB&&(eb&&(g6&&ia))))))=true)(k:a0=true→a1=true→a2=true→dB=true→eb=true→g6=true→ia=true→P):P:=dG h λx h=>DK h (k x)
variable{k6:Bool}
theorem ac2{P:Prop}(h:(a0&&(a1&&(a2&&(dB&&(eb&&(g6&&(ia&&k6)))))))=true)(k:a0=true→a1=true→a2=true→dB=true→eb=true→g6=true→ia=true→k6=true→P):P:=dG h λx h=>OX h (k x)
variable{nB:Bool}
theorem OY{P:Prop}(h:(a0&&(a1&&(a2&&(dB&&(eb&&(g6&&(ia&&(k6&&nB))))))))=true)(k:a0=true→a1=true→a2=true→dB=true→eb=true→g6=true→ia=true→k6=true→nB=true→P):P:=dG h λx h=>ac2 h (k x)
variable{rh:Bool}
theorem ac3{P:Prop}(h:(a0&&(a1&&(a2&&(dB&&(eb&&(g6&&(ia&&(k6&&(nB&&rh)))))))))=true)(k:a0=true→a1=true→a2=true→dB=true→eb=true→g6=true→ia=true→k6=true→nB=true→rh=true→P):P:=dG h λx h=>OY h (k x)
theorem ac4{wd:Bool}{P:Prop}(h:(a0&&(a1&&(a2&&(dB&&(eb&&(g6&&(ia&&(k6&&(nB&&(rh&&wd))))))))))=true)(k:a0=true→a1=true→a2=true→dB=true→eb=true→g6=true→ia=true→k6=true→nB=true→rh=true→wd=true→P):P:=dG h λx h=>ac3 h (k x)
theorem ac5{wd OZ:Bool}{P:Prop}(h:(a0&&(a1&&(a2&&(dB&&(eb&&(g6&&(ia&&(k6&&(nB&&(rh&&(wd&&OZ)))))))))))=true)(k:a0=true→a1=true→a2=true→dB=true→eb=true→g6=true→ia=true→k6=true→nB=true→rh=true→wd=true→OZ=true→P):P:=dG h λx h=>ac4 h (k x)
inductive V where
 |none |bool (b:Bool) |int (i:Int) |str (n:Nat) |ref (a:Nat) |kM (n:Nat) |tup (vs:List V)
def HI:List String:=["","+","?","?x","?y","alike","all","cards","d","dealt","either","half","like","lost","most","nodes","none","o","odd","once","order","p","pairs","places","repeat","rests","rule","seq","swap","terms","together","turns","twice","unlike"]
def tab(n:Nat):Option Str:=(HI.map er)[n]?
end
namespace V
mutual
example:=⟨hR 1 2,1∧2⟩
noncomputable def x:=1
variable{α:Sort u}
def Ay(v:V)(d:α)(f:Bool→α):α:=V.casesOn v d f (λO=>d) (λO=>d) (λO=>d) (λO=>d) (λO=>d)
def mb(v:V)(d:α)(f:Int→α):α:=V.casesOn v d (λO=>d) f (λO=>d) (λO=>d) (λO=>d) (λO=>d)
def onStr(v:V)(d:α)(f:Nat→α):α:=V.casesOn v d (λO=>d) (λO=>d) f (λO=>d) (λO=>d) (λO=>d)
def oi(v:V)(d:α)(f:Nat→α):α:=V.casesOn v d (λO=>d) (λO=>d) (λO=>d) f (λO=>d) (λO=>d)
def eM(v:V)(d:α)(f:List V→α):α:=V.casesOn v d (λO=>d) (λO=>d) (λO=>d) (λO=>d) (λO=>d) f
def isTup(v:V):Bool:=v.eM false λO=>true
def O0(x:V):Bool:=V.casesOn x true (λO=>true) (λO=>true) (λO=>true) (λO=>false) (λO=>false) (λws=>ws.casesOn false λa O=>a.isTup)
end
end V
mutual
example:=⟨hR 1 2,1∧2,.ref,.exp,fS ZT K rfl Y2 ?_,gP _ _,s.heap.get? b,some YA,some y,au az Y2,cW h.symm,.Name,.for,Y0 b,List Env,eN ..,λO O z=>z.elim,Option Value,aB no mh ab,bR aF,bY 0,by exact Y2,ht ?_,nb h,some c,some j,v::vs,λO O=>false,.Call,Y5 [],List Tab,some YQ5,λO O=>true,Y0 p,Array Z7,Option Nat,bl.h=A.h,ef w u,fm N,h.get? a,if_pos rfl,mh a,some Ym,st.1,z.3.elim,YK true,Bool→Y6,Nat×Nat,hG ..,some a,z.2.trans,λO O O=>rfl,λO O O=>true,(h A s aG ae aN).mono,(n:Int),.v n,eval e env,f p.2,s.heap.get? a,some Y1M,({s with heap:=h',toks:=tk}),.op fj [],Nat→Z9,a9 h xs vs,Prop,aB.new ah,cv×Bool,dW bO L,eR o r,eq_of_beq h,f p.1,hs.2,iH ?_,λO O O O=>true,.Tuple,YK false,Y0 I,Y3→Y6→Y6,Nat×ct,ay a,by kernel_rfl,cI r i,jt _,s.heap.objs.size+1,x.1.2,.one,Y0 A.h,Array Value,Y3→Ys,List fT,S.e+YLJ,[a,b],b8 a b,bR h,eL ..,envX env,es.map Yh,fp _ _,λO O O O=>false,Y0 B.b,[v 2],bB Yq,bY 1,de g env ns r mh s,eq_of_beq q,hT _,putN t a N,some (t,YC3),λO O O O O O=>rfl,λO O O=>false,λO=>false,("__debug__":Str),Y0 x,Bool→YP,aa e Y23,bS.2,cL h,canon S.f x,putN t p N,q∈cB,wpAny_pure h,y.1.1,(·.2),YK b,ab b,b8 e.1 k,dl tt,by exact Yf,d3 mh A S,d8 _ b3,dr t,env.kindOf n,env::l,some Z0W,λO O=>False,λO O=>rfl,λO=>true,(jY _).mp,Y0 s.heap.objs.size,List cE,[v 3],[x,y],aK h x v,aN.ez z.2,aj YF ?_,i<S.N.length,some es,x.2.1,λO O O O=>trivial,(bT xs).size,(r:YNl),.empty,YD YcX,List (a8×Nat),ah.1,dk.2.1,eU h h',jH x y,k+13,n≤1000,roots N.length f,some YA3,vs.length≤1000001,x.1.1,x.2.elim,(e7 cl es).1,(·=I),.Attribute,Y0 D,Y0 f,YE "tuple",Y3→Y5V,S.N.length≤13,aG.3,aK s.heap x v,ah.2,c<S.N.length,canon f x,dy af,eG S pend,hk S,i<N.length,if_neg YC,je rfl,ka m i pt,some Y36,some YPY,some YPk,List V,some m,v.iU 0 id,λO O z=>z,λO h=>h.elim,Y0 d,Y4 q.1,YD [],List Z7,Q v m,S.f j,a9 s.heap xs vs,ay b,ay n,ay w,bS.1,beq_self_eq_true ..,c.cN.lookup n,jI _,jr tr most,need m,some Y8V,some none,t.put j,w.2.2,wr b,x.2.length,{cls:=YA7,data:=Y9 #[]},(gf S x cs).f,YI i,Y0 z,Yy _,A.units+20<cLine,Shared→Y6,aK s.heap v m,ay c,dep a,eG S [],er nm,iE ..,j6 env c,most≤10,Y0u=Y6c,some Y4q,some (t,Y9 c es),w.2.1,λr m z=>?_,(i:Int),(·+1),.op fi YfQ,V→Bool,aS ?_,absurd aF cS,fv mh B (N,P) ext,gu p=true,iI ..,jE t,kv x,Y0d=Y1h,some (Y0 fb),Yqm=YQ,λO=>False,.str,λacc m z=>?_,⟨rfl,?_⟩,YZz ZQP,Y09 n p,Y0 e,Y0 it,.seq,YD (ZE::YWf),Nat→YFK,Result→YP,S.f c,a4 l,a5 g mh s',a6 cl s r m Qn Qr,aB ea mh aW,aK.ofInt _ _,aq.1,cu e,de g env c.ns r mh s,dk.1,eo af,hN o=true,lO lt,m.2.2,ml scope env C,o6 ..,s'.os=s.os,s.1.length,Zj.2,λO O O O O=>none,λO O h=>h,λO O=>nc,⟨0,?_⟩,(8,Y0R),(Y2:2≤1000001),(es[·]?),.Constant,.b o a b,Y5 acc,YE "list",.u 8 c5,K.1.1.keeps,N.length≤13,N[i]?=YQ,Yeh=YQ,Type,a cl,a4 aZ,a5 g m s,aa e ?_,absurd h cS,ay i,bB YG,bO x,bo.1,cW e.symm,cu h,cv→Y12,d2 w h xs es,es.size+1,f.trans f2,.list,h.get? b,hH _ _,jG N,l[i]?,mf aA,run lt,s'.gens=s.gens,some Y3Z,some YPL,some e,x.2.map,Zj.1,y.2.elim,z.1.1,λe=>?_,⟨h,g,d,t,os⟩,(Y2:1≤2),(Y2:3≤1000001),YEq elt (YZR::rest) scope pos,.function,A.deeper env,Y3→Bool,Y0F→YP,Yp→bG,Sem Value,Unit→YP,V→Y1,aB.new d7,aU g (k+2),ae.1,bG→Y6,bN q e,b≠a,cI r 0,d.length+1,eu _ e,gN mh A R tr most cQ u c P S,hl N P f,ik s,lZ.3,noStar es=true,r.set i Ym,some Z1r,some Y6f,some n,st.4,t.map gF,w2.2,λO=>1,λO=>True,⟨#[ch]⟩,(0,Y0R),(S.N++[x]).length,(cu h).symm,(Y2:2≤2),(lo+af) / 2,ZVQ=false,Yya j Y6e,.Assign,.call,.compLoop,ag→Y1,YY h,YJ rfl,.nm 2,.of b5,Y0 w,.stmts,YE T,Option Ye,P [] r m,V×V,["self"],aB no m ab,aU g YmT,ai r,aq.2,b=true,bT bf,bd ?_,bw ..,by simp,di n,ej YDB,es.length≤1000000,gf S x cs,h'.get? a,hk S c,i8 N f c,Y7q - i,ir t,k+18,mh b,mh d,nb ao,ns[i]?=Y5j,Y04=none,some Y0B,some Y65,some ZPQ,some Y6z,some b,some k,ZJ.2,z.1.2,α→V,λh O=>h,λh=>?_,⟨_,ZW,rfl,rfl⟩,(0:Int),(a7.N,e1),Y8G c Y7,(dz aF).elim,Y14.1,(hi N).lookup,(o,r.2),Y1s.1,YEq elt [⟨t1,dM,[],0⟩,⟨cy,dt,ifs,0⟩] scope pos,.Subscript,.and,.done,.error,.free,.none,YI i t,YI n,.live,.nm 3,.op oTup [bK 3],Y0 h,Y0 l,.u o a,51+8*i,Array GenState,F a r.1,Inner c scope own caps,L.2.1,List (Str×Addr),Y3→Y1,Option α,P Y0O r m,Sem α,TabAt mh a t,a.2.4,a.length=b.length,Y8q→Q Y0B aW,aB no mh m,aK.oj _,aL Y0k ?_,aS Y42,ae.2,ae.3,ai.1,ao.1,ar.2,au aE Y2,ay S.N.length,ay p.2,bG→Y1,bW e Yg7,bb.1,bb.2,cU 636,congrArg l5 e,d9 he h,dE q,dI v n=true,dR p i,eval o env,f1.trans f2,fp 1 1000000,hU s.heap s'.heap,hm.2,hv vs=true,i<vs.length,iS m i,k+26,k5 _,kN Yf,l.map kv,ma ⟨cS,lC⟩,nt aq,ok u,putL t d N,putN t Y4f N,Value→YP,putN t b Y1g.1,q.2.keep,sn "__init__",some (.kM 4),some ZSM,x=YA,({s with toks:=YHj}),λO O O O O O O=>rfl,λO h=>h,λO=>0,λacc bF=>alloc bF Y4d Q,λv aO=>?_,⟨_,_,B.1,trivial⟩,(0,Y5 YRT),(apos.endLine==pos.line)=true,(bM N).getD,(bM N).length,Yr[i]?,(di 4).map,(di n).map,(eL _).symm,Y14.2,(ee aD).elim,(false,Y0s),(gG h).elim,(none,YZV),.UnaryOp,.bad,Y5 ((a4 P).set y YCj),.next,Y0 pl,YD ws,.var i,BEq α,LawfulBEq α,List Int,List T,Yd×YV,N.length≤1000,Q v mh,S.f a,Step cX s0 m0 s mh,Stores env n,W.te _,Z.3.1,[.op kT Zh],[YA],[Y4 32,Y4 28,Y4 11,Y4 16],[S.N.length],a4 L,aB jF mh ab,aB no mh aW,aB.new jT,acc.length≤1000000,Y5U b o e,ar.1,aw (cst Y3p),ay j,bB q,c.ns[i]?,cL ar,.dict,dR p Y9S,eH tr most a s,eR o (N,aZ),eU s.heap h',env.cells.lookup n,ep+1,eq_of_beq bD,eq_of_beq e,f7 m h N,fO ..,g.h₀.get? b,gV c ec=true,h.2.2,hU s.heap h',hq q,i6 S.f S.N.length,iR h.2 q s.1,ZRv=true,i≤m,j1 es k,jw Q,kD.trans bx,m::ms,m=mh,mH m i pt,Y0d=none,Y6V=YB,n - 1,nb c,ps.length≤2,q2 L q R,r.2.2,s H c r,Y04=YB,s.heap.get? d=Y9b,some Y1b,some YLm,t.lookup n,v∈us,z.2.keep,α→YP,λO O O O O O=>nb,λO O=>d _,λO=>[],⟨_,aA,rfl⟩,(a4 P).length,(ee aO).elim,(Y1W),(gf S x cs).use,(i:Nat),(jX C::YMD).contains,(jm aO).elim,(l+r) / 2,(pN _ _ _).trans,(u9 m).advance,.c 17,.c o,.either a b,YY q,Y5 (YKe++Z9l),.op ZFs YT,Y0 a,.op fi YfR,Y0 A.u,Y0 R.r,Y0 y,YCB i j,YE "Exception",YE "dict",D.1.lt,N++[x],Option Fin×PUnit,P++fr,Q m mh,S.N++[x],S.e+1,S.use y,Str→Y0F,V.str_inj e,Z.2.1,[(3,x)],[v 1,YGA],a5 g ab s',aC.1,aC.2,aK s.heap key ec,aU g (k+40),ab a,any_false lh,ay y,ay z.2,Y1p.2,bZ.2,cI r j,cL q,cR p,cU 660,canon f z.1,compat a b,d++[x],dD.1.le,dT q ?_,decide (0<j),dep b,dr x.2,eS [] 0 p,eS t N.length p,ea t=true,eo z.1,eval x env,e▸rfl,gh p,gk #[] 0 (.fresh 0 0 YDd),h.get? S,hP mh A n f e,hZ e H c x,i6 S.f S.N.length i,j0 a b,j<S.N.length,jb ab bX,kz q,l.1.1,m6 n p,some o,max Y8f YCR,Y6V=none,Y6W=Y3i,mh ei=ZaA,n≤1000001,n≤m,o3 g C B vT cell,oC o=true,p.getD Y9S 0,plainT e=true,ps.map gh,putL t ps N,q.2.1.elim,ql I it,q▸Yf,YMz=Y0e,Y9Y→YGp,s.toks+1,so ..,some (Y0 fD),some Y8w,some (t,ZD C fs),some (t,ZD C vs),t.fits es.size=true,t.slot j,YHx=some s,v 10,ve Y2,vh Y2,vi Y2,vn ..,x4 ..,y::bf,({s with heap:=s.heap.push Y3R}),α→Y3X,λq=>?_,∃X,M=YKF,⟨[],Y8L⟩,⟨fd.scope.names,rQ⟩,(N,[]),(ae.here e).elim,(bH cl t).2,(cP.fP cM).symm,(dE n).trans,(dE q).trans,(dz h).elim,Y3S S.N.length,(h,x),Y1s.2,(q,YmJ),(t.lookup n).getD 0,(t.lookup x).getD 0,(t.map gF).length,Y3N.2,.BoolOp,.Compare,.b 1 c5 c5,YI 0 0,Y5 Y43,Y5 (Y43++Z9h),Y5 (Z5h++[YG7]),by decide,Y5 (W++[V.int (1+(intsOf YOc).sum)]),Y5 Z9h,Y5 vs,.op (b2 198 0) YT,.op (b2 405 0) YT,.op fc [v 0,bK 29],Y0 h.objs.size,Y4 j,Y4 x.1,YD (ZE::YoA),.two,YE "set",2 ^ YLJ,52*16,Array Int,B.2.elim,D.10,G.8 i af hf,K.1.3,List Y0j,List (Str×Value),List Y6A,List (α×Nat),List Comprehension,Q false s,Qn r m,S.f b,S.use i,Step.grow (s':=Yx) b5,Unit→Y3X,[(3,a)],[v 0,.op nR YfR],[v 4],a4 x.2,a7.e+cnt a7,aT e ?_,aU g YVP,aW b,aa e rfl,absurd h (pa i),addrs Y26,ae.grow (s':=Yx) b5 rfl rfl,ag→Yv7,ai.2,ay x,ay x.1,a≠b,b z.1,Yr++[Y2Q],bN q w,bR ah,bZ.1,beq_false_of_ne q,bg.fP bx,c+676*4,cl 1 t,cu q,d++x::rest,d8 _ Y2v,dep YG,dr y.2,.tup,eF a b,envX env b,er "__next__",er n,es++[m],es++ms,es[i]?,execs body env,f a=f b,fE aA,fE e,fL Yr t p,fZ hz,YGf.1,fs.length≤100,g.h₀.get? D=none,gi ..,h s.toks,Y0b=YB,Y51=YB,hB a,hF p,iR t q S.N,ib h ns xs vs,ie c es,if_neg e,if_neg h8,isList aA,i≤fs.length,j - 1,jn mh A S f e E hj X W,k+12,k+17,k+6+ZV,kW q,l.map Yh,l8 ..,lI g wr mh,lq w,lt YGT Y7i,mE a s.heap h',max (f a) (f b),md vs n=true,min Y8f YCR,min (f a) (f b),nJ hs ..,nL n,nV xs,nu q.1 R,o9 _,ou aA,pure x,putN t Y9u N,p∈e1,q.2.2.keep,q.un.1,q.un.2,roots n f,s.2.length,Y0u=none,s2.2,.type,sh x,some YCj,some l,some ⟨hV,iJ,YPf,eB⟩,st.1.elim,Zb.1,uk bZ,uw Q,u∉us,v.isInt=true,v.isStr=true,vals.drop i,vs.getD i Y7,w2.1,Y1K.1,x.2==Y6z,z.1.grow,Y0m y.2,{cls:=YQN,data:=ZY #[YA,YBw]},({s1 with heap:=h'}),λO O O O=>d _,λO O e=>e,λO O=>nb,λO e=>hn e,λO q=>bc rfl q,λbD bC=>?_,λi af hf=>?_,λi af=>?_,λm hm=>?_,λt h=>xN Y0J t h,λx z=>?_,∃o,g.h₀.get? sysModules=YB,⟨rfl,h⟩,(YKS::YWf).length≤1000001,(bH cl elt).1,(bH cl o).1,Z1[i]?,(Y2:0≤100),(Y2:4≤1000001),Y93.1,(Y1W).Nodup,(gM S x0 df).use,Y6r x,(n,v),(p.2==uc&&ZN6&&env.kindOf p.1==Y2y)=true,Y1g.2,(r[0]?).getD none,(roots N.length dZ).length,(roots N.length f).length,(stN L t a).elim,(·<·),.ListComp,YEq elt gens scope pos,.Return,.Slice,.all,.compStart,Y9 1 es,YI (-1),Ya YTG (v 1) YT,.nm 1,bt ..,.not,.of Y52,.op (b2 617 1) YT,.op (b2 617 5) YT,.op gW [Ybp,v 1],Y0 A.b,Y0 B,.rep a n,YS (pI false),Y4 3,Y4 31,34+8*i,676*16,A.e4 i,Bool→Y1,D.11,D.4.1,D.4.2,H.eA.lookup C=YE3,Heap→Y1,Inv m,J n r m,L.lookup YPA,L.lookup x,List YRP,List iD,N++[Z6],Nat×cE×cE,Nat→Nat→Y7F,Option Z8f→YP,Q Y7 aW,Q vs,Q x m,R.3 p ar,S.N.length*Z2b,S.ed.lookup Y1r,Za=i,Y3A=Za,S.use j,S.wait=[],Sem Bool,Step X s mh s' aW,Step cX s0 m0 s m,V.none=Y7,Z.1.no,[(YHa.2,Y9H.2)],[(Y1r,i)],aB jF mh m,Y0G→YeX,aB p m ab,aE l w,aK h e.key m.1,aK.ofBool _,aQ nz h,aT h ?_,aU g (k+5),ae.4,ae.5,ai h,aj g5 (aT YF ZEy),ar _ (c7.abs ae w rfl rfl) c7,q.2.1,au Yk (dH w.symm),av.1,av.2,ay N.length,b cl,bH cl a,bO Z6,bR aO,bR q,bY 2,bd Zm,bo.2,by rw[cj];rfl,b≠S,Y3H=Y27,c7.1,cB[i]?=YpM,YAW=Yoz,cK.f a,cK.f b,cU 648,cb w.2 ?_,ck.2,compat v u=true,cu aC,cv×Yds,d.foldl st N,dD.1.1,dR p k,decide (a[j]?=b[j]?),dr a,e::es,eH tr most a ZX,eI _ b3,eX.4,env.frame=some env.locals,eq_of_beq bC,e▸Y23,fV n v=true,fZ ZTR,fg.3,g.yn C,g4 e,gG h,gO B pp Y3J,gO B pp ext,gX w h l us,gn q h,gx N f,h a b3,YlB=YB,h.2.1,Y0b=Y6c,h.objs.size+1,hF a,hN x.1=true,hQ×Y1P,isList aq,isSet e=false,i≤j,jU.1,List Str,jb m bX,jb mh bX,jj m,js g l mh s.heap,k a rfl h,k+14,k+19,k+d+1,kV mh A N,kb m L Yaa,kl p,ku t i,l0.1,lG hd ak,lG he h,lM as,lu S.N P S.f,lz Yr x,m.2.1,Y4O.1,Y4O.2,m4 a b,Y0d=YBN,mh=m,n - d.length,n=28,nO e,nb d,o7 prog w,of_decide_eq_true q,ok.1,ox a l,pI true,propext xT,pt.2.2,putN h.2 YG s.1,pyNext Y1C,YWn y.2.4,q.1.symm,q.2.elim,q▸h,r.1.length,run lt (kas_asc p f n),runN most (YVg) YJ3,s.toks+iT ec,s1.heap.push Zfp,seqObj "list" #[] 0,sliceBounds none YpI none Y2N,some ZE,some Y3D,some _,sr h,stN L t a,t.dummies=#[],t.place[i]?,tG S o pl t,tI Y21 h.1,ta ns.length args,tab n,ti ..,tp l,.int,u.2.2,u2 h iN es,u5 1,ue _ _,uh ..,v=ZZ,vJ rfl (Y2:3≤18) Y2,vars p,vs.all V.isInt=true,vs[i]?,YIA=Ym,w.1.symm,wpAny_loadPart_at gE ?_,wpAny_pure aF,x.2.1.elim,ZJ.1,Y3Q≤2,xa mh A,y.3.elim,ya ..,yi q c,z.1.symm,z.2.4,z.2.elim,z.2.mm,zC az,zk aE,({s with toks:=tk}),α→Bool,α→Y1,α→β,λK L ao h=>eP ao λy O q=>Y5D λp e=>?_,λO O O O O O O O O=>nb,λO O O O=>nb,λO O O=>d _,λO O O=>nb,λO O=>trivial,λO h=>Y4p,λO=>d,λb6=>a6 cl b b6 m YKI Qr,λbD bC d4=>?_,λbI ab=>ZAd,λd x rest e r m z jq e8=>?_,λe=>hn e,λq aF=>Y3q,λz=>o8 z,∀a,YMa→YrG,⟨YC,Y1G,ZL,y2 _⟩,!t.plain&&decide (es.size > 1),("__classdict__":Str),(YOW,r.2++[YOX]),((i+1:Nat):Int),((s.heap.update a Ymo).push (seqObj "tuple" xs.toArray 0)).push,(0,Y9 1 Y6T),(10,Y9y),(16,Z0Q),(20,Y9 4 YVd),(S.N++[Z6]).length,(S.N,[]),(a,b),(ah:b=C),.inr,Y8I=Ym,(bz.fP e).symm,(dP,[]),Y8J tW,(Y2:0<4),(Y2:1≤100),(Y2:1≤1000001),(Y2:2≤100),(dz aO).elim,(dz aq).elim,(dz he).elim,(eN xs).trans,Y6q=r.1++[Y6s],YUl.2,Y3S j,Y9H.1,(k,v),YHA.1,(m:ag),Y9P.1,(nZ _ _).trans,(ps.map dep).sum,Y7y.1,(q.2 A s1 aG z.1 Y2H).mono,(YHi),(sS scope own caps c).ns,(t.lookup n).elim,(vs[i]?).getD v0,(wz s.heap l1 l2).get?,(x,i),.Expr,.NotEq,Y1A es c6 pos,YK x,ZK "sorted",Y6x Z23,.ellipsis,YJ ?_,YJ q,YI Y3l,.kM n,.nm 4,Y1L i,.op (b2 358 6) YT,.op (b2 487 1) YT,.op oEq [v 2,bK 19],Y0 Z7J,Y0 S,Y0 ed,Y4 (cond tr 31 30),Y4 s t,YcZ i j l,YE "StopIteration",YE "enumerate",YE "object",.var j,1000≤m,2 - i,2 ^ cnt Ykn,A.in1.handled=none,A.ul i,.bool,B.4.imp,C2 YC,CT++wk,Du ..,Ev g k env c.ns r mh Y0s Q,Given ord,Hh ..,Hj ..,Hu ..,Y4g Y5U,KasT α,L.4.2,L.map Yh,List zJ,N++X,Nat→V,Yp→Y5O,P vs,Q r m,Qn bI ab,S.N.length≤a7.N.length,Y4B=c,S.use x,Sort u,St i s.heap,Step Y1V s mh s' mh,V.ref a,V.str o,Value→Z7w,V→Y3→Ygr,WP g A YMp ZVV s,Z.2.5,ZipApart z TI c2 dM dt l1 l2,[Y1M],[Y4 30,YFB,YcU],[ZM],[0,2],a4 Z7p,a4 Y2Y,a4 P,a6 cl s r m Qn Q,a==b,Y0G→YeW,aB pW mh ab,aB.new iQ,aK s.heap key k,aK s.heap x u,aN.ez st,aU g YDX,aU g YmU,ab::jQ,ae.fresh Y1f,ag→Y1D→Y1,aj cj ?_,aj Yl3 ?_,assign tgt env x,au YI4 ZKo,au he Y2,b2 263 0,Y1S=true,Zl=Y48,Nat→Nat,bK 31,bN e h,bR bb,bR bq,Y1p.1.elim,bd (wpAny_setState_of aA rfl hI.fits ?_),bd (wpAny_standAt ?_),by refine aj Zd5 ?_;exact Y07,bz.keep kt,c.cN.lookup x.1,c0 (dX Z0) _,c<N.length,cI r,Y5Y=Y05,cW w.symm,cl 1,cl 2,Yir=true,cnt S,codeAny_of_tree ?_,cond (w==c) [t] [],cu aJ,d++rest,dI.2.1,dJ _,dW bO YV2,dW kv L,de g env ns r m s,YCy+YjP≤3,dz ah,e.hash=ZMr,eE YLQ YG7 YG4,eG a7 [],eH tr most p s,eS t n p,Y95=Y0M,eo aM,eo aq,eq_of_beq d4,eval iter env,e≤m,f i=i,f i=y,Y16=Y0t,f7 t.mask h n,fF (c0 (show 2*8≤20 by exact Y2) _) bj,fd.scope.names.lookup n,gU xs ep,gV c v=true,gn e h,gu YG=true,gv.1.3,h.un.1,h1 n led t,h6 N P,hB elt,hP mh A.U n f e,YAs=true,hl gr e1 g,if YFc then S else Ykm,if_neg ZKw,bp λax=>?_,if_pos e,inR own caps r,inR own.length caps r,isList ak,isNode u=true,iz.type YG,j.2.2,j1 es ec,j4 Y2e s Yx,j4 wr s s',jK af,k+20,k4 B,kE most,kW z,kas_rev p 0 n,key u,kk mh B tr most s c,km ..,lQ us vs,lT S.N.length S.f,lots.map xI,m a=YBM,mA most q hs Yyq,mC a m ab,mE it s.heap h',mH m p.i p.perturb,mI _ hd,mO vs n▸d,mV t false YM2 Ywq YEZ,max Y16 Y0t,mg Y2e h,n (congrArg Ysb (c4 YkD ah)),n9 most (YVg) YOk,n=p.1,nF env a,nV t.place,nW e,nb e,next k % l.length,o.filterMap Y4a,Yng=Y2K,o=Y0l,oN t.mask h n,p t=false,pX f p,propext Aa,pure none,pure true,putN [] a N,pyIter x,q.2.2.length,q.2.imp,q3 (dP,ki),q9 h,qD a aD,r.set i YQ,r.un λy bf aJ a b=>?_,rI ..,rW af,r[i]?,bh g br,rq L aR,s.2.map gw,s.TypeIs Y46 "set_iterator",s.heap.IsList l items,Y9Y→YX2=YB,YX6→h'.get? c=YB,s.heap.objs.size≤b,some (Y0 dN),some Z1s,some (Y0 gg),some Y48,some Y37,some (0,ZD 405 [YA3]),some (ay (d+1)),some Y3E,some Y4r,some Y24,some 0,some d,some t,some true,st.elim λo q=>uE q.1 YG YC YC,t.led=led,t.put slot,tO W aq,tc ..,tf _ _ _,tx Y2T az,u::us,upd (upd mh lo Ytx) dN Y4Y,ur z,v=YA,vF D.3,vO v,vR g aH s2.heap a,vs.length≤18,v∈l,w.2.elim,w.params.followText "set-order",wZ ..,wpAny YR A ZXf Q E s,wpAny_pure Y1u,wpAny_truthy_bool ?_,xb Y2,xl mh w A S,xs.eraseIdx i,xs=[],xw ..,x∈R,Y4T.1,y.2.2,y0 vs,yl C d,z4 g C n,zY n=true,({A with U:=vf A.U S.N.length e4}),{cls:=Y2i,data:=Y47 (l.map λY9o=>ZYi).toArray},{cls:=YQN,data:=Z0U},({s with heap:=H}),¬ZTI,¬wr D,.nil,·.setIfInBounds,α→YeK,α→Y4w,λO O e O=>e,λO O h=>Z8S,λO O=>zz,λO aF=>Y3q,λO ar=>absurd ar cS,λO h=>YPh,λO h=>se h,λaF=>?_,λb O nb e=>YxP,λb ah=>?_,λb=>beq_self_eq_true b,λdv aH=>∃ey,ey<n∧J ey dv aH,λi ak av=>?_,λk aR=>?_,λq aF=>Y6p Y5F YOB,λt aZ=>kB [] aZ [t],λx aq=>?_,λy bb=>?_,λz hz=>?_,∀a b,Ymg=kv b→a=b,⟨0,_,_,Yc,?_⟩,⟨_,rfl⟩,⟨ZZL,s.gens,s.drawn,s.toks,s.os⟩,#[YF7,Y1m,Yw],((qM _ _).symm.imp Y1w Y1w),YZo∈H.mt,(Cw q).1,(E3 h A s aG ae aN).mono,Y7B.1,Y7B.2,YFY.2,(V.jM h).elim,(V.ph h).elim,(a.zip b).all YZ3=true,YZz YlK,YG6.1,(bH cl i).1,(bT bf).size,(bt ..).trans fN,(YC:cl 4 0=false),(d:List _),(dC.trans du).trans,(dP,P),(di N.length).map,(Y2:3≤100),(e.1,v),Y92.2,Y6q=r.1,(ee ah).elim,(Y1e:i=j),(Y1e:i=l),(e▸rs).one.elim,(f s).1,(gG af).elim,YEg x0=S.use x0++Z7o, Y9n S.N.length,YxG≤1000001,(h:v.eM False _),Shared→Y1,(i,0),(if ZKH then(ZfO,z.1,false)else YaQ),YxW i 0, Y9q Zi6,(YDa),Y9P.2,YMR.1,(o,[]),(o,Y2F),(o,[x]),Y6s∈r.1,(ps.zip xs).lookup,(putN t c5 N).2,(q.elim λO q=>q.2).elim,(q8).trans,ZXv.2.1,(r.set i YQ).set j Y06,(rp h aG ae aN).mono,YHm.2,(t,Y4d),(t,o),(tab n).getD,(tc ..).symm,(uW _ _).trans,(x5 (YO1 1 ZYh)),Y5x [x.1] Y2L ZJ,Y4b Y3T ax p,.Mult,.NotIn,.While,.b 1 c5 Y9u,YK y,ZK "list.append",.cell,ZF d5 as t own caps ifs elt,Y9 1 [],Y9 3 YLW,Y9 kc [],Y6x YQC,ZY vs,.func fd,YY e,YJ h,YI 0,Y5 (Y8J ZjC),.local,Ya ZIo (v 2) [],Ya ZIu Ybo [],.of k,.ok Z23,Y1L 4,.op (b2 358 2) YT,.op (b2 617 0) YT,.op Yic YCW,.op (tl 3) [],.op (wN Ycc) [],.op fi YAK,.op gW [v 2,v 0],.op i4 [YC4],.op i4 [Y9z],.op kT Y2E,some x,.op oEq [v 2,bK 6],.own a,Y0 692,Y0 T,Y0 bX,Y0 d5,Y0 dt,Y0 op,Y0 s1.heap.objs.size,Y0 sc,Y0 t,YS v,Y4 13,Y4 27,Y4 5,Y4 p.1,Y4 signs,YD [ZE],YE "BaseException",YE "range",YE "slice",YE "super",YE "tuple_iterator",YE "zip",.u 8 Y4f,1≤n,2 ^ (d+1) - 1,2 ^ 63,3≤c,51+8*S.N.length,6+w2,Z2j<cLine,A.units+50<cLine,Array Y0F,Array α,B5 ks,BA BB,BG kc vs m Q,Cp S p,Ct ao,D.3 i x af,DG q z,DecidableEq K,Down lt p n,Dp n f,EK kc.2,EM o ah,EP bD,Eg av,Ev g k env c.ns r mh YAm Q,FT ..,Fin→YP,Fy _ _ _,G.2.ng,G.3.ng,GC _,H.4.imp,H.5.imp,Hf x ((if YEj then(p.1,v7)else(p.1,p.2))::_)=_,Hq m,I.3.1,model prog w,Int→Y1,Y7D.1,L.lookup Y2p,L.lookup YP9,L.map Y1w,List (Str×V),List (Str×α),Yn→Y1,Yn→YP,Y3→YCh,Yd×Nat,List hQ,M.3 p (d8 _ z.1),M.3 p ar,N.drop (i+1),N.old L e,N4 _ _,NO (h:=af) V.none,N[j]?=Y06,Nat→YP,Nat→Y5V,Og prog w K,YeJ×PUnit,Y0X→YP,Option aI,Ow _ _,Ox _ _,Oy ck,P.map gw,Q Y1B m,Q Y9K s,Q a t vs,Q false m,Rest S P,Z7W≤13,S.N.length≤1000,S.N[j]?,Y1Q+ZV≤800000,St 0 s.heap,Step Y1V s mh s' ab,Step cX s mh s' ab,Step cX s mh Yx mh,Stores env m,Tab→YV→Y0S,V.noConfusion h id,V.str 3,V→K,W.2 i x aq,W.all V.isInt=true,Z.1.1,Z.2.2,Z.3.2,["self","n"],[(c,Y2V)],[YEk,Y81.2],[Y8V,w],[Y1F,Y3C,r],[df,eg,Y2x,ZZw,YN8,Y3x,oX,tR,YE2,jV,ba,cJ],[t++[(n,c)]],[x0,Y0T,Y0v,Z2,fl,e0,none,none,none,none,none,none],a5 g aH s2,.ret,a7.wait=[],a8→Y0S,a9 s.heap items.toList vs,a9 s.heap vs args,a<S.N.length,aA.trans YFw,aB ea mh m,aI×Ze,aK h e.val m.2,aK h' x v,aK s.heap cF a,aK s.heap dF b,aL sizeLine_eq ?_,aO (k:=k) K L ao h,aP ..,aT YF ?_,aT Y15 ?_,aU g (k+24),aU g (k+4),aU g k f args mh Q,aa (gi YVR ..) (aa ZdO (eQ ok.2)),aa ZN ?_,aa Y2O rfl,aa ZdO (eh YHV),aa aC Y23,aa h rfl,acc=[],ah n6 x aq,ai b,ai h.2,aj YF (fN),aj w.1 (aL w.2 ?_),args.length=np,arm_eval_Call ..,as.map Y0,au YG1 Y2,au (au Yk ao) Y2,au l2 Y2,av z.1,ax Yt,ay 0,b.take j,b8 v u,b8 x y,b=s.heap.objs.size,bH cl b,bK 14,bL cj w,bL kX af,bO p.1,bP→Ydt,bQ ZFM,bR ar,Y1p.1,backTo pos (starEach es env),bd (wpAny_attempt (wpAny_callSpecial?_slot (name:=YD3) dJ rO (wpAny_call_entry rO dJ FG ?_ (FH _)))),bd (wpAny_fieldsOf af rfl ?_),beq_false_of_ne λh=>q h.symm,beq_self_eq_true _,beq_self_eq_true i,Y4t.1,[v 0],by refine YSD;decide,by refine bW e ZBa;exact Yk,by rw[Bq,z0];rfl,by rw[e,Yob,rf];rfl,by rw[isSubtype_type];kernel_rfl,by unfold methodCallPos;refine aa sU ?_;rfl,by(refine aj Zbo ZCz);kernel_rfl,bz.fP e,b≠bs,b≠fR,ZIU+676,Y8y=Y5j,c1 a b3,c3 405 381,c3 487 444,c3 617 541,c4 ak (q.1▸az),c4 e8 il,c8 YGk YcV=YXC,cA ah gD,cI r 1,YiY=Y0v,cI r 9,Y1H=YQ,cK.f YDN.2,cK.f YyR,cL Y1q.2,cL ao,cL c,cL z,cM▸cP,cR.trans YFv,cU 670,cU 680,cU 685,cY d7 Yc,canon f (N.getD i YZj),Y2p=Yik,cb Y2u ?_,cl 2 t,cl 3,cl 5,cl i t=true,c≠z,d.2.2,d.flatMap Y9V,d.length*YGt,d0.Perm YNT,d0.Perm us,d2 w s.heap xs es,dD.1.2,dI u m=true,dI v 8=true,dR p j,dd A (k+1),decide (Y6m<(d.length:Int)),decide YuA,decide (0<d.length),decide (aK s.heap y x),dep Y4c,dep x,a5 g mh s,dy h,e.key.isStr n,eE es k v,Yja=false,eI _ he,ee aO,ef w v,ej fQ,ej h,Y95=Y0l,Y25=Y2y,Y25=Y2z,eo v.1,eq_of_beq af,er "sorted",es++Y9N,es.eraseIdx i,es.length<20,es.length≤1000001,es.size≤18,et h,eu _ Y5a,execs a env,execs b env,e▸bz,e▸r,f _ YlI,f _ q s.toks,f i==h,f j=f i,f n→P,Y16≠Y0t,f z.2,f.trans dZ,f1 _ _ aE rfl,f1 _ _ e rfl,f7 t.mask Y0Z N,f7 t.mask h k,fO k 1 ..,fr++[YIy],g.K.lookup f,Y9B=YB,g0 S.f x0 df i,g0 f x y i,g0 f x0 df,g4 h,gQ q,gV c x=true,gv.2.1,h a aD,h c ao,h.get? C,YDJ→Y6P=YB,ZQH=Y9b,YlH=some oZ,h1 es.size led t,h6 s.1 s.2,h9 af,h9 h,hH _ _ _ _ e,hT s.heap,List Nat,hh b ah,hi N,hj++[xd],hl dP ki f,hy g X s mh R,i3.flatMap YWA,YAt=i,i8 S.N S.f c,iC af,iR t q N,Y6S+1,if r=true then do let ok ←isTrue c env (eval c env);pure (ub ok)else ZXR,if z=YMV then YVs else z,isList av,isTrue e env Y0s,iz h x vs,iz.type YSs,i≠j,j+h2,jC m acc ts,jK w.1,jo ZX q,jz P need K T,j∈L,k+16,k+7+ZV,k1 a,YVR+k1 b,k3 Y4t Ywd,kas_bin f p k,kas_sort n,knd.hash YMH,ko _ ar,kv p.1,l.1.2,l.map Y1w,l.map V.int,l8 _,lA YCn,lT N.length f,lT n f,lots.map Yh,lt Yny YB9 ,lt i j,lu N P f,m a=Y1h,m b=YB,m5 vs,m=7∨m=31,max x y,Y0d=Y3i,mh pl=YND,mi s.heap D acc,min Y16 Y0t,min x y,mz bO Y6R,mz kv l,n - (q+1),n.2.elim,n3 S i x,n7 S a7,bV _,n9 most (cB.map Zk2) ZX,nQ c.cN,nb eJ,newList [],nl ak,nl av,np≤ns.length,ns.take np,YnZ=some ZZt,nv L YG x,o.cls=Yci,o.data=Y9 es ep,o.setIfInBounds Y99 Y5j,o3 g C B f cell,o9 i,oA _ _ e,oZ.cls=Yw,o[j]?,oc aE,oe xs j,ok.2.2,oo q,ou aq,ox p l m,p 0=false,p.1<N.length,p.2.1,p.2<N.length,p3 d,p5 e,pU q.1 R t∧xp (λx c=>Yqo) t YG c,pV N f q h,pV dP f q h,pY dP ki s,pairs l,pairs vs,pf e h,pk Y4H,pl.map ZOX,pre vs us,ps.map bB,ps[i]?,YHZ.2,pure (),putN [] p N,q > 0,q v aO,q.1.1,q.1.keep,q.1=28,qJ aZ,r.2.1,Y9W.2,r.of az YNR,r.un λe e6 aJ a b c d=>?_,rG h.3 ..,rG zn,rawInt 0,relayAll t1 f6 YqM,rt g wr Y D s0 m0 s m acc,runN most YaG YJ3,λO O O=>none,s'.heap.get? a,s'.heap.get? b,s.2++YFk,Y0u=Y85,Y0u=YB,s.heap.get? c=YB,s.heap.get? it,s1.toks+1,seqObj "list" Z1 0,some (Y0Q Yzz [Yzy] [] lP),some (ZK "object.__setattr__"),some Z1h,some (Y0 be),some Z1t,some ZM,some (16,YbS),some (8,Y5 ZU2),some (bB Y0r),some Y8x,some YAp,some YQ,some (xF y),some [],some o',some p,Zb.2,stN L t b,stN L t p,t % 8,t.advance p,Y9c=Y0M,t.lookup o=none,t.lookup v=Y0M,t.mask=31,t.mask=7,YBP=Y2P,tab m,td dn,two vs False λa b=>P a b m Q,u::us.drop p,uG s.heap z TI c2 dM dt l1 l2 k xs bf a b,uR ..,upd Yps B.b YuH,upd m bs YZl,upd mh a YPL,upd mh be Y8E,upd mh d (t,Y9 c (eE es ec m)),us.take p,vB B ei i9 r,vD N P f Wp c,vY i,vs.all (j2 · x)=true,vs.any (b8 · x),vs.length≤1000000,w0 m h,wA h a b,wpAny YR A (dictFind d key ZMq) Q E s,wpAny_holding ?_,wpAny_pure y,Y1K.2,Y6g.1,.inl,Y6g.2,x.5.elim,x.6.1,x6 kq dg,x==y,x=p.1,xA N P f,xE f N.zipIdx L,xP C h.objs.size,xf N P R,x∈Y6Q,x∈ps,yh q,z _ λbl a7 f1 bx H1 iq dO ni=>?_,Z3.1,Z3.2,z.2.2.keep,z.2.mono,z.3.ez,zL bq Y8u,zO ..,zi Y4W q,{cls:=YQL,data:=ZY #[Y7,Z0i,Y7]},{cls:=o.cls,dict:=Zam,data:=o.data,slots:=o.slots},({s with heap:=h',toks:=YBI}),({s with heap:=qt,toks:=s.toks+([]:YCL).length}),({s' with heap:=h'}),({s1 with heap:=YHk,toks:=YX8}),({s1 with heap:=s1.heap.push Zfq,toks:=YX8}),¬Y3P,λO O O O O=>d _,λO O O=>False,λO O e O O=>e,λO O=>True,λO O=>d,λO ai b=>b.eM false ai,λO e=>e.elim λO e=>hn e.1,λO he=>absurd he cS,λO hz=>absurd hz cS,λO s'=>ZWA,λO z=>z.1,λO z=>z▸rfl,λO=>"tuple",λO=>Y5M,λO=>Y3o,λa=>Yjv∨wr a,λaD ah n e=>YMX,λb ah=>⟨0,ZPk⟩,λb o e=>aq b o Y6M e,λbD bC d4 hJ=>?_,λbI ab=>s bI ab Qn Qr,λd x rest e acc m z N cf=>?_,λe=>Y8O,λe=>e▸Yk,λi h=>se h,λi j=>eF YJS ((vs[j]?).getD v0),λi=>V.ref YFE,λi=>ZdE,λj k u ak av aP=>?_,λj=>YGU,λn aA=>⟨_,aA,rfl,n,rfl⟩,b7 g,λo:Y1E=>o.1,λp=>Y16 !=Y0t,λp=>j2 p.1 p.2,λq=>Y36,λt h=>?_,λx=>YFN,λy s1=>WP g A YoI (nK g YJX true s0 m0 Q) s1,λy z=>?_,λz=>sk _ z.symm,λ{g H k env c r mh xs Q}K L ao h=>?_,∀v aW,Q v aW→Q' v aW,∀v,Y9d↔YNb,∀{m:ag}{a b:Nat}{t u:Nat}{o o':ct},Ymw→m b=YpG→t≠u→YCl,⟨#[c]⟩,⟨Yyu Ym4,s.gens,s.drawn,s.toks,s.os⟩,⟨[],rfl⟩,⟨_,af,rfl⟩,⟨aH,y.1,YEI,y.3⟩,⟨YC,Y1G,ZL,Fh _⟩,⟨fd.scope.names,rP⟩,⟨ZPz,s.gens,s.drawn,tk,s.os⟩,⟨rfl,Zk⟩,⟨rfl,rfl,Y2⟩,⟨rfl,z⟩,⟨rfl,λe=>absurd Z8V Y03⟩,⟨s.heap,s.gens,s.drawn,s.toks,s.os⟩,⟨tgt,iter,ifs,0⟩,⟨trivial,?_⟩,⟨x,Zk⟩,⟨x,rfl,YCm⟩,⟨⟩,("__class__":Str),("self":Str),(YOR:Y1N),((p,v)::r).lookup n,((qM _ _).imp Yh Yh),(YoP.2.1 t).mp,(Yya j Y6e).set l YNJ,YIr YHl,(0,Y9 1 Yd6),(0,.fix ZeQ),(0,Y5 (a4 cs)),(0,Y5 (bs.map YK)),(0,Y5 ZPe),(0,[]),(10,Y8T),(8,Z0Q),(Al h).elim,(By _).trans,(C,n,f),(E1 e).elim,(Et s.heap l1 l2).objs.size,(Ht _ _ (q6 ah)).trans,(Ou _).symm,(S.N,fr),(S.use i).length,(V.jM o).elim,(V.kr h).elim,([]:List Keyword).length,(_:cv),(a4 aZ).map,.met,(a7.N,qW),(a:Int),(Y2l:YJy),(aP t).mp bq,YBf Zgq,YhS.1 r mh Q,Zd r m Q', Yr[c]?,Ya8=some Y6o,(bs.filter id).map Yrc,(cG.fP bx).symm,(congrArg _ e).trans,(congrArg _ q).trans,(d++[YJU]).length=Y5Z,(d++[x]).map,(d.map Yh),(d.map dep).sum,(di N.length).filter,(di vs.length).map,(Y2:2≤15),(e7 cl as).1,(e::·),Y8M=YHg,(ee bb).elim,(elim_some hm).elim,(es,t.standIn es.size,true),(e▸bg).one.elim,YGh.1,(gG q).elim,(h.push YNY).push,YGv×Nat,(hc m n Y2w).j,(hideAll s2.heap YCf).get?,(hideAll s2.heap fs).StaysIn s'.heap,(i*5+1) % (m+1),(i,pt),(iF L.3 rfl:(S.N,s.2)=s),(if_pos rfl).symm,(j:Int),(jJ af).1,(jm aD).elim,(jm h).elim,(kl p).length,(l.map w).sum,(m t c).mp,(m.2 v).mp,(YMY).1,(ZVa++ZVc).length,(ns.take np).zip,(nu q.1 R).flatMap,YWD[i]?,(o7 prog w).hash,(pureOf (swapsWithSole [t] v p.line YnP)).elim,(putL [] ps S.N).2,(putN t Y0r N).2,(q.2 A s2 m1 x aG a2 (L.3.step eX ap) bg).mono,(q.2 i n v ak av aP).imp,(YoN:R (YK (! YY5)) s),(r.at af).elim,(rm e).elim,(rm tg).elim,ax ?_,(rm x).elim,(rowsOf S p c).map,(rp h.len aG ae aN).mono,(s,[]),(s,false),(so ..).trans,(t,Ybf),(t,o'),Y3N.1.place,(tI Y21 h).elim,(uu z).elim,YY5=Y1S→P,(yA c e).elim,YIK,(zI f1).trans,(·=C),(∃o,And (h'.get? e=YB) (o.cls=YJr))→E Y45 Yx,(Y5G:Shared).TypeIs,.BinOp,.IfExp,Y09 m q,Y09 x c5,.Raise YXA none pos,.b 1 c5 py,ZK id,Y5y Y2h YtJ,.candidate,Y9 3 Y13,Y9 c kq,.dummy,Y01 YPm YO,.fd C i (v 0),ZY #[YQ4,Y7,Y7,Y7,Y1B,Y7],YY ar,YY bC,YJ Zk,YI (-i),YI Y0q,YI n tk,Y5 E',Y5 l,Y5 ms,Ya o a as,.nm 10,.nm 6,ZD C [],ZD C fX,.op (b2 198 1) YT,.op (b2 236 0) YT,.op ZFp YT,.op ZFq YT,.op (b2 617 6) YT,.op (b2 C0 i) [YJu],.op (cU 629) [],.op YGL YCW,.op YAZ YT,.op YAZ Y2E,.op Jz [Z1M,Z1P],.op fc [Ybs,v 0],.op fc [v 0,bK 23],.op fc [v 2,Y3n],bw _ _ _,.op gW [v 2,.op fc [.op fc [v 1,bK 23],v 0]],.op i4 [YC6],.op i4 Y1a,.op oEq [v 2,bK 10],.op oEq [v 2,bK 27],.op oJ YfQ,.op oTup [Y3n],.op oTup [],Y0 YGs,Y0 697,Yw::YMD,Y0 R.mu,Y0 bl.h,Y0 dM,Y0 l1,Y0 l2,Y0 pp,Y0 tX,YA4::bf,Y0 zV,Yy D,YS (v 1),YS (v 3),YS qI,.sX s1 wH t1 s2 wI cy own caps elt,Y47 ([]:Yn).toArray,.seq1 a,Y4 19,Y4 22,Y4 25,Y4 29,Y4 name tk,ZE::vs,Y4 x,.three,YD (YQE::YBB),YD YKZ,YD Y8m,YD Y1R,YD l,YCB 0 1,YCB 2 3,YCB 4 5,YE n,2 - YCy,2 ^ 64,2≤vs.length,34+8*n,51+8*c,@wpAny_Constant_int,A.in1.units+20<cLine,A.units+40<cLine,AF ..,Aj ..,And (l<i) ZS4 ,B (A s).1,B.5.imp,B.6.lt aD,B.7.imp,B1 c w.1,BX nm c e=Y2K,List a8,Bb t r,Bh is r vs,C.1.lt,C.2 b ah,CJ x y,CU tr most,Cv p h,C≠B,YFI k Ly,Dq xU (bL dK bZ),E.length≤S.e,Eb he.1,Ek st,Eu iX lg,Flow→YP,ForInStep YAA,GS YC t,Gs g k B P ext t p,H.3.6.2,H.3.6.lt,H.7.imp,H.gl.lookup n,Hm ..,Hw ..,IL ae e,Int→YP,Inv d acc m,Inv d r m,Ip ((gy ..).trans (congrArg _ YMt)),I≠it,J.4 A Y2l,JA op P,JD a b=true,K acc m,K.3 C l hf,K3 h,K6 YC,K7 YC,Kd ps,Ke ms,L.1.dq,L.Nodup→(∀a∈L,a∈M)→L.length≤M.length,L.Nodup∧∀j,YVO↔j<n∧f j=i,L.lookup YAa,L.lookup YP8,L.map kv,L5 YG,LG ..,LT ab bX bl a7 B,LV mh w A,List (Bool×Y5P),List YKT,List YGv,List Bool,Ze→Bool,Y3→YKr,Yd→Y1,Yd→α→Yd,List zT,List.Perm ord es.toList,Ln ..,List aI,Looks YR h ZRx true,MI C.1 bZ hm mc,Mf ..,Mx q aF,N acc ab,N.has L,Z5i++[x],NM Ys3,NU _,N[j]?=YQ,Nat.sub_le _ _,Nat×Tab,Nat→Yd,Nat→Nat→Nat→dm→Y1,Nat→Yo,Nat→α,Oc t.dummies j,Option Addr,Option Bool,Option β,Oz YTK,P Y2g C,P l [] ab,P vals [] aH,P vals r aH,P.length=n,P.length≤900000,P.set y x,P[i]?=YXP,Q Y3T m,Q YA (upd m a YPL),Q YA ab,Q Y0B ab,Q ZFQ mh,Q Y5g,Q none Yx,Q true m,Q true Yx,Q v s',Q' (.yield Y8Q) s',R () s',S.N.length≤10,S.N[i]?,S.ed++YFl,YFa=Y0N,S.e≤900000,S.e≤a7.e,S.use c,Yem++Y8n ,YKN++YAF,Seen N f d L late,Step X s0 m0 s mh,Step cX s mh s' aW,Step cX s mh s1 mh,Step cX s mh s2 aH,Step.grow b5,Step.toks _,Str×NameKind,Tab→Nat→Y0S,TupAt h a items,TupAt s.heap a xs,cq cp,U i h,V.str n,V.tu h,Value×Value,Value→Y1,W.map Yh,W.no f1,X.length≤S.N.length+S.e,Z.1.imp,Z.no f1,[(YBo,tU)],[(3,x),(4,y)],[Y1M,Y1F],[Y1Z,Y0 U.u],[Y35,key,v],[YD [YQF,Y1b,Y1b]],[YD [Y36,Y0 tU]],[YCk,Y24],[c6,cT],[it,a],[Z2,eg,d1,YBK,Y2x,zN,oX,Yp7,vG,jV,GF],[Z2,some (gh YEu),some (Y4 6),none,none],[Y05,Yoy,Za1,ZZx,some (Y0 bn)],[Y0T,YHo],[v 0,v 2],[v 1,Y0I],[v 1,Y1c],[v 1,v 0,v 2],[v 8,.op oTup [bK 18,Z1a]],[v 8,.op oTup [bK 19,bK 13]],[x0,Y0T,Y0v,Z2,ZZu,none,none,none,none,none,none,none],a++b,a+20*k+60<9900,a+b+1,a+n - 1 - k,a4 S.wait,a4 l',a5 g aW s',a5 g mh s1,a6 cl (Yi YbW e s) r m Qn Q,a6 cl s r ab Qn Q,a7.N=S.N,a9 h items vs,a::as,a::t,aA.elim id nb,aB no m m1,aB no mh aH,aB p m1 aH,aB p mh aW,aB pW mh m,aB pZ m ab,aB pZ mh ab,aD.trans x.1,aE l h,aI×aI×Pos,aK h cF a,aK h dF b,aK h e.val v,aK h x m,aK h y u,cC ?_,aK s.heap cF x,aK s.heap x ZZ,aK s.heap y u,aK.ofStr w.1 _,aL Y1e ?_,aL ZYz ?_,aL cj Yk,aL l1 ?_,aN.ez eX,aQ Yli hf,aQ ZN h,aQ ZU h,aQ ZfC c,aQ h Y5W,aQ hE h,aR c w.1,aR x aq,aS YEX,aS Zn,aT (acs ..) ?_,aT e3 ?_,aU g (k+5) 569 YKY mh Q,aX e ?_,aZ.length≤2,aa ZU ?_,aa YDb ?_,aa L.1 Z3q,aa aE ?_,aa aJ rfl,aa dK ?_,aa iW Y23,aa q ?_,aa q h,YAQ=some (t,ZD C (putAt fs Y0B i))→ZUS,Y1y=YQ,ab2 aE,ab6 ..,abU ..,abW ..,absurd (Dy e).2 Y03,absurd (cA e r.jh) Y03,absurd aE.symm Y7s,absurd aO cS,absurd ao YC,absurd av ZZi,acK (env:=env) l4,acc++[x],accN F d s,accN F l s,accN xJ d s,addrs l,ae.ys lo e,ag→Ys→Y1,ah n6 q aF,ai ..,ai bZ h,ai d,ai Z3,aj YF Y2I,aj YF YKt,aj YDH ?_,(·.1),aj ZN ?_,aj Zd5 Y07,applyN most q s h,aq.2.keep kt,ar.elim id nb,as.getD i 0,au (au YT2 aE) Y2,au vy Y2,au zW Y2,ZFK=YB,aw (bc rfl Y7Q),aw (cst Y7Q),ay h2,ay most,b.1 r m Q,b2 263 1,b3 ..,b5 _ _ e,b5 b o e,b6[i]?=Y0e,b8 Y1F Y3C,b8 m ab,b8 m.1 k,b<S.N.length,b=D∨ZN7∨Y3P,b=false,bG→ag→hg→Yv7,bH ZH e,bK 22,bL ZO ?_,bL cj ZBw,bL d.2.1 bg,bM r.1,bM s.1,bN e aq,bN e bb,bN e this,bO Y2p,bR aD,bR he▸rfl,Y1p.2.length,bT Y6L,bT [v],bc rfl ⟨Y2,?_⟩,bd (bd (wpAny_onRaise ?_)),bd (wpAny_mono aq (λb O y=>?_) ZgV),bd (wpAny_notOrdered_dict Y55 ?_),bd (wpAny_pure Yg),bd (wpAny_rule Y1u),bd (wpAny_seqItems aA rfl Y6I),bd (wpAny_standAt Y6I),bd (wpAny_typeNameOfWhole_keyiter hit.typeIs Zm),bd (wpAny_typeNameOf_keyiter hit.typeIs Zm),beq_false_of_ne e,beq_self_eq_true n,bg.keep Y64,bk▸cP,bne_self_eq_false ..,bootBuiltins Y3c,br.eA.lookup C,br.gl.take 25,.asg,ZHb=none,bx▸cG,by first | exact YY ZL | exact YJ ZL,by refine aT YAR ?_;rfl,by refine Ygz;exact au (dX l2) Y2,by refine aj e Y7P;rfl,by refine aj g5 YSG;exact ZEy,by size_fits,bz.keep Y7K,b≠dN,b≠fb,c+676,c+YFD,YCt≤799000,Y8y==Zan,ZId=Y31,c3 301 286,c3 358 343,c3 C f,c4 j5 af,c8 YGW k=cond Y1z YpJ YiQ,c8 Y6T ZM,YiM=(t.lookup n).map ay,c8 ZTq v,ZJ1=Y31,c8 es k,c<W.length,cA Y7g e,cA (oA p.2 bs e) h,cA bk e,cB[c]'ao,cF=Y0V,cG.fP bx,cI r 2,cI r 8,cK.e+1,cL jU.2,cU 643,cU 655,cU 86,cU 91,cW q.symm,cW YIM,cY zr xe.7,cZ ?_,canon f y,cb YDR ?_,cb Y4Q Y0K,cg cT M2 YBT,YCu=false,YCu=true,YTe=true,cl 3 t,collect YA,congrArg _ e,congrArg l5 Y2O,cu bb,cu hm,cu ig,cz _ _ vE rfl,c∈cs,V→Y6,c≠dM,d++[YJU],d++[c],d++[q],d++[u],d2 g.w s.heap xs es,d3 aW A S,d3 aW bl a7,d3 m A S,d5.2.1,d==sysModules,dG ao YEQ,dG d λbD bC=>dG eJ ZiW,dH YVc,dI v (n+1)=true,dI.2.2 c ao,dR p n,dU YFx ?_,dU Y15 ?_,dX ai,dd A (k+5),decide (i<n),decide_eq_true q,ZV=YJM+1,dep Yq,di 4,dk.2.2,dr b,drop_cons hd,dw k ..,dy li,e7 cl [],e::xs,eE YGW k v=cond Y1z Ywn (e::YU3),YD1=true,eF b a,eH tr most a Y6n,eH tr most a s',eH tr most b YGX.1,eI _ ah,eI _ bb,eI _ bj,eR o (S.N,aZ),eT q h,eU s.heap s'.heap,eV N.length,ea t=false,ea t||cl 5 t,ef w,ej YDA,ej z,entryFor_of_tree Y1G,YUB∨Y25=Y6d,Y25=Y27,env.kindOf x,env.scope.kind=Y5K,envX env a,eq2 ak av aP,eqBool x y,eq_of_beq z,er "set",cx _ _,Y3c≠"__name__",es.getD z.2 (0,Y7),et aF,eu _ Yk5,eu _ ZW,eu _ aA,eval (Y0Q Yzo es [] pos) env,eval dt env,eval elt env,eval t env,eval y env,ew dD.2 YqJ,e▸aD,f _ h.2,f j=true→P,f x.1,f x.2,f1 _ _ ak rfl,f2 _ _ ip rfl,f2.trans cz,f9 q,fE hm,fE q,fF gK aM,fL Yr t Y0r=Y6o,fL Yr t q,fL T t p,fV 8 v,fX.Perm vs,fb≠dN,findIn K Yw n,fk Y2s p [] c,fk nod a,fk nod c5,foldedSetIterable dt env x,forIn ifs true λc r=>YVC,fr a q,fr.trans cz,fs[i]?=some (Y0 q),g ..,YUf=YE4,g.h₀.get? C=none,g0 S.f x0 df,g7 e xV,gF a,gF b,gH g k env c.ns r es mh Q,gM S ZUz ZUd,gM S x0 df,gO B pp ZSQ,gQ e,gV c b=true,gV c e.1=true,gV c k=true,gX w h es.toList us,getL n xs,gn YCr h,gn YSw h,gn Y3G (Av q h),gn Y3G (Aw q h),gn ck q,λO O O O=>none,Y3s∨nk p=true,YLp∧(ZPa∨nk Yq=true),gv.2.2,gx S.N S.f,gz YWU ?_,h A s vs aG ae bz,h cl,h mh Yy,h rfl,h'.get? S=YAq,h'.get? b,h'.get? it,h.2.elim,YUq=some (excClassObj nm q C N bs YMD Nm sn sub ae col oL p4 dC du gs gZ "Exception.__new__"),h.get? I,YDK→YGp,h.get? x,h.un.2,h1 es.size YDd t,h3 W,h6 a7.N P p.1,h6 a7.N P p.2,hA+dx,hH s.heap Y3R,hM i,hQ×Nat,hU s1.heap h',ha g A tgt I vals.length weak YYw need wr St,hashStr w YzI,hc m n Y2w,he.2.2,hl N P g,hl dP P f,hp aM,hq af,hq h,hy g X s mh R () Y0w,i+k≤Y7q,i.fmod 1000003,i6 f n,i8 N f,i<es.size,i<k→YDe=true,iC z,ic h,ic λe=>q YMc,id hit,ie 1 es,if_neg Y6K,if_neg YU9,if_neg aF,if_neg ak,if_neg av,if_neg az,if_neg ck,if_neg h,if_neg w,if_neg z,if_pos aF,if_pos ak,if_pos av,some v,if_pos h,if_pos w,if_pos z,instObj C s.heap.objs.size,inv us h',iq.trans i7,isStar e=false,isTrue t env YkA,isTrue x env YAm,items[i]?,i≤vals.length,j2 a b=true,j3 t weak v r Q,j=S.N.length,jE x.2,jJ h,jK Y1o,jW+YCE,jo s q,jw Q v mh,jz P jj Y8B YMU,j≤k,k a o e,k j rfl h,k n rfl h,k rfl h,Y2W+6,YH6+ZV,k+21,k+d+2,k3 Y4t Ywa,k3 YSz YwV,kE most x.1 Y6n,kI (stN L t q),kI none,kK Y9A ?_,kas_rev p YVw n,kb m 13 Yaa,key_is a ..,keywordEach [] env,ki++s.2,kv a,ky 1 Yf,l'.Perm l,l.all V.isInt=true,l.foldl ZkD r,l.length≤1000000,l.map f,l7 (YrH v),l7 λO=>(#[]:Y1N),lI g wr m,Y54=Y5j,Y54=YQ,layNew t es h x,lt y x=false,m a=none,m a=Y3i,m a=Y59,m b=YQ,m p=YBM,m p=some (t,ZD C0 fs),List Value,YHM=true,m8 w led h S us,mO ..,mO us m▸eJ,mZ g.K 381 rP 2 (t2 n "kind" 6 G1)=true,mZ g.K 388 BZ 2 (t2 n "name" 1 G0)=true,md us m=true,me _ ae Y4G YDv,mem af,mg wr s.heap,mh A.h=some (3,ZD 617 [Y0 A.B.b,Y0 A.U.u,Y0 A.iW,Y0 A.dN,Y0 A.ed,Y0 A.ae,Y0 A.n2]),Y0d=Y59,Y0d=Y0M,YB2∧ZOu,Y6V=Y0M,mh ed=some (tk,YbS),mh pl=some (0,ZD 405 ws),mh s.heap.objs.size=none,mi s'.heap D acc,mj scope.names env.cells [],most<Y4S,mw.2.2,n7 S cK,nE z.2 (z.3 A s1 aG z.1 Y2H),nQ cN,nS lt p k,nX aE,nZ ..,nameAt c i x,nb this,nm∈yu,no tk=false,noStar [a]=true,nrem≤p.size,nsIn g.K mainGlobals n,ns[j]?=Y31,nv L YG x y,nx m bX A R tr most cQ u c jW s S pl B,nx mh bX A R tr most cQ u c jW s S pl B,n≠28,n≤63,o.nH H c e,o4 g 381 C n "kind" 6,o4 g 388 C n "name" 1,oB a aD,oK nm x,oN t.mask h (n+1),oQ S a7,oY YTp cO,YWI=Y5i,od lk,of_decide_eq_true ao,of_decide_eq_true bD,of_hideAll _ q,oh kC ?_,ord[i]?=Y5A,oz _ _ e,oz p.2 bs e,YWQ∧YWS,p.getD n 0,p.more > 0,Nat→Y1,p0 cd (d+1),p6 YW,p::L,pK.2.2,pP.trans bx,pU n R t,pairAt vs,pairs Yr,pk q.1,pl.map bB,plainGet_of c.1,pre ms jQ,propext z7,pure false,putN t q N,putN t YG N,pw Y0f,pyIter y,p∈fr,q.1.elim,q.2.1.imp,q.2.2.un,q.symm▸ZNo,qK Y4W,qT dr _,qV N f YG,qi es k,qy Y1H _,qy YAW _,qz es H c xs=true,r.2.1.elim,r.2.any id,r.2.length,r.lookup n,r=.ok (YS Y0h),rM m hs o n,ra YW,rd az,relayAll t es wanted,rest=[],rf ..,ri aD,ri h,roots S.N.length S.f,run lt (kas_desc (f+1) p n q),run lt (kas_place p k (f+1) l r),run lt (kas_place p k f l r),s.5 p ar,s.heap.IsTuple l items,s.heap.get? env.locals=none,s.heap.objs.size+2,s.heap.objs.size+4,s2.heap.UpToSlots s'.heap,sgn v=true,sl n v,sn "size",some (YI (k:Int) tk),some Y2h,some (Y0 fR),some Y76,some Y0V,Option V,some (0,YPj),some (0,Y5 Yl4),some (YFC,Y5 Y8o),some YSf,some Y7Y,some Y4s,some ZLg,some (excClassObj nm q C N bs YMD true sn sub ae col oL p4 dC du gs gZ "Exception.__new__"),some (gU [] 0),some YHI,some (pH Z1i i a es.size ep),some YXB,some (t,YEw),some (t,.fix vs),some (t,YQ2),some (u,o'),some YNr,some 40,some e.2,some h,some ob,some q,some u,some w,some {cls:=Y2i,data:=Y47 ps c},YHq % (m+1),st.1.at,stN L Y2V YG,strLen_append ..,strOk a=true,swappedStores [t] v env,t.place.getD k 0+1,YHt=Y0N,t.place[ZWM]?==Y0N,t.put z.1,YBP=Y73 i,t0.length≤1000,t7 mh ab,tK mh A R tr most cQ u P S fr j,tv q,tx Y2T ks,u+16,u+4≤1000,uJ b Z0a,uR _ _ _,uX x0,uj tt,upd (upd (upd (upd bF vL (12,Y0R)) vM (20,Y9 4 [])) vN Y5q) xO (4,Y9 1 (gO Zng vN [])),upd Zc4 gg Yu1,upd Zc8 A.ae YuG,upd ZcD cO YZg,upd (upd m1 cd (14,Y5 (l.map ZjB))) bX (6,Y9 1 ZWm),upd (upd mh t1 (0,Y5 [ZFQ,ay (f b)])) cy (0,Y5 Z9m),upd aH B.b (4,Y9 1 (gO B pp [Ytw])),upd bF B.b (4,Y9 1 (gO B gg Y3J)),upd bF a (3,Z0u),upd m e2 (0,Y5 (a4 nq)),upd m1 a (3,Z0v),upd m1 e4 (7,Y5 [bB ek]),upd mh a c,upd mh bX YuI,q.2.2,upd mh s.heap.objs.size (0,Z1e),Zcj≤18,us[i]?,u∈us,Yq4→YCP,v.eM false ZZU,v0∈vs,vK ah,vY n,vm us,vq P S fr j,vr S.N.length q h.2,vs.length - 1,vs[n]?,vv most cB ZX,w+a≤b,w.2.1.elim,w.3.elim,w2.1.le,w5 Z6,w9 c,wa f6.size,wpAny_call YLK,wpAny_pure Yl9,wpAny_pure YIE,wx st,x++y,Y2b=Y3c,x.1==o&&Y3Q==n,x.1=false,YIF λO z=>z.elim Zgx,ZeZ 0 0,x.2.keep,Y3Q==pl.length,Y3Q≤1000,x.2=Y6z,x.5.imp,x9.filter _,x::r,x::xs,xK z.2 y,xW ZZV,xs++bf,xs.length=ps.length,xs.length=vs.length,xs.zip bf,xs[Y5u]'hs,xs[i]?,Yqm=Y5A,x∈nod c,x∈us,y.2.map,y.2.trans,y.all Yxd=true,y.any (b8 · a),yQ c.cN tg x p,yo Y1I,yt e,yz z c2 dM dt,z _ λbl a7 e0 bx fA ey f ni=>?_,z.2.symm,bM N,YYJ y.2,zR p d,zb prog w knd ok key,zd m h,({a7 with wait:=w}),{cls:=YE "dict_items",data:=ZY #[YA]},{cls:=YJs,data:=ZY #[Y7,Y1B,Y2C,YWw,Y7,Y7]},({s with heap:=s.heap.push (jZ vs 0),toks:=t}),({s with heap:=ZZM}),({s with heap:=s.heap.update d (Hd Yzh),toks:=YHj}),({s with toks:=t}),({s1 with heap:=h',toks:=tk}),{x:Z88 // (∃p pos,e=Y0Q (Y09 x.1 p) x.2 [] pos)∧noStar x.2=true∧YLA=Y27∧(x.1==Y1l)=false},¬kept s.heap o,¬nF env D,¬wr a,·.push,α→List β,λO O O O O z O=>JO z,λO O O O O=>nb,λO O O O O=>true,λO O O h=>h.elim,λO O a b=>a+b,λO O aF=>Y3q,λO O h=>Y4p,λO O l=>l.isEmpty,λO O x=>x,λO O=>V.str_inj,λO O=>id,λO e=>YPg,λO e=>YCd,λO e=>e.elim λO e=>e.elim λO e=>hn e.2,λO e=>ZYt,λO q=>q.1,λO z=>qg z.1 z.2 Y17,λO=>Hs,λO=>Q false,λO=>V.int 1,λO=>d _,λW z=>⟨cg bj z.1 YNi,z.2⟩,λX e=>Y7a,λb q e=>ap b Yqw q,λb6=>a6 cl b b6 m YKI Q,λc ao=>?_,λc z=>?_,λc z=>absurd z.2 (pa c),λc=>Y6o,λd z rest e r m w jq e8=>?_,λe he=>?_,λe=>absurd YWl (mL e h8),λe=>YAn,λeA s2 z=>?_,λes ep t aA T hX=>?_,λh O aF=>Y0H▸h,λh' aq=>?_,λh=>Y4p,λh=>Y08,λh=>g.K.In h,λh=>h.imp λx z=>⟨z.1,?_⟩,λhm=>j8 hm Zks,λi v=>YEb=Ym,Y3→Y6,λi z=>?_,λi=>YJS,λi=>?_,λi=>YAt==i,λj=>(owner.getD j none).map ZjP,λk j h=>?_,λl=>l.isEmpty,λm=>aH=m,λm=>n==m,λn e=>?_,λo=>hashStr w (Ha o jc),λp aH b c9 f2=>h p aH b c9 Y4z,λq=>n Y9x,λr l=>mA most l.1 l.2 r,λr m w=>?_,λr m=>a6 _ YO r m Qn Q,λr m=>Y4E,λr q=>(ZT2.1,r.2||ZT2.2),λr s' z=>?_,λt h=>by show(YXT==2)=false;refine YSH;rfl,λt q=>?_,λt=>(c,t),λt=>fk Y2s q t c,λt=>fk nod a t k,λv s'=>∃b,v=Y1x∧R (YK (!b)) s',λv=>Y8e,λvs=>Q Y0O,λw=>YLL,λx aq e=>?_,λx c=>x∈Y6R,λx=>(stN L t b).elim none Zl6 ,λx=>?_,λx=>m6 n x.2,λxs=>YNl,λy z=>YAl,λz aH=>Y8s∧N (acc++[z]) aH,λz:Y1E=>z.1,λz=>Yxr (xK z.2),λz=>V.tup [YAT,ZUF],λz=>YAT,λ{T}=>rfl,∀(i:Nat)(v:V),YBG→YhK,∀acc m s1 s',rt g wr Y D s0 m0 s1 m acc→j4 wr s1 s'→a5 g m s'→de g env ns r m s'→YnJ→YdY→R Z0x s',∀a∈fs,a∈Ygp∨YDy,∀a∈fs,YNZ,∀b,b=D∨YD2∨Y3P→Y b,∀b,Y3P→Y6Z,∀b,Y3P→ZZP,∀b,Y3P→¬YD2,∀h',ZdD→Yea,∀i,Y2t→f i=g i,∀i,Y2J→YFb→c8 X Y4q=some (Y0 YJz),∀p ab,Yr2→YAw→Yfr→Q YAo ab,∀v,YMz≠Y0e,∀x,foldedSetIterable iter env x=YDq,∀{l:Y0C},vS g C l (k+4) 381 YRu mh,∃X,gr=YKF,∃j,ZfB∧Q YC8 m,∃t,e.key=Y4 n t,∃us:ZC,us.Nodup∧YZC∧ZSB ,∃vs,o.data=YPe,dh ?_,∃x,Y4j,⟨[Y1m,v],[]⟩,⟨[YCC,a],[]⟩,⟨_,_,H1.1,trivial⟩,⟨_,_,xh.1,trivial⟩,⟨_,e,rfl⟩,⟨_,ZW,rfl⟩,⟨a,rfl⟩,⟨by show[y 0,y 1,y 2,y 3]=_;(refine aT m9 (gS g1 (aa g2 ZDB)));rfl,rfl⟩,⟨cg H.6 z.1,z.2⟩,⟨Y2,Y2,Y2,rfl,Zk⟩,⟨ZO1,z.2⟩,⟨fd.scope.names,C8⟩,⟨m1,z.1,z.2,z.3⟩,⟨n,rfl⟩,⟨rfl,rfl,rfl⟩,⟨rfl,λe=>V.noConfusion e λe=>ZDW⟩,⟨s1.1,s1.2,h⟩,⟨vs,[]⟩,⟨YIW,YIW⟩,⟨λh=>h.elim λa h=>h.elim λb z=>?_,Y6k⟩,!(cl 0 t||cl 7 t),!b&&YIn,!false,!j0 YaA [],!j0 x y,!l.isEmpty,!t.led&&!es.isEmpty,(!Fx&&t1.tooFull)=true,YIn=false,("_law_is_refused":Str),("super":Str),("what",v),(YIr YHl).get?,(Yuk bO).length,(Y2N:Int),(YaF w).sum,(YwF ZlC).length,(YOj gs).trans jl,((di (mask+1)).filterMap Ys5).map,(Y8K YYv).length,(YOu,zH),(Y9n i).length,(YaU YY9).get?,(YJG,YX3),((j1 es k).map Y3m),((oF i).1 K L bC z).mono,(YyF K L bD h).mono,((o[e]?).getD none).getD 0,(YDr.1,[YPD,YDr.2]),(Y7z.1,[Y7z.2]),(Y1g.1,[YEk]),(Y81.1,YRt),(YPG x).mp aq,(YzH jc).cps.toList,(YPM jc).cps.toList,Ytu<Ytt,(YFB,Z0D),(0,Y5 YKd),(0,Y5 YMM),(0,Y5 Y8l),model g.prog g.w,(0,Y5 YfG),(0,ct.dict 1 Y6T),(0,ct.list YJ4),(0,ct.list YK3),(0,ct.list YKd),(0,ct.list YSZ),(0,ct.list YVb),(0,ct.list YMM),(0,ct.list YfH),Y6m<Y0q,(11,YBv,YQP),(16,YPV,c5),(25,YC1),(28,YbO,Z0C),(32,Y4f,YBv),(35,Y9 2 (eE X Y7X Y0B)),(4,Y9 1 Yko),(6,Y9 1 Yo1),(8,Y9 5 []),(8,ct.list Z9f),(8,ct.list []),(A2 own caps c.ns).Nodup,(AL e).elim,(AQ s.heap l1).objs.size,(B.5 i af hf).imp,(C,Y83,f)∈br.mt,(D.5 k j h).imp,(Er s.heap l1 l2).objs.size,(Es s.heap l1 l2).objs.size,(F.2 n.1).trans YGb,(F7 S p).map h4,(FW D af q).elim,(H.eA.lookup C).elim,(HV e.2).elim,(Ht _ _ (q6 Ul)).trans,(I.7.weaken Y34).trans,(IB av).elim λf5 q=>q.elim λj q=>(N.6 j (et YG)).elim YEV,(J6 (prog:=g.prog) aA bg D).elim,(JM bD).elim,(L.1 _ _ w).elim,(L.1 n _ Y15).elim id ZlH,(L.1 n _ Y1e).elim,(L.3.6:Y1Q+0≤0+0+S.N.length),(LQ t).symm,(List.range n).map,(N++[Z6]).map,(N.map bO).length, YRI▸this,(Nat.le_total x y).elim,Y0j×Nat×Y0X,(Obj.cls_mapFields ..).trans ao,(PG e).elim,(PI x).elim,(Qu n p v r).trans,Y5r*2 ^ Y5r,(S.ed++YFl).map Yh,(SV (n:=0) av).elim,(Sp Y1K).elim,(Uq hm).elim,(V.int_at aO af).elim,(V.jM YMu).elim,List E,(V.kr YMu).elim,(V.ph h').elim,(V.str 27::YBB).length≤1000001,(YKS::YoA).length,(Z8R::YCY).length,(V4 _ _ _).trans,Yj→Y1,(_,[(putN t a _).2]),(a4 (Y5B f)).length,(a4 L).map Zki=(L.map λi=>canon S.f Z7U).map bO,(a4 aZ).length,(a7.N,fr),(a::t).eraseIdx i,(YKg||(carriedByValue YA&&carriedByValue Y0B))=true,(aB.new ah).trans Y5S,(aB.new ar).trans,(aB.new ip).trans,(aD.1 K L bD h).mono,(aD.1 K L eg h).mono,(aD.2 K L eg h).mono,YFp.2.1,(aE.2 j k u ak q.2 aP).imp,(aM:j<cB.length),(acC (au ak (au (c0 av e) (dH (aX (gi n hA) Ywk)))):bk≤e+hA),(acc:Y3),(Y7S a t _ h).elim,(Y7S b t c e).keep,(Y7S b u p e).keep,(ae.here h0).elim,(ai _).trans (aT cj (gT sx (bW g5 ZEH))),(ai λu bj=>h u Yjg).elim,(ak.push YE1).objs.size,(ao c).elim,(as++k::bs)[i]?,(at_ aO.1).elim,(bH cl aC).1,(bH cl aJ).1,YSk.1 r ab Q,(bH cl c).2,Zd r m Qr,Zd r m λv ab=>a6 cl s Y5g ab Qn Qr,(bM Y81.1).getD, Y8G YBp Y7=_,Y8G i Y7,Y8H≤1000,Y8H≤1000001,(bM s.1).length,(YSo,Y7Y),(bR ah).symm,(bT xs).any,(bT xs).eraseIdxIfInBounds i=bT YNk,(bT xs).isEmpty,Y2N=xs.length,Y2N≤sizeLine,Z1[k]?=none,(bg.keep kt).append,(bg.keep kt).eraseIdx,(bw _ _ _).trans,(Yi2:aK s.heap x Y35),(bz Z0 af).2,(c4 e.1 Y3j:fY=x),Y0 C,(c8 YLQ YG7).isSome,(c8 es a).isSome,(c8 es x).isSome,(cB.map λO:hQ=>1).sum,(cond YEG (mj r cells YzV) (mj r cells cs)).lookup,(congrArg (YGt+·) YZs),(congrArg Y56 (if_neg (Dw c)):),(congrArg Y56 (if_neg uU)).trans,(congrArg Y56 ZRd:),(congrArg mh q).trans,(congrArg mh z).trans,(Yf:(8:Nat)≠0),(d++[x]).flatMap Y9V,(d.filter YZ2).map,(d.filter λz=>nk z.2).map,(d.map hF).sum,YjB=false,(dE Mq.symm).trans pF,(ZLG:YTu=YTw),(ZLG:YTv=decide (0<n)),(decide (-(2:Int) ^ 63≤Yqg)&&decide (Yqg<YQS))=true,(di (Y7q+1 - i)).find? λk=>(o.getD (i+k) YNI).isNone,YOl f,(di S.N.length).filter,(di n).filter,(di n).flatMap,Y8K YYv,Y6L[d.length]?=YQ,(Y2:0<5),(Y2:1<20),(Y2:1<4),(Y2:1<5),(Y2:1≤1),(Y2:1≤1000000),(Y2:1≤4),(Y2:2<4),(Y2:2<5),(Y2:2≤1000000),(Y2:3<4),(Y2:4≤100),(Y2:4≤4),(Y2:5≤100),(Y2:6≤100),(done++[x]).flatMap YHu,(YGV,Y0h),(dw ..).symm,(dz aD).elim,(dz ao).elim,YOn::es,(e7 cl [aC]).1,(e7 cl [c]).2,(e7 cl ifs).2,(eL P).symm,YJC r.length,Y14.1.length,(ee aM).elim,Ywu λa w=>aV w.2 (⟨YA8 ZWx,D.1.2 a ZWx⟩),(ee aq).elim,(ee h).elim,(YUE:i=j),(Y1e:i=o),({s with heap:=h'}),(es.map YYr).all (λx=>!x.1)=true,(es.modify i ZiR).map Yh,(e▸bz).gj.elim,(YUP:aK _ _ Y72).elim,(e▸q.1:aK s1.heap cF Y1x),(e▸rs).two.elim,(f a).length≤m,(f.trans f2).trans,(f1.trans f2).trans cz,(f1.trans hm).trans,(f2.trans cz).trans f4,(funext λn=>(F.2 n).trans (RG c.cN n).symm:env.kindOf=(nQ c.cN).kindOf),(g4 e.2).1,(gG z).elim,(gM S x y).use i,(gx N f).length,(h x z.1).one,(h.push Y3R).update,(h0:YEl=Z2),(hW.2 a ne).trans,(hc m n Y2w).i,YEh=none,(hk S c).map,(hs _ YOS),(Y17 b nb).trans e,(iF (ar _ b3) rfl:x=(false,x.2)),(if YUT then some (ayq p.j i YXU)else ZXz)=ZZr,(ZN:YEg i=YCS),(if_pos e).trans (congrArg some aO),(Y0c:YOw),(intsOf Y4C).sum,(intsOf vs).getD,(ir t).map wY,(iw aF).elim,(iw aM).elim,(iw aO).elim,(iw h).elim,(iw h).imp id bR,(j2 · a),(jJ h).elim Y6j,(jJ he).1,(jX a==jX b)=true,(jX d==l6)=true,(jX l==l6)=true,Y2B Y1q.1,Y2B Y1q.2,Y2B bC,Y2B bD,Y2B q,(k,j)∈S.ed,(kb m n x).2,Yah≤18,(kl z.1).map,(km s.heap it _).trans,(YVY,Y7Y),(l.flatMap f).length≤l.length*m,(late++[(j,i)]).map gw,Yak aO,(mem ar).elim,(mj names cells cs).lookup,(mj scope.names env.cells []).lookup n=Y0l,.refl,(most:Int),Y0q - YIq,(n==YIo)=false,(nP c7.target).length,(names.map λ(n,k)=>if(k==uc&&ZN6&&Y25==Y2y)then(n,v7)else(n,k)).lookup x,(nm==YIo)=false,(nm==Y1l)=false,(ns.take np).length,(o,Y1R)∈nod c,Z6∉S.N,(YMf).size,(o.o.nH H c x).elim,(o7 prog w).is,(oF (v 0)).1 K lk iZ (bc rfl Zn),(oF o).1,(oF t).2,(p.2==v7)=true, Y9s (aL ZWv (congrArg _ ai)),(pb es YNO.2 YBm).size,(pureOf (swappedStores [t] v YnP)).elim,Yar false Zi2,(putL t ps S.N).2,(putN h.2 YG S.N).2,(putN t YQP N).1.length,Y7z.1.length,Y1s.1.length,(putN t YG S.N).2, Yau λO s3 z=>z.elim λuK z=>?_,(qB es).1 K F.1 hJ h,(qK YrS:YiN),(qP.mp w.1).elim,(qQ af).mpr,(qh ao aR.1).1,(r.get hm.1).elim,(r.mem Z3n).elim,(r.set i Y0l).set,(r9 L q Y2Y).length,(r9 L q R).length, Y2O▸rfl,(rW af).elim,(rW w.1).elim,(r[10]?).getD none,(r[2]?).getD none,(r[7]?).getD none,(r[9]?).getD none,(r[b1]?).getD none,(r[l1]?).getD none,(rfl:c8 YGj Z2A=some YhE),(rfl:c8 YGj YFB=some Z0D),(rj (bq:dg∈ZA3 YsO)).elim,(roots N.length YMk).length,(s.1,[]),(s.3 z h).imp,(s.heap.push YNY).push,(s.heap.push emptyDict).get?,(s.heap.push emptyDict).push,(s.heap.push Y3R).get? s.heap.objs.size=Yp9,(s.heap.push YNv).get?,(s.heap.push YNw).objs.size,(s.heap.push YNw).push,(sG w vs).toArray,λO O=>none,(ZZj,V.tup YKZ),(ZZk,V.tup Y8m),(some F,YZV),(st.3 a o bS).elim,(st.mm.trans eX).trans,YEo none YsV ,YEo none YZ6 ,(YXT==3)=false,YBr≤1000000,(YXZ∧Y4y≤4)∨(YXY∧ZNM),YpY=true, Y3N.1.plain=true,(tC A x na).ul i,(tC YNu S.N.length b).ul,(tZ a aD).elim,(tZ a aD).imp,(tab m).getD,YPM jc,(uC e).elim,(uC x).elim,(ur q).2.2 m.2,(uu q).elim λv z=>?_,(uu y).elim, YbB λab hm=>YyY λfq he=>?_,(vf A n a).e4,(vm us).map Yh,(vs.length:Int),(w6 hm).elim,(w8 i).mp,(wh h).1,(x.1,(cells.lookup x.1).getD 0)::cs,(x.7 i n v ak av aP).imp,(x.7 j k u ak q.2 aP).imp,(x.zip y).all YZ3=true,(x2 "type.__call__" args).isCreation=true,(z.1,z.2),Yza∈N.zipIdx,(Z3 j).trans,(Y0m y.2).trans Z87,(z.3 A s1 aG z.1 Y2H).mono,(z.4.2 A s3 aG z.1 z.3).mono,YbF f,(·.eraseIdxIfInBounds i),(·.refKey),(·∈fs),(λe=>AW Yqw:¬envX env D),(λ{tr most s}=>iF rfl (congrArg (YOo||·) (Ds ZML.2).symm)),Zm2∧∀v vs r m,Y7H→YH3∧ZS9,Y2f o ZNG apos,Y2f o n apos,.Bd ts es s,.Be t b s,YBt .And Y2F pos,YBt .Or Y2F pos,Y0Q Y44 es [] pos,YBu x [op] [y] p,Y4b YQH ax cO,Y4b c k p,.Cx a b,.JoinedStr [Y4b (Y4 t0) ax mD,.FormattedValue Z02 (-1) none kQ] jp,Y09 n np,dQ _,Y09 nm c5,Y09 nm sj,Y1A [Y44,YbL] c6 pos,Y1A as x p,Y1A l k p,Y1A ts c6 ek,Y1A vs cT cO,Y8R .Not e pos,Y8R .USub YPR pos,Y6w (YF1 (Ya (c3 358 324) (v 0) [])) (Ya (c3 358 336) (v 0) [YF5,v 5]),Y6w a b,.b 1 py c5,YK tr,ZK "list.pop",ZK "max",ZK "set.update.loop" ⟨[YJm,Y1C],[]⟩,ZK "sum",.cV (.op Bu [v 9,qI]) (.op YI3 [bK 3,v 8]) (.op YI3 [bK 3,v 8,bK 4,v 9]),.cV (.op fc [v 3,YL1]) YL1 (bK 30),.cV (.op oEq [v 2,bK 28]) (v 3) (.op fj [qI]),.cV t a b,.cV t a b s,ZF iK [YPu] ZQ 1 [] [] (.op (cU 263) [v 0,.op fi [Ybx,Y0I],.op fi [Ybx,Y1c],Yc8]),ZF iK [.op fc [Ybs,v 4]] ZQ 1 [0,7] [] (.op Yid [v 1,.op ZJF [v 1,v 0,Z1H]]),ZF nM [.op qG [e]] ZQ 1 [2] [] YEy,Y9 3 [],Y6y e,Y01 e s,.fd 358 6 (v 0),ZY #[Y77,YBw],Y0A d5 as t b s,.globalImplicit,YY aq,YY d4,YJ (YY YjN),YJ Y61,YJ Y9x,YJ (YY λO aO=>Y9q λO z=>aa z.2 rfl),YJ YJd,YJ Y62,YJ ⟨e,Y5s⟩,YI ((1:Nat):Int) s1.toks,YI Y3l tk,YI 1 s1.toks,YI ep 0,YI xs.length 0,Y5 [Y3D],Y5 us,Ya YTF (v 0) Zh,Ya ZIu (.op ZFp [YC5]) [],Ya wV YPq Z9q,.nm 11,.nm 5,.nm 8,YF1 a,ZD 617 YfE,ZD 617 [Y1Z],.of ro,.ok Y8U,.once q,Y1L 1,bT xs,Y1L 2,Y1L 3,Y1L 9,.op YKx [YF5],.op (b2 263 3) Zh,.op (b2 358 4) YT,.op (b2 358 5) YT,.op (b2 358 7) YT,.op (b2 358 8) YT,.op (b2 617 2) YT,.op (b2 CA dM) [Ybr],.op Y7d YAK,.op YTZ [v 0,YA1],.op Yie Zh,.op BE [.op fc [v 0,YhT]],.op JF [Y3n,v 2],.op Kb Y1a,.op Tf [],.op fc [v 0,bK 7],.op fc [v 0,bK 9],.op fi [v 7,Y0I],.op fj [Y0I],.op gW [YC4,v 1],.op gW [Y9z,v 1],.op i4 [Ybp],.op kT [v 7],.op nT Y1a,.op oEq [Z1C,Y1c],.op oEq [v 2,bK 24],.op oEq [v 2,YGA],.op oEq [v 2,bY 3],.op oI [YJi,Y1c],.op oTup [bK 1,Y75,Y75],.op oTup [bK 17],.op oTup [bK 4],.op oTup [bK 6],.op oTup [bK 8,Y75],.op oTup ZAA,.or a b,.own Y1J,Y0 Y1J,Y0 B.L,Y0 B.T,Y0 J,Y0 R.af,Y0 R.n2,Y0 R.op,Y0 R.pl,Y0 R.re,Y0 R.rs,YA::args,Y0 cd,Y0 ei,Y0 ff,Y0 gY,Y0 hL,Y0 he.objs.size,Y0 l.2,Y0V::vs,Y0 r,Y0 x.2,some Y1Z,YS (.op oJ [v 4,Y0I]),YS (v 2),YS Y7,YS e,.sX hb [v 8] ZQ hb [Ya ZIl (v 2) [v 0,v 3,v 4]] Z0z 2 Z9g (v 1),Y47 Z1 n,Y47 items n,Y4 (cond b 31 30),Y4 10,Y4 14,Y4 18,Y4 23,Y4 24,Y4 YAy.1,Y4 m,Y4 n YBI,Y4 name t,Y4 x t,Y4 Y5p t,.swap _ _ _,YD (ZE::Y7u),YD [Z2B,x],YD [YcS,YQD],YD [ZE,YCj,YAS],YD [ZE,YCj],YD Z9p,YD Y2F,YCB 6 7,YE "list_iterator",YE "set_iterator",.v m,.wJ is es s,.yR i e s,1001≤m,13 - c,13+m<m+15,2 ^ S.N.length,2 ^ cnt Y6O,YCD=2*YJx,A.frames=ZaQ,A.frames=some [env],A.frames=YE3,A.map λz=>(0::z.1,z.2),A.ul c,A.units+2*n,Z2j+20<cLine,A1 scope.names env.cells,A9 t n=true,AM he (yv _ _ bj),Af aR,Ai ..,An bC,Aq NF ?_,Array Y0X,Y1N→Y1N,B (A N).1,B.1.keeps Y5U,B.3 i q e,B.4 p ar,B.6.2 a aD,B.dq F Y29,z.2.2,B1 c ao,B4 bZ lt,B6 K F B az aD h,BF s vs,BH r _,BU prog w S inv ok,Base g gl,Bh is r ws,Bn _,Bool.and_true ..,Builtin.«zip.__next__» ⟨[Y3U],[]⟩,Bw lt p n q,C.1 o aP,C.2 u pG,CI.mp w.2,CS z.2,CV.go Nb,CW _ _ GN rfl,Ca S x d,Calls→YhR,Cf b,Ck.trans kC,Cr W.1 af,YA8 af,YCH df rZ bb,YCH i af hf,D.2 m Y23,D.3 i _ aq,D.5 p ar,D.7 i x c af ao,D.snoc ao z,D.tab B C z YBc,D4 m a o Q,DA aC.symm,DM rfl YC YC,DO ..,DP.mpr rfl,DQ vs ws,DR ..,DT prog w E v,DU prog w E vs,DV prog w E v,DW prog w E vs,DX prog w E v,DY prog w E vs,Dl uU,Down lt p (n+1),Draws g.prog g.w A.in1 it YfK vs.length Yrz (λi h=>And Yf1 (Z h)),Dv he,E++[YD YRv],E.N++X,EC d.1,EO false,EO true,EU bj,Ev g k env c.ns r mh Yk7 Q,Ev g k env c.ns r mh (eval Yzt env) Q,Ev g k env c.ns r mh ZNa Q,YQo∧plainT x=true,Ev g k env ns r m YkB Q,Ex ae (Ez _),z.2.1,F t x.2,F x Ygm.1,F.1 i af,F.2 i af,F.args_zip_next_1 _,F4 Yhi,F9 (dx:=0) iq.6 YLq YW ZQn ZQo,F9 (dx:=YTz) iq.6 YLq (by refine ZOH;exact Yk) ZQn ZQo,FA es.size led t es.toList,FI hW.extBut,FX D az,FY D az,False.elim h,Fb prog w E v,Fc prog w E vs,ForInStep YCF,ForInStep YRN,YdG→YP,Fv keys vs=Y2K,G4 h,G8 _ _,GR t=true,Ge (CJ _ _),Gi YNX q aF h.2 z.1,Gu Y4t.2,Gv B ei i9 bs fR r,H.8 i af hf,H1.no Y8r,H2 _ u,H6 aG.ot (he q) q b6 dv,H9 YUR,HO e,HY 0,HZ prog w c q,Hb (Dk.mpr h) YC,Hp 31 f mv led pl Y9m,I.2.symm,I.8 _ Zk,I0 t=true,I5 (fx.symm▸S.2.2),I7 bD,IS q.2 λb e ck=>?_,IY mh Y1J s.heap.objs.size t C,IntsAre xs ws,Int→YR1,Io vs ws,IsPair h' c2 x y,IsPair h' s.heap.objs.size x y,IsZip aD z TI c2 YJb,IsZip h' z TI c2 (rawInt s.heap.objs.size),ItemsOf YK6 gC ord.length,Iu hd L.6,J R C i af,J n r mh,J.3.weaken,J5 oP,JG a b Q,Jg ts H c xs=true,Jh is c ts=true,Jq fd ps,Js g A k f ns args mh s env hC body s1,dd A k,KJ v m Q,Kf h,Kp ..,Ks.mpr e,L.2.dq f1 YEU rfl rfl rfl,L.2.hc (W.1 _ _ L.4) a2 eX (λb h=>uJ b (YJ YPh)) iL,L.3.2.wf,L.3.gone c7 ap,L.flatMap F,L.length≤d.length,YFO=none,L.map F,L0 Yf YSd.1,L7 bq 5 Y2,LT ab bX A S B,LT m bX A S B,LT mh bX A S B,LT mh bX A pD B,LW g k w p,Lg ..,List YaV,List (Bool×YKT),List YeC,List Y0X,List Yew,List Yf4,List (cE×Nat),List YlQ,List CmpOp,Z8→Y1,Y3→YFK,Y3→bG,Ye→Bool,Lm ..,Looks YR h ZV4 YcB,Looks YR h (opaqueClassAbove Yw) none,Looks YR h (typeLookup Yw name) none,M.3.ea f,Mg W,Mo ..,N.QA (C:=C) L,N.length≤M.length,N.map bO,N.take i,N1 q,N2 ..,NK (b:=0) YC Yq9,N[n]?=YQ,Nat×Str×Nat,Nat→Int,Nz g n,O1 h,O7 g X s mh R a s' aW,O9 _ _,OG (Am aP),OW bx Yma,Obj→Obj,Oe _ Dn,Of mask hs,Option DictEntry,YAA→YP,(o,aZ),Yp→Yp→YKH,Option {a:α // t=pure a},Option {b:Ze // d=Y66 b},Option {c:Const // ∃k p,e=Yzw},Option {fd:FuncData // d=YPf},Option {n:Str // ∃p,e=Y44},Option {x:BoolOp×Ye // ∃p,e=YBt x.1 x.2 p},Option {x:YFP×Ye // ∃p,e=.Dict x.1 x.2 p},Option {x:Ye // ∃k p,e=Y1A x k p},Option {x:Ye // ∃p,e=.List x p},Option {x:UnaryOp×aI // ∃p,e=Y8R x.1 x.2 p},Option {x:aI // ∃p,e=YEs YQ p},Option {x:aI×Z5T×Ye // ∃p,e=YBu x.1 Y2L ZJ p},Option {x:aI×YCO×Scope×Pos // e=YEq x.1 Y2L YIG Y6g},Option {x:YS8 // ∃p,e=YPU x.1 x.2 [] p},Option {x:aI×Ze×Ze // ∃p,e=.If x.1 Y2L ZJ p},Option {x:aI×Ye×Pos // e=Y0Q x.1 Y2L [] ZJ},Option {x:aI×Operator×aI // ∃p,e=YbJ x.1 Y2L ZJ p},Option {x:aI×Pos // e=YJV x.1 x.2},Option {x:aI×Str×Pos // e=Y2f x.1 Y2L ZJ},Option {x:aI×aI // ∃p,e=Y6v x.1 x.2 p},Option {x:aI×YS8 // ∃p,e=.For x.1 Y2L ZJ [] p},Option {x:Yfu // e=YPQ},Option {x:aI×aI×aI // ∃p,e=YbK x.1 Y2L ZJ p},Oq _ x9,Ov ..,P YWZ r ab,P Y0O acc m,P a b mh Q,P acc A3.locals,P l r ab,P none s',P v vs m Q,P vals [] m,P vals acc m,P++YUe,P++[n],YeQ∧∀i p,YeT→p≤i∧f p=f i∧(p=i↔YLg),YRT++YN2,PJ Q,PS bJ (Il e (w it Y62).1) r,PT bJ (En aA qn.1 rfl qn.2.1 YC) q.2,Pm _ _,Pos→YP,PyData.keyHash g.w.params n,PySem.Fin→YP,PySem.Pairs YHT xs iN,Pz b6 dv q,Q (YK YTu) aH,Q (YK YTv) m,Q Y1B aW,Q Y0h aW,Q Y0h ab,Q Y0h m,Q Y0h mh,Q (Y6x (YS YC7)) ⟨ZQJ,g,d,t,os⟩,Q (YI (x - y)) m,Q (YI (x+y)) m,(Q Y2C {s with heap:=s.heap.push (pH (YI (0:Nat) 0) 0 a es.size ep)}),Q YG4 mh,Q (m3 ms jQ) s,Int×Value,Q YDl jj mh,Q YKa jj mh,Q a t c es,Q l YHW mh,Q none s,Q true mh,Q' () s1,Q' Y1B m,Q' false m,QN _ _ (IJ a),Qi hm,Qv Ye6,Qz (q.1▸ak) YG z.1,R Y1x YIS,R YPo s',R (.ok f) s',R p.1 p.2,R.flatMap Y9V,R.hM i,R.map some,R6 fy aJ aC,RH ..,RI F ..,RK F ar,Rest E P,Rr bD,S.1.mono,Z7R λvals need m z C=>z.elim λP z=>?_,S.3 rfl,S.N.getD i YZj,S.N.length+1,S.N.length+ZV,S.N.length+dep q≤13,S.N.length≤12,S.N.length≤63,Y1Q+4*d.length,Y1Q+4*hs.length,Y1Q+dep q≤800000,Y1Q≤799000,Y1Q≤c,S.ed.map Yh,S.e≤800000,(Y8f=YCR→∀aW,Y4F→d3 aW A {S with e:=YAE}→Z6p),Y8f≠YCR,Z7i→∀aW bl,Y4F→Y0Y→d3 aW bl (gM S YDi YB1)→Z6q,S.f df=df,Za≠df,S.f x0=x0,S.use Y4B,S.use df,S.wait++YAF,S.wait.length≤300000,YFe→YS1,SA gK aM,SD gK,SH SI a ..,SM ..,Sem Unit,SetTable.runEnd m i,St s.heap,Step Y1V s0 m0 s mh,List DictEntry,Step X s m s' ab,Step X s mh s1 m1,Step cX s mh s2 mh,Step wr s mh s' mh,Step.change (s':=Y0w) ae e Y17 Zn2 Z4W,Step.grow (s':=Y0w) ax,Step.toks tk,Str×Ye,St→Ydt,Sub r b6,Sz a m λvs=>Y2a∧∀ws:Y3,ws.length≤vs.length→(∀w∈ws,w∈vs)→alloc m (Y5 ws) Q,T v acc m N,T.getD YBq Y7,T.getD c Y7,T.keeps (h':=s.heap) Y5U,T[c]?=iY[c]?,TabAt m a t,Tk s.1 i,To iV y4,TupAt h a xs,V.VG aJ,V.int ((YtZ:Nat) - 1:Int),V.int (((YKe++Z9l).length:Nat) - 1:Int),V.noConfusion YJE,V.str 30,V.str q.1,V.str x.1,V.str_inj h,V.str_inj h.1,V.str_inj z,V.tu e,V.tup YcX,V.tup Yqd∈vs,V3 ..,V6 _ _ _,V7 _ _,VI ..,VJ ..,VV ZjF ..,Value×Yn→YP,Value×Nat,Yf4→YAA→Sem YdG,Value→Nat→Y4A,W.1 _ _ c,W.1 _ _ d,W.1 _ _ fJ,W.1 _ _ ru,W.1 _ _ wC,W.2.elim,W.4 s1 m1 _ (e▸L.4) Y7D q.1 L.2.3 λs2 a2 c7=>wpAny_pure (gI EE m1 s1 s2 L.2 c7 a2 Z58 (L.2.4.imp λO z=>z.imp λO z=>⟨YGG _ _ iL z.1,ZfP⟩) q.2),WJ K F rfl,WP g A YHb P s,WP g A (pyNext Y3U) Q s,WP.mono (W.3 i s1 m1 AX d.1 L.4 Y7D q.1 L.2.3 Zkw) Zju,WQ ..,Walks prog w A I [I,a] [I] ord.length YK6 (λi h=>YlF=some (pH (YI (f i) 0) i a es.size ep)∧YGr),Wh x0 df,Wk D.1 ZWw,Wp.map gw,Ws (x:=x) (cs:=cs) D.1,X _ _ q4,Nat→Bool,XE ..,XU _ _ _,XY N f p,Xe g k p,Xg YAI Z.4 q aF,Xs Z.2 q,Xu ..,Z s.heap,YFj hL,Z.2 _ λnm q N bs sn sub vQ col oL p4 dC du gs gZ q4=>?_,Z.4.extBut qo.extBut D.i1z,Z.6.extBut qo.extBut D.l1z,Z.hits G YFp.1,Z.vt f,["enumerate","zip","dict_itemiterator","dict_reverseitemiterator","odict_iterator","itertools.zip_longest","itertools.pairwise"].contains n,["heap"],["pack","deep","way"],["self","a"],["self","c"],["self","heap"],['r','o','t','a','r','e','t','i','_','t','e','s'],[(Y4 20,YJo),(Y4 15,YhE)],[(Y2p,f i)],[.If (YBt .Or [Y8R .Not (Y0Q (Y09 "_law_is_refused" ek) f6 [] cO) ky,Y8R .Not (Y0Q (Y09 "_law_is_refused" kS) t5 [] lN) s8] s9) [Dc] [] Dd,ret],[.LtE,.Lt],[.Try [YJV (Y0Q (Y2f o "do" apos) [a] [] pos) ep] [.ExceptHandler (some Yzz) none [YEs (some (Y4b Y0h ax mD)) z2] ar] [] [] z3,ret],[YI x,YI y],[Y7,Y7],[.op ZFq [YC5]],[.op Sn ZA4],[YF6,Y3D],[Y1M,Y1F,Y3C,r],[Y1M,Y4q],[YA2,Y1F],[Y1Z,Zl,YA],[YQ5,ay d],[YJn,Zl,YA],[YQ9,YQB],[Y65,Zl,YA],[Y36,Y4r,Y1b,Y37],[YD [Y37,Y48]],[0,9,10],[V.int 0],[Z8P,YFB,YcU].all,[Z8P,YFB,YcU].any,[V.tup YRv],[ay Y9k],[ay YDj,ay YDg],[YCj,YAS],[bB ek,bB cO],[Y4r,Y1b],[bK 20,bK 30],[df,eg,Y2x,hx,YN8,Y3x,oX,tR,YE2,YXM,ba,cJ],[YkX,fk nod b],[YG,Yq],[Z2,Y5h,d1,hx,mW,Y3x,fC,e9,none,none,none,none],[Z2,some Z2L,cT],[Z2,some Y2Q,cT],[Y2Z,Y05,YNH,Y6a,none,none],[Y2Z,Yp4,Y84,eY,none],[Y2Z,YBL,Y84,hx,mW],λO O O O O=>rfl,[Y0T,YNE,YNF],[YB,some Z2M,some Z2B],[t].flatMap,[v 0,v 1],[v 1,v 2,v 3],[v 1,v 2],[v 11,Y0I],[v 2,Y1c],[v 3,Y0I],[v 3,v 4],[v i,bK n],[x0,Y0T,Y0v,Z2,fl,e0,fC,e9,Y3L,none,none,none],[x0,Y0T,Y0v,Z2,fl,e0,fC,e9,Y3L,Y3h,ba,none],[x0,Y0T,Y0v,Z2,fl,e0,fC,e9,Y3L,Y3h,some YAo,none],[x0,Y0T,Y0v,Z2,ZZu,e0,none,none,none,none,none,none],_=some (Y79,ct.list (a4 ZbX)),a H c Y5C&&ZFj,a+2*(m+1),a+2*m+20<c,a.3 i af,a.5 P h,a.eM False λvs=>D6 (1≤vs.length) Y2a (hv ZdL=true) (YD ZdL) m Q,a.isBool&&b.isBool,Y7L→YOb,a.oi False λp=>EL m p C i Q,a.onStr False λn=>Ysw,a4 YKN++a4 YAF,a4 ZAu,a4 Yas,a4 YDw,a5 g YXj s',a5 g mh Y0w,a6 YSI KL Z9y mh Qn Q,a6 cl (.cV (.op Bu [Y8X,qI]) a b s) r m Qn Qr,a6 cl (.cV (.op oEq ZAB) a YO s) r m Qn Qr,a6 cl (.cV (.op oEq [v i,bY Y0q]) a YO s) r m Qn Q,a6 cl a r m YIg Qr,a6 cl b r m1 YOF Qr,a6 cl s bI ab Qn Qr,a6 cl s r ab Qn Qr,a7.N.length≤10,a7.N=r.1.1,a9 h (YVa) us,a9 h bf b,a9 h bf vs,a9 h bf ws,a9 h xs a,a9 h xs us,a9 h' bf fX,a9 h' xs vs,a9 s'.heap xs vs,a9 s.heap bf us,a9 s.heap vs ms,a9 s.heap xs ms,a9.cons a (ai b i),a::l,a<s.heap.objs.size,a=env.locals,aB YLH mh aW,aB ea m ab,aB jF m ab,Array Nat,aB no m1 m,aB.at (p:=YTf) h bq,aB.new BW,aB.new aD,aB.new fK,aB.new qU,aB.new sa,aC ..,aC▸cg B.3 z.1,aE.push _,aF _ _ Yg4,aF y Z3,aG.create _,aI→aI→Pos→Bool,aJ▸d2.cons a b c (ai d i),aK h cF (YI x),aK h dF (YI y),aK h v m,aK h x ZM,aK h x ZZ,aK h x u,aK h y v,aK s'.heap v m,aK s.heap cF (YD a),aK s.heap dF (YD b),aK s.heap e.key (YI j),aK s.heap e.key YC8,aK s.heap v ZZ,aK s.heap x a,aK.oj p,aL YCv z,aL Y1U ?_,aL (gy) (aj (gy) (bW (acD) ?_)),aL YxU ?_,aL aC ?_,aL cj ?_,aL dK ?_,aL es ?_,aL ps hz,aL Z3 (aX (ho) (gS z.1 ?_)),aM▸Y7n.2,aN.8 n c h,aN.apart J.7,aN.ez J.3,aN.ez f3.2,aO (k:=k) (Q:=Y9L) K L ao h,aQ (bt (f:=Yh)) (aX aJ Y2I),aQ YF this,aQ (gy) h,aQ Ym3 q,aQ YMF hf,aQ ZY2 h,aQ (ug) YL2,aQ Bo ?_,aQ M.4 this,aQ cM (eT e bx),aQ e (bN z q),aQ fN w,aQ hL (bL ff (bW (cu bx) rfl)),aQ qn (bN cM q),aR dI Wy,List α,aR e b3,aS (CO ?_),aS ⟨rfl,YgJ⟩,aT Ydz ?_,aT YDk ?_,aT cj (aj ZDn ?_),aT e (Y0k),aU g (k+1),aU g (k+1) 79 YKa mh Q,aU g (k+1) C args mh Q,aU g (k+1) f args mh Q,aU g (k+2) 541 YfD mh Q,aU g (k+3),aU g (k+6) 522 [Y1M,ZE,nums] mh Q,aU g (k+7),aU g j,aU g k hL vs m Q,aV ZO (aa YYL YSL),aV ZO (aa YYL YSO),aV Z4b I.6,aV e (iI a),aV e q.1,aV e rfl,aV hm d7,aV lW rfl,aV q e,aV r.length ((jJ e).elim Y6j),aV z.2 rfl,aW a=none,aX ZDo ?_,aX YL4 Yk,aX YF YSG,aX ZN rfl,aX ZU rfl,aX YWG ?_,aX ZWp (fH (p6 Yla) ?_),aX YMt (fH aq ?_),aX YIK YbE,aX bk ?_,aX dO ?_,aX dO gv,aZ.length≤1000,aa YQp ?_,aa (NN ..) ?_,aa (XX W) ?_,aa Y0H (aa ((congrArg (λz=>k+6+(z+1)) ZPM).trans Ga:k+6+YTy=k+Y3a+7+YAg) ZMZ),aa Y1T ?_,aa Y0D ?_,aa ZMs (aa ZMY rfl),aa Y3d ?_,aa ZN rfl,aa Y0c ?_,aa Ymd ?_,aa Y2O q,aa F.3 ?_,aa aC ?_,aa aJ Y23,aa abf ?_,aa aq ?_,aa bI.jh (iy NH ZJg),aa builtinLookup_eq_fast ?_,.obj,aa bx rfl,aa cj ?_,aa e (aa (Ga:k+6+YTy=k+YAg+7+Y3a) ZMt),aa e (aa bk (iy Ad ZJe)),aa e (ko _ aF),aa e Z3,aa e.1 rfl,aa ev b3,aa ex ?_,aa fB ?_,aa g3 ?_,aa he h,aa lp.2 ?_,aa mF ?_,aa q az,aa w.1 (aa w.2 ?_),aaF _,aar q aF,YAQ=some (t,ZD C (putAt fs x i)),ab fR=YXH,ab1 YZQ,ab7 Y3I,abB g C l mh s env e s',abG g env c.ns r mh s s' ab,abT prog w,absurd (aV Y2O he) cS,absurd Y5s ZZh,absurd aC Y03,absurd aM cS,absurd ao cS,absurd bb cS,absurd e Y03,absurd e.symm Y03,absurd h Yf,absurd q (no j k),absurd z.2 cS,absurd Z4 Y03,acc++F v,acc++[y],acc++pR,accN ZMJ ps s,accN YME cB s,accN xJ l s,aci.trans (ays u ?_),ack Y0J m,acn _ ZL,acv ..,acw ..,acx ..,ad ..,ae.grow (s':=Y0w) ax rfl rfl,ae.off e h0 mN,Y2S K L d1,Y2n K L d1,ai (M:=M.erase a) YAV λb ah=>(ayt λe:b=a=>YCq (aV e ah)).mpr ZPj,ai (cA (oA p.2 r e) h),ai Y6t,ai _ _ _ r,ai b n,ai cs,ai fa,Y4 o,ai jU.2,ai ok,ai ok.2,ai yU e,ai λb ah=>ZPj,Y7T K L q h,aj Ycr (aj r.length YGe),aj (Jb F ..) (aj b.2 (congrArg _ Yxn)),aj YSF YAe,aj (ai YiT) ?_,aj (axU) ?_,aj YF ZEO,aj YF YSa,aj YF Y2T,aj YF aE,aj (dE (λq=>by replace e:=YgE;exact Y4u)) e,aj ZO (congrArg _ (gi 1 ..)),aj ZO ?_,aj Y0D (aj bg.length YGe),aj Y3d Y07,aj ZU ?_,aj (l9) aM,aj YNQ ?_,aj aJ ?_,aj aN.2 iY.g,aj ah (DE hd (bW Z2p rfl)),aj av YAe,aj ax0 ?_,aj bg.length YDD,aj bo YEX,aj cj YW,aj e (aa q (dT Y3t (aV Y4v (aV q ?_)))),aj e (congrArg _ q.1),aj Yl3 aE,aj h5 (dU dO (bW YBV rfl)),aj jy ?_,aj nz (dT (beq_false_of_ne (MC aA 3 rfl)) ?_),aj q.1.length (aj YG ?_),aj rU ?_,aj Z4 YDD,ak i q e,ak.get? b,alloc m (Y9 kc ms) Q,alloc m YC3 Q,ao _ _ _ _ ak,applyN most q YZt h,aq e,aq.elim λi aq=>aq.elim λm1 aq=>aq.elim λEE L=>?_,ar p q,assign x env,au (au Y7a aE) Y2,au YKv az,au (c0 (iu 676 hd) c) ao,au (c0 Zbv u) bj,au Yk aD,au Yk i2.2,au Yk YWL,au (cx _ f) wR,au (dH (Oo _)) Z0,au (dX aE) Y2,au (dX this) (dH (x8 (ayv aD))),.comp,au Y1I hd,au Kx Y2,au Wg Y2,au Z.3 YSb,au ak av,au ak gK,au ao Y2,au av Y2,au az hz,au YAd YqJ,au gY Y2,au i2.1 Y2,au jR Y2,au l1 Y2,au lc Y2,au mt.len YHV,au n4.4 he,au rX (au (gR az he) Y2),au s.2 ZF1,av.get? b,aw (bc rfl (aS ⟨aaL,?_⟩)),aw (bc rfl Y8v),ax5 d key,axY _ _,ay (0+i),ay (f a),ay (f i),ay Y9H.2,ay YMV,ay YVs,ay YHa.2,ay a.1,Y1F::Y4C,ay b.1,ay p.1,ay y.1,aya (NQ hd _),ayj ..,ayp _,az _ _ ak,az d acc m Z3,az d r m Z3,az▸af,a∈fs∧s2.heap.get? a=none,b H c Y4T,b.2 r m Q,b.drop j,b.keep k,b2 198 2,b2 198 3,b2 358 0,b2 358 1,b2 358 3,b2 487 0,b5 _ _ aA,b6.keep kt,YhK→YBG,b8 (Y4 a.1) (Y4 b.1),b8 YC8 (Y4 2)=false,b8 ZM (Y4 0)=false,b8 YC9 (Y4 y.1),bh g H,b8 ZZ Y8W=j0 vs ws,b8 Y3E (YI 1),b8 YCk ZFa,b8 YAh YCz,b8 Ykj Ykk,b8 YVY Y3v,b8 a a=true,b::bs,b<s.heap.objs.size,b=D∨YD2∨wF b,Y8x::ZUD,bC bj,bD bj,bH cl Z0B,bH cl (Ya YiJ YJu es),bH cl (.op ZJH es),bH cl (.op o es),bI.filter _,bI.un λov fX bk tj JY=>YjD,bJ.get? c=YB,bL (WM ..) kZ,bL (ayu aD) this,bL ZO Yk,bL Y1U (fU (DA ZfM) e),bL Y1U (fU fB aJ),bL Y1U e,bL Y3d w,bL cj (aQ Ol q),bL e ?_,bL fN (aQ YF w),bL iv (hX.len),bL lp.1 a3,bM YKF,bM Y6q,bM YWj.1,bM S.N,bN aR he,bN ck aC,bN e aJ,bN e q,bN fa ah,bO YAa,bR z.1▸z.2,Y3F=q.1→bS=q,YL5 YYz,bV 0,bV 3,bW YdO ZBb,bW (ax2 (OD q)) rfl,bW aC Yg7,bW cj ?_,bZ d om bk,backToKw pos Yme,bb.2.keep kt,bc rfl ⟨aD,cf⟩,bd (bd (wpAny_field Z.1 rfl (x:=Y7) rfl (wpAny_pure (cb Y0c Y0K)))),bd Yhl,bd Yg,bd (wpAny_field Z.1 rfl (x:=Y1B) rfl ?_),bd (wpAny_field Z.1 rfl (x:=Y0 TI) rfl (bd (wpAny_seqItems Z.2 rfl ?_))),bd (wpAny_field aA hd (x:=YI i 0) rfl ?_),aU g k,bd (wpAny_field aA hd (x:=Y77) rfl ?_),bd (wpAny_isInstance wm isSubtype_tuple_tuple (cb Y2u (bd (wpAny_tupleItemsOf HU rfl (bd (wpAny_tupleItemsOf wo rfl Y6I)))))),bd (wpAny_letGo Zm),bd (wpAny_pure YSv),bd (wpAny_pure YXx),bd (wpAny_rule (bd (wpAny_field Z.1 rfl (x:=Y0 c2) rfl (bd (wpAny_setField_rec Z.1 Y3I λaD wy qo=>?_))))),bd (wpAny_rule ?_),bd (wpAny_seqItems uF Ij ?_),bd (wpAny_specialOf dJ G9.lookup ?_),bd (wpAny_standAt (bd (wpAny_mono h (λO O h'=>wpAny_pure (v5 rfl h')) YrR))),behindInMarks op r,behindInMarks op y=false,beq_false_of_ne ck,beq_false_of_ne λq=>n ZJ3,beq_self_eq_true j,bf[k]?=Y06,bg.keep Y5k,bindL cN bs m n,bj v ZNW,bj y Y7c Y7b,bk+n≤e+ey,bl.handled=none,bo _,bo.keep kt,Yhx=some Y67,bp λax=>Yqy,bp λax=>z _ λbl a7 e1 j hx f bx cw vw qY=>?_,bp λax=>z _ λbl a7 e1 kh eY f bx cw hE qY=>?_,bp λax=>YYE,bp λax=>z _ λbl a7 fr nq f bx M dO mR qY ln rH=>?_,bp λax=>z _ λbl a7 s' kh kj ba bx fA xj=>?_,bp λax=>z _ λd rest Cd aJ aC xi vk F2 xj=>?_,bp λax=>z _ λdone rest acc x0 c6 cT eY aJ aC ke R cz zx LM=>?_,bp λaz=>?_,bq.one (P:=ZkW) Zf Y29,bs.any id,bs.lookup n,bubble p k (k - l),bubble_perm _ _ _,bx.trans xu,bx▸rfl,(by cases l <;> rfl),(by cases n <;> rfl),by exact Y2l,by exact aj (od l) ZKC,by exact bN e (aj Zeh ((Nat.mul_comm ..))),by first | rfl | decide +kernel | (unfold String.splitOn;simp +decide [ayF]),by have q:=eo w;replace q:=bL fN q;exact q,by have w:=eo aO;replace w:=ZGR;exact w,by heap_get,by refine Y7P;rfl,by refine aQ Z5k (aT fe ?_);rfl,by refine YFt;rfl,by refine aT z.1 ?_;rfl,by refine Y2I;exact Y7W,by refine Y2I;exact au wl Y2,by refine Y2I;exact fF hlen Y2,by refine aj B3 ?_;exact YnR,by refine aj aJ Y7P;rfl,by refine YKt;exact aE,by refine ZEc;exact fZ ZWP,eO env c,by refine ZEd;exact YnR,by refine aj z.1 Y7P;rfl,by refine dS e (bW bk ?_);rfl,by refine sC dO ?_;exact cf,by replace h:=Y7f;exact h,by replace h:=Yji;exact h,by replace h:=YHF;exact h,by replace w:=aQ (q9 hd) w;exact(cu w).symm,by rfl,(by rw[e]at h';exact h'),by rw[g5,bt];exact vc aq,by rw[gy,az];rfl,by rw[gy,he];rfl,by rw[kJ,kJ];rfl,by rw[nz,beq_self_eq_true];rfl,by rw[Yob,rf];rfl,by rw[←la];rfl,by show Yvh;refine gz e ?_;rfl,by show YJR _ _=_;refine YAe;rfl,by simp[af],by(refine aa r.jh (iy axS ZJg));exact YqO,bz z.1 z.2,b∈[n,a],b≠I→YBH,c cl,c+52*(d.map w).sum,c+52*Yai,c+52*YDM,c+52*w a,c+676*d.length,YTB≤799000,c+676*YDM,c+676*n,c+676*w,c.9 n (et af),c.cN.lookup n.1,Y3H==Y2y,Y3H==Y2z,c.ns[j]?,c0 Yk _,c0 Yk u,c0 (iu 52 zX) jW,c0 (iu 676 Yk) c,c0 (iu 676 zX) c,c0 bq _,c0 zX u,c3 236 221,c3 236 233,c3 358 331,c3 617 512,c3 617 517,c3 617 522,c3 617 527,c3 617 534,c3 617 562,c3 617 569,c4 z.1 e,c7.is_async==0,c8 YLR Y3v,c8 YGk Z2C=some Z1g,YiO=((hi L).lookup v).map ay,x.2.2,c8 es ec,c<P.length,cA Y15 q,cB.foldl YsI Yb5,cB[i]'af,cB[j]?=some bS,cF=YI x t,cI r 3=Z2,cL ah,cL e,cN p.1=Y2z,cQ+1,YAY≤3,cU 665,cU 675,cU 96,cU f,cW aC.symm,cW he.symm,cY bx z.1,cZ (Qn:=jq) YSq,call YJZ [x],call Yw [v],call YcI [v],call Y67 xs,callEnvC fd s.heap.objs.size f,canon Ykh x,canon YUj x,canon Y3S x,canon Y9G y,Y1r=canon S.f y,caps.map λj=>(r[j]?).getD none,caps[f5]?=Y0N,cb (eqIsQuiet_byValue _ rfl) Y1u,cb Y2u Yho,cb Y2u Yg,cb (if_neg (h8:¬Yxi)) ?_,cb (if_neg (show¬(!true)=true by decide)) YXx,cb ZU ?_,cb Y4Q ?_,cb vW YNg,cb vW ?_,cellOf env x.1,cells.lookup n,cf _ _ Y42,cf aH rfl,cg cT bC YBT,cg l2 (cY bx bD),cg rV w7,cg rV zl,cg tP Ml,cg tP ip,cj.trans rfl,YTe=false,cl k t=false,codeAny_builtin Tn (kK (Ah Fq _) ?_),codeAny_builtin ayC (kK (Ah acm _) Yg),collect x,compareOp .In cF dF,compat YAh YCz,YAb=true,.builtin,cond Y1S (y r) (x b),cond b P Q,congrArg YZ1 YGP,congrArg (λz=>V.tup [ZE,z]) (ai ah),congrArg Ab (ai q),congrArg Ab Y7T,congrArg Dj k.1,congrArg Dj z.1,congrArg NW h,congrArg V.int q,congrArg _ Y1U,congrArg _ q,congrArg some ?_,congrArg some h,congrArg ua z.1,contains dF cF,coversAll z.2 es.size&&z.1.fits (ZfO).size,cs.map g,ct.dict 3 [],cw.vt f2,cy.keep kt (rl Qa dv),cz _ _ YkJ rfl,cz.trans ZfW,cz.trans f4,cz.trans ff.iO,c≤900000,d cl,d++[v],d++z::rest,YTk++YV6,YTl+YGt≤n*YGt,d.length+(rest.length+1),d.length<n,d.length≤1,d.length≤18,d.map S.f,d.map f,d.map tW,d3 m bl a7,d6 (bc rfl ⟨Y1X,aP,Cg ps,?_⟩),d8 _ YCx,d9 (arm_assign_Tuple ..) ?_,d9 Yiw h,dD.1.keep,dD.1.trans,dE y6,dF=YI y u,dH (NJ _),dH (dw _ _ _),dH fN,dH q.symm,dI a 8=true,ZKq∧a≠Y37,dN bk rJ,dQ n,dR p YDU,Y7i=p.toList[i],dS Yhw h8,dS R.2 cS,dS e (fF (mI 5 h) Y2),dS q (fU Y4v b3),by decide +kernel,dT Y3t ?_,dU YCv c,dU L2 rfl,dV.Perm p,dV.trans pm,dW bO (hi YFR),dW bO S.ed,dW kv Yo3,dX az,dX h,dZ p.1=dZ p.2,dd Y5L k,dd A (k+2),de g env ns bI ab s',de g env ns r aW s',dec_lt 0 _,decide (((tab i).getD jc).cps.toList<((tab j).getD jc).cps.toList),decide (Y6m<(d:Int)),decide (Y6m<(h2:Int)),decide (Y6m<Yad),decide (a<b),decide (j<n),decide (xs.length<bf.length),decide_eq_false (Nat.not_lt_of_gt h),decide_eq_true (ew hlen Y2),decide_eq_true Y3I,decide_eq_true rfl,df<S.N.length,dg.length≤t.length+m,dg∈([[]].flatMap λt=>fk nod c5 t a).flatMap λt=>A t b,dg∈YLL,dictGet d key,dictOf xs ep,dictSet d key v,dk p ar,YjR c _ ar,dn Yf rfl z.1,done++[x],done++rest,dr a.2,dr b.2,dr h.2,dv.keep kt,dy (by rw[iE];exact ao),dy BR,dy aM,dy ak,dy av,dy dC,dy du,e p ar,e.1.isStr=true,e.1.symm,e.1=Y0Z∧aK h e.2 u,e.2.elim,e.frame=some L,e.refKey=false,e.resolve_left (p8 (Ag gD)),e.trans hz,e1++fr,e5 rfl ⟨_,_,_,aD,rfl,?_⟩,Y4 n,e7 ZH es,e::ai,e::l,e=Y0Q a b [] p,e=YBu l [op] [r] p,eA.map h4,eE Y13 Yhc ZFR,eE Y13 Y4s Y3E,eE YLR Y3v Y8w,eE (ir L) ZM Y3E,eE YqA Y24 Y0h,eE es m.1 m.2=YD5,eF ZZ Y8W=m3 vs ws,eF Y3C Y1F=false,eF (kv b) Ymg,eF (kv u) Y3v,eF a a=false,eG S [i],eH tr most,eH tr most a,eH tr most b Y92.1,eH tr most p r.1,eH tr most x ZYU.1,eH true most YEu s,eI _ YFx,eI _ Y2v,eI _ aD,eI _ aM,eI _ aq,eI _ hz,eI _ z,eN xs,eP ah λl O O=>⟨l.1,l.2⟩,eQ Y2n,eQ fK.2,eR x.1 (N,x.2),eS Y2V n YG,eS [] 0 q,eS t N.length YG,eS t N.length Yq,eS t S.N.length p,YLZ→∀q∈ps,eS t n q,eT (fold_same ..) cw,eT aF ar,eT ck fe,eU ak av,Y94→a9 h' e6 fX,Y94→d2 g.w h' e6 kq,eX.trans mY.2,eX.weaken YO9,eY _ ZdY,ef w k,ef w m.1,eh Y2S,eh fK.1,ej (fE aq),el (hD 0 rfl YJ7 rfl ?_),el (hD 0 rfl Y4Z rfl ?_),elt H ft x,en (fo (aw (hD 0 rfl Y7l rfl ZLz))),en (xk (e5 rfl (ao ?_))),if_neg q,en (xk (e5 rfl (zw K F ar ?_))),env.builtins=builtinsNs,env.globals=mainGlobals,YUC∨Yjr,env.locals<a,env.scope.kind==Y5K,envX Y4P b,Yjw▸Y8i,eqIsQuiet n x,eq_of_beq jl.2,eq_of_beq q.1,eq_of_beq q.2,eq_of_beq qv,eq_of_beq this,er "__setitem__",er "items",es++[(ec,m)],YUG=YD5++ms,es.getD k (0,Y7),es.map wY,es.map YYr,Y4y≤18,es.size=us.length,es.toList.drop p,es.toList.take p,es=[o]→P,es[k]?=Y5A,es[z.2]?,es▸uD.tup bg ev,et (i:=i) af,et aO,et aP,et ak,et vu,eu _ Yk4,eval (Y09 n pos) env,eval Tt env,eval it env,eval l env,eval oM env,evalPairs (pairTrees keys vs env pos),ew Nat.zero_lt_two av,exec st env,execs YfW env,ey≤n+hA,e▸ar,e▸k,f H c st,f _ _ ar rfl,f _ h.2 s.toks,f _ z.2 s.toks,f a=true→P,f b ah,YkG !=YkH,f.trans Y11,f1 _ _ aD rfl,f1 _ _ ar rfl,f1 _ _ hw rfl,f1.go H.6,f1.go H.9,f1.go L.5,dw ..,f1.go z.1,f1.trans Y5S,f1.trans f2.iO,f2 _ (dO.symm▸YRD.1),f2 _ (dO.symm▸YRD.2.1),f2 _ _ kF rfl,f2.weak V8,f3.2.trans fz.2,f3.3.elim,f4.go aP,f7 m h k,f7 t.mask Y0Z k,fE tn,fF (au Yk Yk) aG.1,fH YBV (aV dO ?_),fH Hv YgW,fH e (bW dK (aL ui (fH mF (aL yb YhU)))),fL Yr t,fL Yr t a,fL ZGa [] p,fU Z3 aM,fV YAY v=true,fV 3 v=true,YkS=true,fV n,fd.body=Y66 b,fd.body=Y66 body,fd.params.args.map (·.arg),fd.scope.names.lookup YtV=Zaj,ff _ _ ak rfl,fin (bd (wpAny_letGo (wpAny_pure ⟨_,rfl,po⟩))),findIn K Yw "__setattr__",fk Y2s,fk Y2s Y0r t c,fk Y2s p t c,fk ZiA p [] c,fld bo aD af aE (λO q=>bQ (aS q)) h,fm s.1,fp 1 _,fr _ _ aD rfl,fr _ _ aR bq,fr.any λp=>h6 oV.N P p.1 !=h6 oV.N P p.2,fr.trans f1,fu.4 p ar,fuel+1,fv ab B s ext,fv m B (N,P) ext,fv m B (YGR,P) ext,fv m B s ext,fz.3.elim,g.K.In g.h₀,g.K.In s.heap,g.K.lookup 692,g.K.lookup 697=YE4,g.h₀.get? I=none,Y9B=none,g0 S.f x y,g0 S.f x0 df j=YUh,g4 YiU,g7 Ynw h,gH g (k+5) env c.ns r es mh λvs m=>Y9O∧vs=YRu,λO=>none,gH g k env c.ns r Y2F mh λvs m=>YXd,gH g k env ns r es mh Q,gJ ZT K rfl Y2 (el (hD 0 rfl Y5I rfl ?_)),gL _ _ M6 rfl,gM Y6O (min YJF YBl) (max YJF YBl),gN ab A R tr most cQ u c P S,gN ab bl R tr most kh u c r.1.2 a7,gN m A R tr most cQ u c P S,gQ (c4 (bw mh b YPL) e),gQ Y4I,gR c9.5 ZRy,gS h (aX ZDl YbE),gS wX ?_,gV 5 Y24=true,gV c a=true,gV c u=true,gX w s.heap es.toList us,gX.y9.mp x,ga gr e1 g a1 a2 G,gens[depth+1]?=none,gens[depth]?=some YZR,gi Y3a YAg,gi Y3a ..,gi 1 q,gi b a,gk es ep t,gn e (aQ (show stN L t Y78=Yz7 from rfl) h),gn e this,gn q (Aw (rfl:(YZo:Z5n).1=C) z),go ae st bz q,go tr,gs _ _ (du _ _ aJ dn) dn,gs _ _ aC fI,gu Y0r=true,YLp∧ZPa∧YLT,gu Yq=true,gu z.2=true,gx N YLt,gx N YMk,gx N id,gx cK.N cK.f,gz YT8 (ae.list hm λxs ep aA bg=>?_),h A s aG ae aN,h ab f cw,h b Yje,h b _ Yc Y11,h b ah,h env he,h i YDU (JQ gK ck) (td gD),h i YMB,h i j gK q,h i v av,h pn p Ef,h v aO,h v b3,h' rfl,h'.IsTupleIter dM l1 (k+1),h'.IsTupleIter dt l2 (k+1),h'.get? d,h'.get? x=some YYO,h'.push YEJ,Y1L 0,h.2 v vs acc mh q,YlD λa z=>z.elim λb z=>⟨_,Z3,ZLb⟩,h.4.step,h.IsList a Z1,h.IsListIter I a i,h.IsListIter it a i,h.IsStrIter I "str_ascii_iterator" Y5p t i,h.IsTuple a Z1,h.IsTupleIter I a i,h.IsTupleIter it a i,h.Ns a m,h.casesOn λl l' q=>⟨l,l',q⟩,h.casesOn λl q=>⟨l,q⟩,h.elim Yrk,Y0b=some ⟨Y2i,none,Y47 xs n,eB⟩,Y51=none,h.get? d,h.get? d5=some (Np B x C),h.push YE1,h0 _ Zk,h0 _ (YJ ⟨_,h⟩),h0 _ (YJ ⟨_,q.1⟩),h1 YP2.1.size led YP2.2.1,h1 es.size true t,h3 D,h3 W Y3Z,h4 a,h4 b,h7 ey _,h7 YLq _,h7 h 3,h9 lt,hC.cN.lookup n,YDM=(ps.map hF).sum,hL.iO.trans f4,hN k.1=true,hN n=true,YGu∧YIH∧∀c∈x.2,c<i,hP aW A n f e,hP mh U n f e,hT ..,hZ o H c Y1v,hZ t H c Y1v,ha g A tgt I n weak v need wr St,hasDictIn K C,hc m YVB Y2w,hc m k Y2w,hd d t Y2L,hd▸az,hd▸he,hf j aM,hf q.1 YTb,hl N P YLt,Y7n.1.trans,hm.trans f2,hp (Oh _ Y3I),hp (jK he),hp BP,hp ao,hq fQ,hq qE,λO O O O=>rfl,hv l=true,hw rfl,h₀.get? b=YB,i6 S.f S.N.length c,i8 S.N S.f Y8f,i<E.N.length,i<as.length,i<es.toList.length,i<l.length,i<us.length,i<vals.length,i<xs.length,i=P.length,i=S.N.length,iC oH,iC q,iL (q▸ah),Y7q - (i+k),ic λe=>absurd YAH Z4K,ic λh=>q (af _ _ h),ie 1 YD6,ie 1 Y6T,ie kc ms,if j∈cs then YFd++Y8n else YFd,if_neg ((λq=>bne_iff_ne.mp q rfl):¬(aJ !=aJ)=true),if_neg (dS (beq_builtin_none ..) h8),if_neg aC,if_neg bo,if_neg fQ,if_neg il,if_neg n1,if_neg qE,if_pos YSx,if_pos YC,if_pos (rfl:YtO=true),if_pos aC,if_pos af,if_pos bo,if_pos c,if_pos ck,if_pos fQ,if_pos il,if_pos n1,if_pos qE,if_pos ⟨Z0,aM⟩,if_pos ⟨Z0,af⟩,ih→bP→Z5X,ih→bP→St→Bool,ih→bP→aI→Y68,inR n caps r,inv [] h,inv d0 h',inv us h,inv us s.heap,is.length≤3,isList bq,isNode v,isStar tgt=false,isSubtype Yw YA6,iu 4 mS.2,iz.type k8,λO=>Q Y7,iz.type YWq,i∈pend,YGy→j<n→lt YTs Y7i=false,i≤k,i≤vs.length,YAu=true,j1 YGW k=cond Y1z YNI Ytk,j1 es m.1,j3 t false v r YIe,j6 (callEnvC fd L f) ZnN,j9 (us.map kv),YAv∧Y3A=j,j<n→lt Y7i YTs=false,j<xs.length,jA.trans eX,jG s.1,jI a,jI n,jL e (mK bk (d9 Ad (kat_cons (yq ab 8 8 _ _ _ _ _ bD eg c.1 (ET bj) b6 tj ?_)))),jO ..,jW≤900000,jZ xs ep,jZ xs n,YAw→Yfr→Q Y3E ab,jp (Ag x.1),jr tr YQV,js g Y26 aH s2.heap,js g l m s2.heap,js g l mh s1.heap,ju h vs[i] Zcy,jw _ _ _,jw λb m=>Q (YK !b) m,jx bq,jx bq.1,jx q.1,jx YG,jx Y3j,jx Z4,jz P need K λv acc m N=>Qq g k env ns r t1 dD cy w2 dt elt ifs v acc m N,k (km ..).extBut,k I YhH _ Y0f,k _ _ gE,k b o q e,k+1+Ycj,k+1+(Y3a+YAg),k+1+ZV,k+11,Y2W+ZV,YDX+2,Y6U+(YVR+1),Y6U+(YVS+1),k+22,k+23,Y7r+YVS,Y7r+YVR,k.2.length≤2,k3 Y4t YJ5,k3 Y4t YwV,k3 YSz YJ5,k3 YSz Ywa,k<p.size,F.f rfl,kB YWd x.2 [t],kE most q r.1,kE most q s,kI YXS,kK (fO k 1 _▸fO (k+6) 1 _:YVQ=YDY+1) ?_,kP g k env ns r m (isTrue y env YkB) Q,kV aW A N,kV mh A.B N,kV mh A.B S.N,kX (S:=S),kas_descPart n nrem YMG,kat_nil Yl9,kat_no ?_,kb m 1 YP1,keepIn K Yw,keepIn g.K YA=true,keeps_K aR,kept h o,key _ rfl,key a aD,kg D.1.1 b.2,kk m B tr most s c,kl z.1,km _ a _,km _ it _,kn YQb,kn hz,ko _ w.1,kp ⟨_,et z.1,rfl⟩,kp ⟨x,aq,rfl⟩,YHC=false,kv c ao,ky 2 Yf,kz (by rw[aq];exact YU9),l'.map gF,YAy∈cB,l.2.elim,l.any Yh=false,l.drop p,l.filterMap f,l.foldl st N,l.length - 1,l.length=n,l.length≤100,l.map gF,l.take p,l1.symm▸q,l2.symm▸q,l7 ZhB,l=[ay YVt,ay YVo],lA Yr,lA L,lD YjG af,lD fQ rZ,lF ⟨nN,rfl⟩,lI g YBE mh,lN _ _ GY,YMK→(∀b o,ZG9→YBH)→Q Y2C Y0w,lX YAd Y2n,lX YAd b.3,lX lV.le Y2n,if_pos q,l[i]'h,late.map gw,late≠[],lb a m λO O c es=>c=1∧wW ZNK m Q,letOwnedTupleGo tgt Y1C x,lg.getD j none,lt Y91 YjH=false,YDe=false,lt YjH Y91,lt YB9 Yny,lt (p.getD 0 0) YB9,lt x y=true,ly.map bB,lz Yr Z6,lz Yr z.1,lz YhX Y6s,m cO=some (0,Y5 (L.map bO)),m fb=YXG,m ff=some (8,Y4d),m q=some (u,ZD CA sI),m.1∈Y1W,m3 a b=true,m4 ZZ Y8W=mq vs ws,m4 YAh YCz,m4 Ykj Ykk,m8 w led h' a d0,m::es,YMP→Yff,mH m y.1 y.2,mM xs n,mN e,mN YnM.2,mU _ YW,mU _ le,mY.3.elim,mZ g.K 697 rQ 1 Y0U=true,mZ g.K f ns np p=true,makesIn K C,max Y3A Za,me _ ae Y4G q,mem aM,mem e,mem.mp hz,methodCallForm (es.length+YZx) YSt ZGr=true,methodCallPos true o env apos pos=pure pos,mg (·=it) h,mh A.ae=some (35,Y9 2 X),mh A.ed=some (27,Y9 3 ZL7),mh A.iW=some (11,Y5 E),mh C=none∧Ykg,mh D=none,ZUp∧YDG,mh I=none,Y0d=some (k8,Y5 [e]),Y0d=some c₀,Y6V=some (hI,Y5 dF),Y6W=some (u,YQ2),mh sc=YpE,mh x=some (AG,Y5 a),mh y=some (ty,Y5 b),min Y3A Za,dep p,most<S.N.length,mq Y4C Yfb,mq ZTj ZTZ,mroOf Yw,ms.length≤15,ms.map wY,mu m i pt N,mu m i pt k,mu m i pt n,mz bO YV8,n - Y5Z=j,Y9S - q≤i,n - m,n+1≤nrem,n.1==Y1l,n.filter _,n4 _ _ ak rfl,n5 g YMC A S w p,n8 ab R h tr most cQ aE,n8 m R A.h tr most cQ u,n8 m R h tr most cQ aE,n8 mh R A.h tr most cQ aE,n8 mh R h tr most cQ u,n9 most (cB.map Zk3) s,n<vs.length,n==Y1l,n==17||(n==21||(n==8||n==1)),n=vals.length - i,nE z.2 (ck A s1 aG z.1 Y2H),nJ bD pos,nK g tgt false s0 m0 Q,nK g tgt weak s0 m0 Q,nL Y8H,nO h,nP c7.target,nP g1.target,ZVa++ZVc,nP g2.target,nS lt p n,nX h hm,nameAt c i a,nameAt c i e,nameAt c j b,namesOf ts,newExc YJr [],ZVj >>= λe=>(raiseNew e:Y7I),newFunctionEnv scope env.globals YnK [] env.qual none Y7 (some env),nk p=false,noStar f6=true,noStar t5=true,noStar vs.1,noteFrame x env,npow h,nrem - 1,ns=n::nD,nw e,n≠"range",n≠"tuple",n≤p.size,n≤sizeLine,o.cls=Yw,fM _ rfl,o.data=YPf,o.dict=none,o.elim none f=Y6e,o.o.pre v m,o4 g f C n nm j,o5 a b,o5 x n=false,oA _ _ z,oF elt,oG g env ns s mh Q s',oG.go YIP y,oN t.mask Y0Z n,oU a*oU b,oY cO ak,oY m.1.2 cf,o[i]?=Y5i,o[ZV8]?≠Y3M,oc (p.length_eq.trans e),oc h,od aE,od af,oe t.place j,of_decide_eq_true Y1q.1,of_decide_eq_true Y1q.2,of_decide_eq_true bC,of_decide_eq_true bS,of_decide_eq_true h,of_decide_eq_true qv,og Y4L,or_comm,ord.Perm es.toList,order.filterMap Y4a,other ak q.1,ow g k env c.ns r mh tgt weak YLe λvals need m=>∀C,yH g k Y4P YJQ YM3 Y5J tgt weak (λacc aH=>alloc aH Y4d Q) vals need m,ox a vs,oz _ _ z,oz p.2 r e,p 13=false,p 5=false,p hC body=true,p t=true,p x=true,p.1.1==n,p.1<S.N.length∧p.2<S.N.length∧S.f p.1=S.f p.2,p.2.2.elim Zme λd=>⟨#[YWR,d]⟩,p.mem_iff.mp aD,p.mem_iff.mp aO,p0 cd 0,p0 cd d,p1 (hw (jI d)),p6 (aj fN Yla),p==n,p=run YYu (kas_sort xs.length)∧s'=YNx,pJ (N:=cB) (YGc:x∈cB.zipIdx),pJ (tv e),pL.mp h,pN ..,pO D af,pO D z.1 a w.1,pQ _ _ M7 rfl,pT (r:=(_,[])) bZ,(S.N,P),pV s.1 YUv q h,pa k,pairAt vs i,pf cM hE,pj m hm,pj m hm.1,place[f5]?,plainGet K C jc,plainId_quiet Fq _,plainId_quiet ayH _,plainOver K C,pre Y0O YNT=(YSh&&YWe),YWe=false,YWe=true→Q Y8Q s,propext (m.2 ..),propext Dh,propext Di,propext G6,propext decide_eq_true_iff,propext pL,propext z8,ps.map w,ps.zip xs,ps[(Y9o:Int).toNat]?,pure (Y6x Y8U),pure YNL,pure (ub r),putAt vs m i,putL [] d S.N,putL t Yj4 Y6t,putL t d S.N,putN [] b YMo.1,putN [] p S.N,Y1s=eR o YBC,putN t p S.N,putN t q YJN,pw hit,pw ji,pyHash x,pyIter YA,pyNext Y46,pyNext it,pz.3.step,p≠s.heap.objs.size,q hf.symm,q.1.fP bx,YBD YYz,q.2.2.elim,Y82 Y7K,q5 _ _ abp,qB as,qH w led h S us,qH w led h' a d0,qK (kv:=id) Y4V,qN y Y7c Y7b,qR nod o n F t c,qT bO _,qa t f h ZOj YMi,qa t f h fuel Ynl,qa t f h fuel YMi,qa t f h n YXU,.fields,qb af,qb q,qf g h mh a o,qf g s'.heap YXj a o,qg aA BI s1.2,qg z.1 z.2 k,qh (c:=3) ZGl h,qh ao Y4H,qi YGW k=cond Y1z es (e::YoR),qi X YAS,qj ae Y6F h,qq b e,qr l l',qr vs ws,qx c t e=true,qx c t tgt=true,qz YfT br YBd t5=true,qz YfU br YBd f6=true,qz as,qz es H c vs.1,q▸h0,r.gj.elim λa q=>q.elim λitems q=>bI.gj.elim λb bS=>bS.elim λHT bS=>?_,r.gj.elim λa r=>r.elim λitems r=>jg r.1 ?_,r.keep YF2,r.set i Y31,r.un λe e6 p nD aJ aC a b q=>?_,r.un λy bf bk a b=>?_,r.un λy bf e a b=>?_,r4 tr most d ZX,r4 tr most d s,r4 tr most ps s,r5 g k a,r9 L q Y2Y,rA g env ns s0 m0 Qn Qr f s',rA.go YIP y,rF.trans (congrArg some z),rK _ _ J9,rL.keep dC,rR nums mh Y4m,rR v m l,r[j]?=Y0e,range_all q,rawInt (Y3l+1),rawInt i,rb gK ck,rd (zc af).1,rd ak,refuseLoop_ref ..,ret l6,richCompare .Lt x y,rk YQe ?_,rk (X9 aA) ?_,rk Y3t ?_,rl ok q.2,ro _ _ e,roots _ _,roundN tr most ZX,roundN true most s,run lt (kas_asc p (f+1) n),run lt t,run_bind ..,YD vs,rz FO br YBd [ret]=true,s'.gens=s2.gens,s'.heap.Ns C m,s'.os=s2.os,Y4S≤13,YDx≤900000,s.TypeIs YA "set",s.TypeIs Y3U "zip",s.gens=#[],s.heap.IsTupleIter it l i,s.heap.get? Y1J=none,s.heap.get? C=none,s.heap.get? D=none,s.heap.get? J=YpP,s.heap.get? S,s.heap.get? h'.objs.size,YX7=some (pH (YI f 0) i a es.size ep),s.heap.get? t=Y85,s.heap.objs.size+3,s.heap.push YAp,s.heap.push emptyDict,s.heap.push o,s.heap.update it YPP,s.toks+iT v,s0.heap.get? b=none,s1.heap.get? a,s1.heap.push YYN,s3.toks+1,sA bC,sD p,sG w vs,sH R s (! YAu),sH R s (YXr),sP g k env c.ns r mh xs Q,sb g k B tr most a,scope.names.lookup m,sep Z.2 aR Yf,show 2<64 by exact Y2,show YSR from h,show k=YVB+d from iW,show YOx=[]from Y0c,size_eq b6 dv q,sk _,sm ak,sn "ORDERS",sn "_law_names",sn "classes",sn "find",sn "members",sn "merge",sn "put",some YPR,some (Y2P j d),some YF7,some Yw,some (Y0 e4),some YJn,some (Y0 lo),some YQ8,some YcH,some YQA,S.f i,some YcK,some Z2D,some YQF,some YcY,some YCA,some (YD [gh a,gh b]),some (0,Y5 ((jo ZX Y5E).map h4)),some Y8E,some (0,Y5 (gx N dZ)),some (0,Y5 YGn),some (0,Y5 (l.1.2.map h4)),some (0,Y5 (sl 4 YSf)),some (0,ZD 236 [Y76]),some (0,ZD 301 [Y76]),some (1,u),some (14,Y5 cs),some (25,Y5 W),some (4,Y9 1 YGk),some YZl,some Y4Y,some (abv C dx T),some Y7X,some ZFZ,some YAS,some Zl,some Y26,some (gU e6 ep),some (gh YF8),some (gh a),some (gh b),some YJH,some Z6,some (pS,Y5 Z8x),some (seqObj "list" #[] aJ),some YE1,some Y05,some Yow,some Yb7,some (tg,Y4d),some (u,o2),some (x,es),some (Y2b,YXy),some Y7,some [Y2b],some acL,some e.1,some fq,some h.objs.size,some n.1,some names,some nums,some r,some z,some z.1,some {cls:=Y4e,data:=Y47 #[]},some {cls:=Y4e,dict:=none,data:=Y47 gC ft,slots:=#[]},some Y5p,sp+1,sr Y0Z,st YGR x,st.1.imp,st.2,Zaz λO he=>k I _ Zk he,Zb.1.elim,Zb.2.elim,st.2.elim,st.2.imp,st.trans YCT,st.trans w.2,st.trans z.2,st=Y5x [tg] x p,standAt dt.pos,strKind_is prog w _ _,strKind_is prog w _ u,su YHf,sub (λv aO=>bR (aO:v∈[YRk])) b3,sv YES,swapsWithSole [t] v p.line env=YoE,sy (decide_eq_true_iff.trans ⟨λq=>uq.mpr (Pt bD a q),λq=>YWM▸a⟩),sz λx aq=>by rw[lh x aq];rfl,t.bind f,t.fits n=true,t.freeSlot h,t.length+YI8,t.mask+1,t.place.size=n,t.relaid Y9m wanted,t.slot YUb=Y2P,t.slot YUc,t1.keep kt (rl P9 b6),t9 0,t9 n,tC A x na,tC YNu S.N.length b,tD S [] i,tD S d c,tO W af,tO W bb,tQ mh m dN eA,tS cf Y4O,takerIn K C n,ts.findIdx? Yh=none,ts.length*oU q,ts.length=vs.length,tv h,two vs False λa b=>P a b m λz=>Q (YK z) m,two vs False λa b=>Q Y5w m,two vs False λa b=>a6 cl s Y5w ab Qn Qr,two vs False λa b=>s Y5w ab Qn Qr,typeIs_str _ _ _,typeIs_str s _ t,typeLookup_type ..,u+d.length,u.isInt=true,uI z λa b es w=>?_,uJ b Y61,uN g k env ns r mh (ts.map Y1w) vs Q,uW ..,ud hd,un _ (YA8 oH),un i z,unsupported _,uo h items,λO=>nb,upd YNU fb YIu,upd (upd m b1 Y5q) e2 Y5q,upd YXi fR Y4Y,upd (upd m1 b1 Yu1) e2 Y5q,upd (upd mh b (0,Y5 [ay Y16,ay Y0t])) e2 (0,Y5 [ZFU,ZFT]),upd YXk fD Y4Y,upd aH a (0,Y5 YOc),upd aH b (YQU,Y0R),upd aH p (t,Y9 c (eE es b v)),upd aH p (t,Y5 (vs.set n v)),upd aH s.heap.objs.size (t,YPc),upd bF Ng YZe,upd bF p (0,Y5 (a4 (aZ.map S.f))),upd eK e4 (7,Y5 Z9o),upd m a Yb8 b,upd m b YZh,upd m b (0,Y5 YBB),upd m b0 Ytz,upd m gg Y5q,upd m1 A.p YZk,upd m1 B.T (12,Y5 YCn),upd m1 b Y5q,upd m1 b0 (0,YPa),upd m1 e2 Y8E,upd m1 p (t,ZD C (putAt fs v i)),upd mh A.iW (11,Y5 Z3o),upd mh A.p YIt,upd mh B.L YIv,upd mh D YPK,upd mh a (t,Y5 (vs++[m])),upd mh a (t,Y5 (vs++dF)),upd mh a (t,Y5 (vs.eraseIdx YqD)),upd mh a (t,Y5 fX),upd mh a (t,YC3),upd mh a Yb8,upd mh a c b,upd mh b YIs,upd mh b YZi,upd mh b YuJ,upd mh d (t,Y9 1 YD6),upd mh d (t,Y9 kc YD6),upd mh ff Y4Y,upd mh s.heap.objs.size (t,YPa),us.filter (λu=>ZMG)++x::us.filter (λu=>! ZMG),us.length+1,us.length≤13,us.map Yjn,YXm++YXe,us[i]'af,us[y]?≠YpN,u≤1000,v.eM false (sD ZOP)=true,v.eM false (sD V.isInt),Yq6=true,v.eM false f=true,v.isTup=true,v.mb 0 id,v.mb False f,v3 BR,v3 af,v3 li,(bH cl e).1,v8 "list",v8 "set",v8 "tuple",v=Y72→YUV,vA ..,vD N P dZ late YEm,vF D.4.3,vK Y2S,vK Y2n,vS g C l (k+3) 388 [Y8V,YQD] mh,vZ it h0 h',vZ it h0 s.heap,vZ it s.heap h',vals.getD i Y7,YI8≤100,vk.trans pQ,vo.trans pP,vr m q t,vs++[u],vs.all p=true,vs.drop 1,vs.length≤63,vs=rest.map kv,vx ..,w _ λah oM cT eY xy=>?_,w b q,w k aR,w z hz,w.2.1.keep Y5k,w.2.2.elim,w.2.2.keep,w.2.2.mp,w.params.setOrder a ep,w9 i,wB b ah,wa 5,wants Q₁ E,wb ..,wb _ _▸YMS,wg (YY YSy),wj h YYo,wpAny Yu Y5L YD8 Y28 (C6 g C env l mh s1) s1,wpAny Yu A (compareOp .In cF YA4) R E s,wpAny Yu A (leaving env Y45) Q E s3,wpAny YR A (He Y46) Q E s,wpAny YR A (call YCC [Y77]) Q E s,wpAny YR A (f (x,y) r) Q' E s,wpAny YR A (f x r) Q' E s,wpAny YR A (forIn Yqk Y8Q f) Q E s,wpAny YR A ZXd Q E s,wpAny YR A (setAddHashed a x Y0Z) Q E s,wpAny YR A (setNext a f i ep) Q E s,wpAny YR A setsByText Q E s,wpAny _ A.in1 (YHb >>= _) _ _ s,wpAny _ _ (He YcE >>= _) _ _ _,wpAny _ _ (ayb Y3U >>= _) _ _ _,wpAny _ _ (ZLW >>= _) _ _ s,wpAny _ _ (field Y46 0 >>= _) _ _ s,wpAny _ _ (field Y46 1 >>= _) _ _ s,wpAny _ _ (field Y3U 2 >>= _) _ _ _,wpAny _ _ (field Y3U 3 >>= _) _ _ _,List St,wpAny _ _ (forIn (bT YBX) _ _) _ _ s,wpAny _ _ (forIn [((YcE:Value),0),(YQ7,1)] _ _) _ _ _,wpAny _ _ (if Yxi then _ else _) _ _ s,wpAny _ _ (isInstance Y0B Y2i >>= _) _ _ s,wpAny _ _ (seqItems? Y77 >>= _) _ _ s,wpAny_assign_Tuple bJ ZSc (by refine aL Y0D (bW w.1 ?_);rfl) rfl Yrt,wpAny_call_entry NP hit.typeIs ax8 ?_ (ax9 _),wpAny_holding YL6,wpAny_holding Yg,wpAny_madeBy_exc gE ?_,wpAny_mono (E:=lH) Yg Y33 Y0E,wpAny_pure ZPu,wpAny_pure (v5 rfl h0),wpAny_pure Zm,wpAny_pure ZeI,wpAny_pure ai,wpAny_pure q,wpAny_pure z,wpAny_pure ⟨_,rfl,YIi,YNh⟩,wpAny_pure ⟨_,rfl,wpAny_truthy_bool (wpAny_pure ((congrArg (λb=>Z7E) z.1).mpr (h tk)))⟩,wpAny_pure ⟨rfl,EG⟩,wpAny_pyIter_tuple eW,ws.all sO=true,ws.length=is.length,ws.length=vs.length,ws.map V.int,wu p o m Q,wz s.heap l1 l2,x _ λes ep t c6 cT eY=>(λO bA=>bA es ep t (e.trans c6) cT (eY.keep k)),x b ah,x.1.1.isEmpty,x.1.length,x.1==o&&YqY,x.2.1.keep k,x.2.getD,Y5B E.f,x.2.trans,x.8 k c e,x.8 n c h,x.length+y.length≤1000001,x.length=y.length,x6 f6 cy,x7 ..,x=d.length,x=fY∧y=mP,x=Y06→P,xJ a s,xP C s.heap.objs.size,xR C s s' e,xS C l fs e s2 s4,xY ..,xZ N5 ?_,xo mh A S ZXZ Q,xs++[v],xs.getD Y5u j,xs.getD i l6,xs.length=es.length,xs.toArray.zip xs.toArray,xs=e::e6,xs[f a]?,Y3y→j≤x,λO=>rfl,Y3y→x<j,xs[k]?=YQ,y.1.toks tk,y5.keep kt,y7 xs j p,y7 xs j q,yA c e,yL (x:=Y0l) af s0 (hf i af),yN g k env c r mh x Q,yW g.K H f ns np st=true,yY n=Y0N,yZ ..,yp h Y2,z _ λW q0 xv rT f=>?_,z _ λbl a7 e1 kh f bx cw dO Gn e4=>?_,z _ λf as aJ Nf c1=>?_,z _ λf cw j cT xy=>?_,z _ λps aJ xv c1 ja cz=>?_,z _ λs' fl f cw hE BO=>?_,z.1.length≤100,z.1.toks,z.2.1.symm,Z3 v vs r m w,z.2.filterMap Y4a,Y9e c7.2,z.elim (λz=>absurd (t8 (cA ao z.1)) YC) λz=>z.elim λxs z=>z.elim λn z=>absurd (t8 (cA ao ZK8)) YC,z.elim YYg,z.elim λd z=>⟨az m Z3,?_⟩,z.elim YZ8,z1 g C Y26 mh s2 e s',zF xr.r3,zI f4,zK N P f Wp d dZ,zQ p YQR (d+1),zQ p 7 3,za aA f6 cy,za aA f6 t1,zd 31 _,zj N x=YA9∧rS N x=N.length,zj N x=N∧rS N x=j,zm λq=>absurd (cx 34 (8*i)) ZbD,zm λq=>absurd (cx 51 (8*i)) ZbD,zm λq=>h (ayK Y0J (ab3 q)),zt D.1 aq bb fQ rZ,zt D.1 m.1 YHJ YHK YHL,zw K F ar (aV aO.symm h),({A3 with scope:=relabel scope env}),({cK with e:=Yia}),{cls:=Yw,data:=YbX},{cls:=Y4e,data:=YcQ},{cls:=YQL,data:=ZY #[Z0i,Y7,Y7]},{cls:=YQL,data:=ZY #[Y7,YI 40 s1.toks,Y7]},{cls:=Y2i,data:=Y47 #[v]},({s with drawn:=d}),({s with heap:=av,toks:=w1}),({s with heap:=ZZK}),({s with heap:=s.heap.push (mM vs 0),toks:=t}),({s with heap:=s.heap.update a (l7 f),toks:=tk}),({s with heap:=s.heap.update d f,toks:=tk}),({s with toks:=ZZO}),({s1 with heap:=s1.heap.push (mM xs 0)}),A.handled=none,({s1 with heap:=s1.heap.push Yr6}),({s1 with heap:=ZZR,toks:=tk}),({s3 with heap:=h'}),¬ql I it b,¬yz z c2 dM dt c,α→KasT β,α→Ye,α→Nat,α→Value,λA s aG ae aN=>HM ZPh λO O O z=>m _ _ z.3,λM q=>(putN t q M).1,λO O O O O O O O O O=>d _,λO O O O O O O O=>nb,λO O O O O=>false,λO O O O e3 O O O O=>call_plain e3,λO O O O=>False,λO O O e=>e,λO O O h'=>h',λO O O st h=>YE5 λO he=>wpAny_pyIter_enum he h,λO O O u k=>u.at k,λO O a b=>a+b+2,λO O a b=>a∧b,λO O a=>a,λO O a=>a+1,λO O e q=>YBj e,λO O h=>Y08,λO O hm h=>Te hm h,λO O m Q=>Y39,λO O q=>q,λO O q=>⟨Y7,rfl,YHf⟩,λO O y=>y,λO O z=>z.elim λm1 z=>Y0g λO q=>IT q.1 q.2 λO q=>ZnW,λO O=>Y4Z,λO O=>Lv,λO O=>O2,λO O=>Z0,λO O=>nW,λO O=>pw,λO O=>wx,λO O=>YZP,λO a b=>absurd a (su b),λO a=>a,λO aD O ah e=>aq (bL YCp (bL e aD)),λO aO=>Ygh,λO bA=>bA A S Yy rfl H YcL rfl rfl,λO e=>(KH e).set,λO e=>e,λO e=>ZLt YYb,λO e=>e.elim YEO,λO h=>Y61,λO kt=>(r.keep kt).append (d2.cons rfl (eV.keep kt) YL9 d2.nil),λO q=>DN k q.1,λO q=>ct.noConfusion q,λO q=>⟨YWn kt ZYs,Y82 kt⟩,λO s' z=>z.imp λr z=>z.imp λm z=>⟨z.1,z.2,z.3,f _ _ z.4⟩,λO s2 w=>oG.go st.mm w,λO s2=>P x s2,λO vs m Q=>YXd,λO z=>aa z rfl,λO:Y0j=>V.int 1,λO=>YJ7,[v 1],λO=>Bool,λO=>Calls→jP,λO=>Calls→ry,λO=>YR8,λO=>Nat,λO=>Z9,λO=>Q8,λO=>V.isInt,λO=>V.isStr,λO=>Yf5,λO=>Y6H,λO=>Z0,λO=>hw,λO=>r7.mpr λv aO=>Ygh,λO=>YZP,λR C h=>?_,λT x=>T++[lz T x],λW z=>v5 (cg (o':=YBz) vd z.1) z.2,λW z=>YtA,λW z=>YtC,λW z=>⟨nw (f2.go ZO1) rfl,z.2⟩,λY aC=>⟨X++Y,aj aC ZC7⟩,λa aD b ah=>?_,λa aD=>?_,λa b eK ak av f4=>⟨_,_,ak,_,_,av,λO=>aa4 _ _,?_⟩,λa b=>YU4,λa o b p=>some ⟨(a,o,b),p,rfl⟩,λa o e O O=>YmN,λa o e=>⟨o,YmN⟩,λa x=>Y86,λa=>[a]::Y8K λb=>Y1R,λaF=>Y0H▸h.2,λaH gm cK f2 kD hK i7 h5=>?_,λaH gm cK f2 kD hK i7 h5=>⟨?_,pM _ _ (λO bA=>bA gm cK Y7k Y9M hK Ym6 ?_ ?_)⟩,λaH gm cK q1 f2 kD c9 h5=>?_,λaP=>absurd (c4 aP (e▸aR)) YIk,λab bl a7 e0=>h ab bl a7 _ e0,λab f cw=>?_,λacc m w=>?_,λb O q=>?_,λb aH ah f2=>?_,λb ab=>Q Y1x ab,λb ah=>S7 YDA rfl ah,λb ah=>YCp▸YhH,λb ah=>yB st (Ez _ b ah),λb ah=>Y4X,λb e=>YPg,λb e=>yo e,λb e=>⟨ae.fresh ZYC,AS ae ZYC⟩,λb h=>Ypi,λb jT=>Y4X,λb m=>Q (!b) m,λb o e=>Y8t,λb o e=>YUM,λb o e=>eu _ (gZ b o e),λb o e=>k b o Y8t,λb o n q=>k b o (λz=>n (bR z)) q,λb o nb e=>he b o nb e,λb r=>x b&&y r,λb x=>x=Y1x,λb0 jT=>Y4X,gp Q,λb6=>Z8A∧(∀i v,ZTV→ZFv)∧Q b6,λb=>!b.1,λb=>YhP,λbD bC d4 hJ i1=>?_,(λbk he=>by have:=D.2 bk he;subst e;exact this),λc w=>?_,λc6 cT=>c6++cT,λc=>YPG,λc=>YRs,λc=>YVu,λd i rest e acc m z N cf=>?_,λd j rest iW r m z jq e8=>?_,λd p rest e r m z jq e8=>?_,λd q rest e acc m z N cf=>?_,λd x rest e acc m z N pM=>?_,λd x rest e acc m z gr cf=>?_,λe a cl=>QZ e Y4l,λe es a h cl=>Q9 e es Y4l Yl7,λe f a b cl=>Q0 e f Y4l YG5,λe f a b cl=>Q2 e f Y4l YG5,λe f d a b c cl=>Q3 e f d Y4l YG5 ZIP,λe f d a b c cl=>Q6 e f d Y4l YG5 ZIP,λe he=>YJB Yrp Zio,λe m hm b=>?_,λe s'=>R Z0R s',λe2 d7=>⟨0,h e2 0 _ _ Yc (Y1L (cY d7 ?_)) ZO2⟩,λe=>YOn,λe=>YJ ⟨h.1,ew ao ak,λgr e1 g a1 a2 G=>?_⟩,λe=>YCd,λe=>Yge,(λe=>{e with val:=v}),λeg d1=>?_,λf5 fY j5 hw O=>?_,(λfin s'=>match fin with | Y6x f=>Z7G | .again ft=>And (ft.quiet=true) (codeAny YR A ft R s')),λgC ab=>P vs gC ab,λgY BW=>Zmg,λh O aF=>Y6p (λe=>aa e h.1) ZhW,λh' cM=>k h' s.toks (FI cM),λh' d0 hW dV z=>wpAny_pure (fin h' d0 hW dV z),λh' gB=>?_,λh' ks hs=>?_,λh0 ak Z q=>eZ (aw (bc h0 (aw (bQ (aw (bc ak (aw (cst (aS (MT (aS (by refine oh (aaM ..) ?_;exact ai Z q)))))))))))),λh=>YY h.1,λh=>absurd h ZbT,λh=>ah (je h),λh=>bQ (aw (cst YgI)),λh=>congrArg V.str Y15,λh=>h.elim YEV,λhd k=>k.elim (λq=>YHe λO q=>vX (cA hd q)) λq=>q.elim λO q=>q.elim λO q=>vX (cA hd (congrArg ua q.1)),λhe=>Yhe,λhm=>?_,λhm=>E7 hm YrJ,λhm=>Ur (P:=λe=>YBA) hm Y0n,λhm=>j8 hm λx O O=>YqV,λhm=>j8 hm λx O O=>Y2c Zgx,λhm=>j8 hm λx O O=>Y2c λO z=>ZfR,λi O h=>YCe,λi O=>QW i,λi j a b C af aM ao=>?_,λi j ak av aP=>?_,λi j gK aM=>?_,y.1.2,λi j=>g i=g j,λi n v ak av aP=>?_,λi p ar=>?_,λi s Q E st k=>T8 Y0f rfl k,λi v=>∃e,Yqn∧v=e.key,λi w=>?_,λi x h=>Y08,λi x j5 aq=>?_,λi x=>∃t,x=Y71,λi=>(f i,ZQq),λi=>YI Yld,λi=>Y0 YlP,λi=>YD [Y4q,YJl],λi=>f i==c,λi=>f i==i,λi=>YED,λj aM=>?_,λj bk=>V.noConfusion YiU,λj e=>?_,λj e=>YAn,λj z=>?_,λj=>i==j,λk O=>YpW,λk aA=>?_,λk=>(j,k),λl=>YtR,λl=>(⟨YA7,none,Y9 l Y96,#[]⟩:Obj),λl=>Expr.Tuple l c6 pos,λl=>Q l jj mh,λm e=>?_,λm1 CB qO f1 xu fg tL=>?_,λm7 k=>?_,λm=>ZB1,λm=>YHO,λmh=>∃t,Y3w,λn m a b c=>(λO bA=>bA n m a b c),λn s'=>∃i m acc,Ql g env ns r wr Y D s0 m0 vals St P n s' i m acc,λn x=>∃a,Y86∧HJ h a n,λn x=>∃t s,YBQ∧x=YJp,λn=>bindName env n,λn=>n==Y3c,λo O O a b=>YD [ZE,a,b],λo O a=>YD [ZE,a],λo a p=>some ⟨(o,a),p,rfl⟩,λo e es a h cl=>QY cl o e es Y4l Yl7,λo e=>k I o rfl e,λo e=>k it o Y62 e,λo es h cl=>QX cl o es Yl7,λo i=>(AL x).elim false λy=>ZQg&&hZ i H c Zj,(λo' z=>by replace z:=aQ q z;cases z),λo=>YQI,λo=>YYO,λp O ai=>p.1::p.2::ai,λp ar=>?_,λp ar=>by refine aQ Y0k ?_;exact YVX,λp s2 z=>z.elim YEV,λp z=>⟨ko _ z.1,z.2⟩,λq aF xM=>?_,λq aF=>?_,λq aF=>aa Y0H (aa (fO (k+6) Y3a 1:k+6+dep Y78=k+7+Y3a) ZE1),λq aF=>ah n6 q ZD5,YY rfl,λq aF=>Ygs,λq=>(q,YVM),λq=>YBo,λq=>YY (Yug id ZlH),λq=>YJc,λq=>FE YG9,λq=>by replace e:=aQ aD Y5W;exact Y4u,λq=>YmY,λq=>n (YJ Z0b),λq=>nb Y9x,λq=>nb YJd,λqt Ji Bi=>?_,λr a=>YIp,λr a=>(YOW,r.2||YOX),λr m z=>YZS,λr=>rfl,λs as t o c ifs e a b d cl=>Q4 s as t o c ifs e Y4l YG5 ZKR,λs as t u bs w o c e a b d cl=>Q5 s as t u bs w o c e Y4l YG5 ZKR,λs' a1 jA aJ=>Zn1,λs4 xs eb mT bg=>?_,λs=>YW,λt a b p=>some ⟨(t,a,b),p,rfl⟩,λt aZ=>kB YWd aZ [t],λt aZ=>kB Z9s aZ [t],λt aZ=>kB [YkX] aZ [t],λt bq=>by show Yjm=true;exact aX bq YbE,λt bq=>by show Yjm=true;refine aT bq ?_;rfl,λt h=>by show(no t)=false;rfl,λt h=>by show(YXT==1)=false;refine YSH;rfl,λt vs h q=>f a t vs rfl h q,λt=>YBr≤1000001,λt=>hv Y5l=true,λt=>hv [Y3Z,Y24]=true,λv aO acc m gr aD hm cf=>?_,λv aO acc m gr aD hm pM=>?_,λv c e=>(T v c e).2,λv vs r m z=>?_,λv:V=>Y32,λv=>(rowsOf S p Y32).map λt=>h4 (Y32,t),λv=>[F v],λv=>[V.tup [Y3Z,v]],λv=>[v],λv=>ay (ZlG Y32),λv=>bO (canon S.f (S.N.getD Y32 YZj)),λvals need aH=>∃P:Y1O,YeO∧jz P need Y8B (mV t BY.o.weak YM2 Ywq YEZ),λvs aH=>Q (x::vs) aH,λvs aH=>o.o.ij cl v vs aH Q,λvs m=>vs.length=es.length∧Q vs m,λvs=>YFW,λw O hw zu=>q _ _ ⟨w,rfl,hw⟩ zu,λw ab hw O cw f=>?_,λw=>some (V.ref w),λws e=>by rw[e.1];rfl,λx O O=>Y2c YYg,λx c=>YFO=Y0M,λx dg bq=>?_,λx q=>?_,λx s2 bg a2 eX wC=>?_,λx y r Q' s' aq=>Yhk,λx=>YzK none λn=>Zan,λx=>cond (decide (x.1=YQH)) (some [l]) none,bB p,λx=>do ZVq;theTreesLotGoes x,λx=>noStar x.1&&decide (ZeW≤1000001),λx=>x.1,λx=>x=Y7,λxs s2 y=>?_,λy=>YR4,λy=>YTx,λy=>zU Yqf,λz e=>o8 (c4 z e),λz=>Y0 z.1,λz=>Y0 z.2,λz=>V.str Z3G,λz=>absurd z e,λz=>ay Y6h,λz=>Yk2,λz=>YVD,λz=>o8 z.1,λz=>some (V.ref z),λ{g H k env c r mh x Q}K L ao h=>YSE.1,λ{tr most s}=>iF rfl (Ds _).symm,∀I s1,Ue prog w A s a es I s1→Q Y1C s1,∀L,ZLu→¬envX env L,∀Q':Yj,Q' Y7X mh→Zd r mh Q',∀Q,Q cN s→wpAny YR A (keyKind' xs.toArray) Q E s,∀R,YYA→Z7H,∀a o,YUr,∀a s',Q a s'→Q' a s',∀ab,Y0G→Q YDC ab,∀ab,Y0G→Q ZT4 ab,∀acc m,P [] acc m→Y3K∧YdY,∀b aW L,YCc=some (0,Y5 Y8o)→L.Nodup→(∀j,YVO↔j<n∧f j=f a)→Y7M,∀b aW,YCc=some (0,Y5 ((jo ZX q).map h4))→Y7M,∀b aW,YCc=some (0,Y5 ZAU)→Y7M,∀b c,YjZ→eF b c=true→eF a c=true,∀b o,YUg→Y9Y,∀b o,YYU→YN5,∀b ob,b≠x→Y51=YpL→YlB=YpL,∀b,YKy→a=b,∀b,Y5X→YX2=Y04,∀b,YN7→YnE,∀b,YN7→Y6Z,∀b,YpU→strOk b=true→Yn1→a=b∨YjZ∨Yja=true,∀c o,YTi→c≠c2→Yj1→c≠dt→YN6,∀c o,YTi→Yj1→YN6,∀c,(nod c).length≤13,∀c,Yiz↔∃k,k∈x.2∧S.f k=c,∀e s',E e s'→E' e s',∀e,α e,∀i h,Yf1→ZUk,∀i j(a b:V)C,YIA=Y0l→vs[j]?=Y6e→C YD1 s→wpAny YR A (keyLt' cN Zeu (xs.getD j l6)) C Y28 s,∀i,Y2t→R i (f i),∀i,Y2J→YFb→YZu≤300000,∀i,Y2J→YFb→mh YJz=some (Y79,Y5 (a4 YCS)),∀i,Y2J→a7.f i=Za,∀i,i<l→ZU8,∀m r,C1 m r→YCQ,∀m,YFL→Y3K,∀n,Y7h→YjF,∀o,YUr,∀p t,nums=Y0V→mh p=some (t,Y5 Y4m)→Yjl,∀p∈s.2,p.1<Y4S∧p.2<Y4S,wpAny_pure ?_,∀r m,Y69→YH3∧YKf,∀r m,Y69→YH3∧Y4E,∀r m,Y69→Y3K∧YCQ,∀r m,Y69→Y3K∧Y4E,∀r m,YKJ→Q' r m,∀s',R () s' YXl,∀t c,YWV→∃x,Yqo∧hf q.1 x=t,∀t c,t∈fk nod YG [] c↔YWV,∀t,YAk→YMj,∀t,pU q.1 YDw t→ZdI,∀v vs r m,Y7H→Y3K∧sQ g k env ns r tgt weak v λb6=>jk g k env ns b6 m YD8 YKI Qr,∀v,YjY,∀v,Y9d↔v∈vs,∀x y,ZWg→p y=true→compat x y=true,∀x,Y2G→YSA,∀x,YkZ=YDq,∀x,foldedSetIterable it env x=YDq,∀x,m≠YD x,∀x,ZWg→dI x n=true,∀z,(z=Y8f∨z=YCR)→S.f z=z∧z<S.N.length,∀{M:ZC},Ydg,∀{g H k env c r mh e es Q},ZG→ZI→YMg→gH g k env c.ns r es mh (λvs m=>o.ij ZH vs m Q)→YK5,∃aW,II g env ns s mh Qn Qr f s' aW,∃as x p,tgt=Z04,∃c:Nat,And (YHx=some YZE) (And ((YZE:Str).cps.all (·<128)=true) (And (acF YZE=false) ((!(acG signs YZE 0 signs.length 1).isEmpty)=false))),∃es ep t,YAq=Y6c,∃f,Y5c,∃i t,z=Y71,∃j,YHP=j+1,∃k,And (YyD k e.key=true) (e.hash=Yaq k),∃old,IsEnum h I it Y9o old,∃p loose rn pq,TopRead p loose rn pq g.h₀,∃t,e.key=Y4 p t,∃vs,YI6,∃x r,a=YD Yqd,∃x,Y3y∧Y2G,∃xs,Z8K∧Y0z,∃y bf n,h.get? p=some (mM YcJ n),∃y:Nat,t.slot ZOC=Y73 y∧Zco,⟨#[YWR]⟩,⟨0,F2⟩,⟨0,Y3p⟩,⟨0,ZW⟩,⟨0,m,acc,rfl,cs,aN,h0,h,Z0⟩,⟨0,zx⟩,⟨8,Y3p⟩,⟨8,forL ?_⟩,⟨?_,?_⟩,⟨?_,ZJj⟩,⟨E,G.4,xc⟩,⟨L.4.1.dq f1 rfl rfl rfl rfl,YKC,L.4.3⟩,⟨N,f,[],Y9i,[],0⟩,⟨[Yw,v],[]⟩,⟨[],L,rfl,rfl,h0⟩,⟨[a],[]⟩,⟨_,Z.1,rfl⟩,⟨_,_,B.1,_,rfl,_,_,Y4K,YNS,_,Lf ar,rfl,?_⟩,⟨_,_,H.1,trivial⟩,⟨_,_,Z.2,?_⟩,⟨_,_,_,B.4⟩,⟨_,_,hK.1,trivial⟩,⟨rfl,rfl⟩,⟨_,a1,jA,aJ,h⟩,⟨_,aA⟩,⟨_,aq,rfl⟩,⟨_,dy (lt i z.1)⟩,⟨_,Y2q,rfl⟩,⟨_,he⟩,⟨_,hm,rfl⟩,⟨_,rfl,Z0⟩,⟨_,rfl,h⟩,⟨_,tn,rfl⟩,⟨a,b,c,Y3V,rfl⟩,⟨aA,aE,aR⟩,⟨Y07,?_⟩,⟨bZ,YBc,YW⟩,⟨bj,hz⟩,⟨by refine bW q ?_;rfl,_,rfl⟩,⟨YT8▸Y9j,λO cM=>⟨_,(N6 (cA cM YT8))▸aA,rfl⟩⟩,⟨YAc,rest,ZI2,e.2,h⟩,⟨Y2,Y2⟩,⟨e o q.1,q.2⟩,⟨eP h.1 Zhe,eP h.2 Zhe⟩,⟨f,h⟩,⟨fd.scope.names,ns⟩,⟨h',g,d,tk,os⟩,⟨h',g,d,u4,os⟩,⟨h,rfl⟩,⟨ZQJ,g,d,t+1,os⟩,⟨hj,G.5,Lo⟩,⟨ZTS,w.2⟩,⟨m.1,m.2.trans ZKD⟩,⟨m1,z.1,z.2,_,YFr,ck⟩,⟨m1,z.1,z.2,q⟩,⟨YHP - 1,(x8 (acj hd)).symm⟩,⟨q.1,m _ _ q.2⟩,⟨rfl,Y62⟩,⟨rfl,bk⟩,⟨rfl,Y89,Y4V,YW,YW⟩,⟨tg,f1 _ _ ah rfl⟩,⟨trivial,z⟩,⟨YI7,YI7⟩,⟨x,YJ ⟨y,rfl⟩⟩,⟨xO,vL,vM⟩,⟨xs,[]⟩,⟨z.1,Zb8,z.3⟩,⟨YYX,YrU,λO o e=>⟨o,e⟩,Y3V⟩,⟨ZhN,ZhO⟩,⟨YYt,YOA⟩,⟨YZA,YZA⟩,⟨Y6l,ZBA⟩,⟨Yt9,vC,lB⟩⟩
noncomputable def x:=1
def hv(vs:Y3):Bool:=vs.casesOn true λh t=>h.casesOn false Y2A (λO=>t.casesOn true λx r=>r.casesOn x.O0 Y0U) Y2A Y2A Y2A Y2A
noncomputable abbrev mM (xs:Yn) (n:Nat):Obj:=⟨Y2i,none,Z26,#[]⟩
noncomputable abbrev jZ (xs:Yn) (n:Nat):Obj:=⟨Y4e,none,Z26,#[]⟩
noncomputable abbrev gU (xs:Z8) (n:Nat):Obj:=⟨YA7,none,Y9 Z1 n,#[]⟩
noncomputable abbrev yl (C d:Nat):Obj:=⟨Yw,YNJ,.plain,#[]⟩
def TupAt(h:Heap)(a:Nat)(xs:Yn):Y1:=∃n,Y0b=some ZUU
def HJ(h:Heap)(a:Nat)(n:Nat):Y1:=∃t1 cy t3,Y0b=some ⟨YQK,none,ZY #[YI 0 t1,YI n cy,YI 1 t3],#[]⟩
def O1(h:Heap)(vs:Y3)(ai:YR8)(x:Value):Y1:=Y7o∧∃a items,Y86∧Yey∧ai items
def O2(ay:Yf5)(a4:YR8)(xs:Yn):Y1:=∃y bf,xs=YBX∧YAS∧a4 bf
def aK(h:Heap)(x:Value)(v:V):Y1:=V.rec (motive_1:=ZhA) (motive_2:=Zh4)
 Zl4 Zhy Zj9 Zjd ZhU
 Zjc Z5q YsY ZgZ v x
def a9(h:Heap)(xs:Yn)(vs:Y3):Y1:=V.rec_1 (motive_1:=ZhA) (motive_2:=Zh4)
 Zl4 Zhy Zj9 Zjd ZhU
 Zjc Z5q YsY ZgZ vs xs
def iz(h:Heap)(x:Value)(vs:Y3):Y1:=∃a items,Y86∧Yey∧Yfh
variable{h:Heap}
theorem aK.O3:aK h Y7 Y7:=rfl
theorem aK.ofBool(b:Bool):aK h Y1x Y1x:=rfl
theorem aK.ofInt(i:Int)(t:Tok):aK h Y71 Y3T:=⟨t,rfl⟩
theorem aK.oj(a:Nat):aK h YA YA:=rfl
theorem aK.ofStr{n:Nat}{s:Str}(e:YBQ)(t:Tok):aK h YJp ZM:=⟨t,s,e,rfl⟩
theorem a9.nil:a9 h [] []:=rfl
variable{bf:Yn}{vs:Y3}
theorem a9.cons{y:Value}{v:V}(a:ZBM)(b:ZAj):a9 h YBX Y0O:=⟨y,bf,rfl,a,b⟩
variable{x:Value}
theorem iz.HK(r:YVG)(k:Y7o):ZBK:=⟨k,r⟩
theorem aK.gj(r:ZBK):YVG:=r.2
theorem aK.ac6:∀{v:V},aK h Y7 v→v=Y7:=λ{v}=>v.casesOn Zf YEO Zgn YrW
 YEO YYb Zgm
theorem aK.int_is{i:Int}{t:Tok}:∀{v:V},aK h Y71 v→v=Y3T:=λ{v}=>v.casesOn YIi YEO (λO e=>e.elim λO e=>hn e λa O=>aa a rfl) YrW
 YEO YYb Zgm
theorem aK.O4{p:Nat}{C:Y5R}(ak:C Y0V)(av:∀n,HJ h p n→C YJf)(aP:∀vs items,Y7o→TupAt h p items→Yfh→C ZZ):∀{v:V},aK h Y0V v→C v:=λ{v}=>
 v.casesOn YIi YEO Zgn YrW
 (λO e=>hn e λa=>aV a ak) (λO e=>e.elim λO e=>hn e.1 λa=>av _ (aa a e.2)) (λO e=>ZLt λO q=>q.elim λO q=>hn q.1 λa=>aP _ _ e.1 (aa a YG) Yq)
variable{xs:Yn}
theorem a9.un{v:V}{P:Y1}(r:a9 h xs Y0O)(f:∀y bf,xs=YBX→ZBM→ZAj→P):P:=r.elim λy q=>q.elim λbf q=>f y bf q.1 YG Yq
theorem a9.jh(r:a9 h xs []):YNl:=r
def uo(h:Heap)(xs:Yn):Y1:=xs≠Z9S∧∀i t p,xs=[Y71,Y0V]→Zmc
def kept(h:Heap)(o:Obj):Y1:=(o.cls=YQK∧Ysz)∨∃xs n,o=ZUU∧uo h xs
def eU(h h':Heap):Y1:=∀a o,YDJ→ZTI→Y6P=YB
theorem HL(h:Heap)(y:Nat)(bf:Yn):uo h YcJ:=⟨λe=>hn YaS,λO O O e=>hn YaS⟩
variable{h':Heap}
theorem eU.of(k:ZlQ):Y2U:=λa o e O=>YmN
theorem eU.refl(h:Heap):eU h h:=.of YEM
theorem uo.keep(k:Y2U)(x:uo h xs):uo h' xs:=⟨x.1,λi t p e=>(x.2 i t p e).elim λy q=>q.elim λbf q=>q.elim λn q=>
 ⟨y,bf,n,k _ _ q (YJ ⟨_,_,rfl,HL h y bf⟩)⟩⟩
theorem eU.trans{ak av aP:Heap}(x:ZMk)(y:eU av aP):eU ak aP:=λa o e t=>y a o (x a o e t) (t.imp id λt=>t.elim λxs t=>t.elim λn t=>⟨xs,n,t.1,t.2.keep x⟩)
theorem rl{items:Yn}(k:Y7o)(r:Yfh):Zbz:=by
 refine⟨Y5F,λi t p e=>?_⟩
 ·cases vs with
  |nil=>exact Ygf
  |cons v vs=>
   refine ZYR;have aO:=aK.ac6 (ZOx.1▸a);exact vV (aO▸k:hv (Y7::vs)=true)
 ·cases vs with
  |nil=>exact Ygf
  |cons v vs=>
   refine ZYR;have aJ:=ZOx;replace k:hv (Y3T::vs)=true:=(aK.int_is (aJ.1▸a))▸k;replace b:a9 h [Y0V] vs:=aJ.2▸b
   cases vs with
   |nil=>exact absurd b.jh Y03
   |cons u vs=>
    refine b.un λd1 O5 aC a2 e2=>?_;have c1:=g4 aC
    cases vs with
    |cons bC wk=>exact(aa c1.2 e2:a9 h [] (bC::wk)).un λO O q O O=>absurd q.symm Y03
    |nil=>
     refine aK.O4 (C:=λv=>V.O0 v=true→Zmc) nb YEN (λws ym O k8 mc k=>?_) (aa c1.1 a2) k
     cases ws with
     |nil=>exact nb k
     |cons a ws=>
      refine mc.un λhx ac7 qe eb O=>?_
      cases a with
      |tup us=>exact eb.gj.elim λb z=>z.elim λO z=>k8.elim λn k8=>⟨b,ac7,n,k8.trans (by(exact gS qe (aa z.1 rfl)))⟩
      |_=>exact nb k
theorem TupAt.keep(k:Y2U){items:Yn}(t:Yey)(o:Zbz):TupAt h' a items:=t.imp λn e=>k _ _ e (YJ ⟨_,_,rfl,o⟩)
theorem aK.ac8(k:Y2U)(v:V):ZmF:=V.rec (motive_1:=λv=>ZmF) (motive_2:=λvs=>∀xs,Y0z→ZAo)
 Zgl YEM YEM YEM YEM (λO O e=>e.imp λO q=>⟨q.1,YMr λO q=>q.imp λO q=>q.imp λO q=>k _ _ q (YY ⟨rfl,_,rfl⟩)⟩)
 (λO ai O e=>⟨e.1,e.2.imp λO q=>q.imp λO q=>⟨q.1,q.2.1.keep k (rl e.1 Yq),ai _ Yq⟩⟩) Zgl (λO O dM dt O e=>e.imp λO q=>q.imp λO q=>⟨q.1,dM _ YG,dt _ Yq⟩) v
theorem aK.keep(k:Y2U){v:V}(r:Y2G):YSA:=aK.ac8 k v x r
theorem a9.keep(k:Y2U){xs:Yn}(r:Y0z):ZAo:=by
 induction vs generalizing xs with
 |nil=>exact r
 |cons v vs ai=>exact r.un λy bf e a b=>aa e (a9.cons (a.keep k) YST)
theorem a9.length{xs:Yn}(r:Y0z):Yqj:=by
 induction vs generalizing xs with
 |nil=>exact Yiu
 |cons v vs ai=>exact r.un λy bf e O q=>aa e ZK5
variable{ws:Y3}
theorem a9.append{xs:Yn}(r:Y0z)(q:ZAk):a9 h Yqh (vs++ws):=by
 induction vs generalizing xs with
 |nil=>exact ZCs
 |cons v vs ai=>exact r.un λy bf e a b=>e▸a9.cons a YST
theorem a9.get{xs:Yn}(r:Y0z){i:Nat}{v:V}(e:YIB):Zma:=by
 induction vs generalizing xs i with
 |nil=>exact Yki
 |cons u vs ai=>
  refine YMw
  cases i with
  |zero=>exact⟨y,YgT,Y4I▸a⟩
  |succ i=>exact aa aJ (ai b e)
theorem a9.drop{xs:Yn}(r:Y0z)(n:Nat):a9 h (xs.drop n) (vs.drop n):=by
 induction vs generalizing xs n with
 |nil=>exact Y2O▸ZHh
 |cons u vs ai=>
  refine YMw
  cases n with
  |zero=>exact r
  |succ n=>exact aJ▸ZDx
theorem a9.take{xs:Yn}(r:Y0z)(n:Nat):a9 h (xs.take n) (vs.take n):=by
 induction vs generalizing xs n with
 |nil=>exact aa Y2O (ZHh)
 |cons u vs ai=>
  refine YMw
  cases n with
  |zero=>rfl
  |succ n=>exact aJ▸a9.cons a ZDx
theorem a9.set{xs:Yn}(r:Y0z)(i:Nat){v:V}(q:Y2G):a9 h (xs.set i x) (vs.set i v):=by
 induction vs generalizing xs i with
 |nil=>exact YSN
 |cons u vs ai=>
  refine YMw
  cases i with
  |zero=>exact aa aJ (a9.cons q b)
  |succ i=>exact aJ▸ZAt
def V.isInt(v:V):Bool:=v.mb false Y2A
def V.isStr(v:V):Bool:=v.onStr false Y2A
def sD(p:Y3o)(vs:Y3):Bool:=vs.casesOn false λa r=>a.isStr&&r.all p
def isNode(v:V):Bool:=Zcr
def fV(n:Nat):Y3o:=n.rec Y1k λO p v=>Yq6
def gV(c:Nat)(v:V):Bool:=c.casesOn false λc=>c.casesOn v.isStr λc=>c.casesOn v.isInt λc=>c.casesOn ZRv λc=>c.casesOn YkS λc=>c.casesOn (v.eM false λvs=>vs.all isNode) Y1k
def ef(w:World)(v:V):Int:=V.rec (motive_1:=λO=>Int) (motive_2:=λO=>Y8a) 0 Y8A (λi=>hashInt i) (λn=>YlT) Y8A Y8A
 (λO ai=>reduceHash (xW ai)) [] (λO O a b=>a::b) v
inductive ct where
 |list (vs:Y3) |dict (c:Nat) (es:YCM) |obj (C:Nat) (vs:Y3) |own (a:Nat) |fix (vs:Y3)
def ct.DL(o:ct):Bool:=o.casesOn Y1k Y0P Y0P Y1k Y2A
abbrev ag:=Nat→Option Y1E
def upd(mh:ag)(a:Nat)(c:Y1E):ag:=λb=>if b=a then Y0M else Y6V
theorem bw(mh:ag)(a:Nat)(c:Y1E):upd mh a c a=Y0M:=Y0c
variable{mh:ag}
theorem dE{b:Nat}{c:Y1E}(h:Y5X):Zca=Y6V:=Ylu
structure G where
 prog:Program
 w:World
 K:Frag
 h₀:Heap
 os:OsState
 yn:Nat→YH
def d2(w:World)(h:Heap)(xs:Z8)(es:YCM):Y1:=List.rec (motive:=λO=>Z5U) YsY
 (λm O ai xs=>∃e r,xs=e::r∧YLV∧YFq∧YS9∧Y6E) es xs
def ib(h:Heap)(ns:YH)(xs:Z8)(vs:Y3):Y1:=List.rec (motive:=λO=>YH→Z5U) (λO xs=>YNl)
 (λv O ai ns xs=>∃e r n nD,ZVt∧xs=e::r∧Ysx∧Yfx∧ai nD r) vs ns xs
variable{w:World}
theorem d2.un{xs:Z8}{m:Y6A}{es:YCM}{P:Y1}(r:d2 w h xs ZUR)(f:∀e e6,Zex→YLV→YFq→YS9→d2 w h e6 es→P):P:=
 r.elim λe r=>r.elim λe6 r=>f e e6 r.1 YWq Y9W.1 YWr.1 YWr.2
theorem d2.cons{e:DictEntry}{xs:Z8}{m:Y6A}{es:YCM}(ak:YLV)(av:YFq)(aP:YS9)(r:Y4x):d2 w h YjX ZUR:=⟨e,xs,rfl,ak,av,aP,r⟩
variable{ns:YH}
theorem ib.un{xs:Z8}{v:V}{P:Y1}(r:ib h ns xs Y0O)(f:∀e e6 n nD,ZVt→Zex→Ysx→Yfx→ib h nD e6 vs→P):P:=
 r.elim λe r=>r.elim λe6 r=>r.elim λn r=>r.elim λnD r=>f e e6 n nD r.1 YWq Y9W.1 YWr.1 YWr.2
theorem ib.cons{n:Str}{e:DictEntry}{xs:Z8}{v:V}(ak:Ysx)(av:Yfx)(r:YDO):ib h (n::ns) YjX Y0O:=⟨e,xs,n,ns,rfl,rfl,ak,av,r⟩
theorem d2.keep(k:Y2U){xs:Z8}{es:YCM}(r:Y4x):d2 w h' xs es:=by
 induction es generalizing xs with
 |nil=>exact r
 |cons m es ai=>exact r.un λe e6 aJ a b c d=>aa aJ (d2.cons a ZFm (c.keep k) Ygv)
theorem ib.keep(k:Y2U){ns:YH}{xs:Z8}(r:YDO):ib h' ns xs vs:=by
 induction vs generalizing xs ns with
 |nil=>exact r
 |cons v vs ai=>exact r.un λe e6 n nD aJ aC a b c=>aa aJ (aC▸ib.cons a ZFm (ai c))
def qf(g:G)(h:Heap)(mh:ag)(a:Nat)(o:ct):Y1:=o.casesOn
 (λvs=>∃xs ep,Y0b=Y85∧Y0z)
 (λc es=>∃xs ep,Y0b=Y9b∧d2 g.w h xs es∧YEf∧∀e∈es,Ykr)
 (λC vs=>∃d t,Y0b=YpH∧Y6W=YpF∧∃xs ep,YUs∧ib h YGg xs vs)
 (λO=>∃xs ep,Y0b=Y9b) λvs=>∃xs,ZQ4∧Y0z
abbrev a5(g:G)(mh:ag)(s:Shared):Y1:=iG ZlZ (∀b o,YUg→∀x,Y6V=YQ→x.2.DL=true) (∀a t o,YnC→qf g s.heap mh a o) ZZ9 (s.os=g.os)
abbrev Step(X:Yo)(s:Shared)(mh:ag)(s':Shared)(aW:ag):Y1:=hr (∀a o,YX5→Y9Q→¬X a→YX1=YB) (∀a,Y9Q→ZCT∨YDy) (∀a o,YX5→∃o',YX1=YXO) Yjj
abbrev cX:Yo:=Y3z
theorem DM{o:Obj}{n:String}(ao:YWB)(ak:ZVw)(av:ZVv):YNy:=λk=>k.elim (λe=>av (t8 (cA ao e.1))) λk=>k.elim λxs k=>k.elim λn k=>ak (t8 (cA ao ZK7))
theorem O6(xs:Z8)(n:Nat):¬kept h (gU xs n):=Z3Z
theorem Az(xs:Yn)(n:Nat):¬kept h ZSN:=Z3Z
theorem ac9(C d:Nat):¬kept h YNr:=λk=>k.elim (λe=>hn e.1) λk=>k.elim λxs k=>k.elim λn k=>hn ZK7
variable{g:G}
theorem qf.here{o:ct}(x:ZY3):∃q,Y0b=YpM∧¬kept h q:=by
 cases o with
 |list vs=>exact x.elim λxs x=>x.elim λn x=>⟨_,x.1,Az xs n⟩
 |fix vs=>exact x.elim λxs x=>x.1.imp λo z=>⟨z.1,DM Z4 YC YC⟩
 |dict c es=>exact x.elim λxs x=>x.elim λn x=>⟨_,x.1,O6 xs n⟩
 |obj C vs=>exact x.elim λd x=>x.elim λt x=>⟨_,x.1,ac9 C d⟩
 |own b=>exact x.elim λxs x=>x.elim λn x=>⟨_,x,O6 xs n⟩
variable{aW:ag}
theorem qf.keep{o:ct}(x:ZY3)(k:Y2U)(aD:Y6P=Y0b)(hd:∀d t,Y6W=YpF→ZPx=ZQH∧aW d=Y6W):qf g h' aW a o:=by
 cases o with
 |list vs=>exact x.imp λxs x=>x.imp λn x=>⟨Yfs,YqX k⟩
 |fix vs=>exact x.imp λxs x=>⟨x.1.imp λO z=>⟨aD.trans z.1,z.2⟩,YqX k⟩
 |dict c es=>exact x.imp λxs x=>x.imp λn x=>⟨Yfs,ZeY,ZJ⟩
 |obj C vs=>exact x.imp λd x=>x.imp λt x=>⟨Yfs,ZQm.2.trans Y2L,x.2.2.imp λO q=>q.imp λO q=>⟨ZQm.1.trans q.1,Y82 k⟩⟩
 |own b=>exact x.imp λxs x=>x.imp λn x=>aD.trans x
theorem Step.refl{X:Yo}:Step X s mh s mh:=Znj
variable{s':Shared}
theorem Step.out{X:Yo}(st:YFg){o:Obj}(e:YX5)(hm:Y9Q):ZCT:=(Zb a hm).elim id λq=>g7 e q
variable{s2:Shared}{aH:ag}{s1:Shared}{m1:ag}{s3:Shared}
theorem Step.trans{X:Yo}{bF:ag}(x:Step X s1 m1 s2 aH)(y:Step X s2 aH s3 bF):Step X s1 m1 s3 bF:=
 ⟨λa o e hm aq=>y.1 a o (x.1 a o e hm aq) (x.out e hm) aq,
  λa e=>(x.2 a e).elim (λq=>(y.2 a q).imp id λq=>we λo aA=>(x.3 a o aA).elim λO av=>g7 av q) YJ,
  λa o e=>(x.3 a o e).elim λo' h=>y.3 a o' h,
  x.4.trans y.4⟩
variable{Y:Yo}
theorem Step.weaken{X:Yo}(x:YFg)(h:∀a,X a→Y a):Step Y s mh s' aW:=⟨λa o e hm aq=>x.1 a o e hm λq=>aq (h a q),x.2,x.3,x.4⟩
theorem Step.any{X:Yo}(x:Yer):YFg:=x.weaken Y34
abbrev O7(g:G)(X:Yo)(s:Shared)(mh:ag)(R:YBZ)(a:α)(s':Shared)(aW:ag):Y1:=jd Yfc YFg (R a s' aW)
abbrev hy(g:G)(X:Yo)(s:Shared)(mh:ag)(R:YBZ)(a:α)(s':Shared):Y1:=∃aW,Z5r
abbrev lH:Y8:=Y28
abbrev WP(g:G)(A:Around)(t:Y7I)(Q:Y9f)(s:Shared):Y1:=wpAny Yu A t Q lH s
abbrev fW(g:G)(A:Around)(X:Yo)(s:Shared)(mh:ag)(t:Y7I)(R:YBZ):Y1:=WP g A t YV5 s
theorem WP.mono{t:Y7I}{Q Q':Y9f}(h:WP g A t Q s)(k:ZlR):WP g A t Q' s:=wpAny_mono h k Y33
theorem hy.go{X:Yo}{R:YBZ}(st:Z82){a:α}(h:hy g X s1 m1 R a s2):hy g X s mh R a s2:=h.imp λm z=>Zni
theorem nE{X:Yo}{R:YBZ}{t:Y7I}(st:Z82)(h:fW g A X s1 m1 t R):WP g A t YV5 s1:=h.mono λO O z=>z.go st
theorem HM{X:Yo}{R:YBZ}{t:Y7I}{sE:YBZ}(h:fW g A X s mh t R)(k:∀a s' aW,Z5r→sE a s' aW):fW g A X s mh t sE:=h.mono λa s' z=>z.imp λm z=>⟨z.1,z.2,k a s' m z⟩
theorem a5.toks(ae:YU)(t:Nat):a5 g mh YrB:=⟨Y5U,Y7R,Y7S,YFv,YFw⟩
theorem Step.toks{X:Yo}(t:Nat):Step X s mh YrB mh:=Znj
theorem a5.here{c:Y1E}(ae:YU)(e:YnD):∃o,YX5∧YrE:=(Y7S a c.1 c.2 e).here
theorem a5.fresh(ae:YU)(e:YDy):Y9Q:=we λc h=>(ae.here h).elim λo q=>g7 q.1 e
variable{d:Nat}
theorem a5.ada{c:Y1E}(ae:YU)(e:Y6W=Y0M)(az:YDy):d≠a:=λq=>YBf λO z=>g7 z.1 (q▸az)
theorem a5.off{b:Nat}{o:Obj}{x:Y1E}(ae:YU)(e:YUg)(h:Y0d=YQ)(mN:x.2.DL=false):Y5X:=λq=>vV (cA mN (Y7R b o e x YHf))
theorem hT(h:Heap):h.get? h.objs.size=none:=we λo q=>t9 _ YkN
theorem yo(e:h.objs.size≤a):Y0b=none:=we λo q=>ye e YkN
abbrev hU(h h':Heap):Y1:=ZlQ
theorem DN(k:hU h h'){o:Obj}(e:YDJ):Y6P=Y0b:=(k a o e).trans e.symm
theorem a5.grow(ae:YU)(k:Y7m)(cR:Y57)(aA:Y4R):Y4D:=
 ⟨Zhu,Y7R,λa t o e=>(Y7S a t o e).keep YPn Ya5 λO O e=>⟨Ya5,rfl⟩,YTW,YS6⟩
theorem Step.grow{X:Yo}(k:Y7m):Step X s mh s' mh:=⟨ZhS,YrU,ZhT,YPn⟩
variable{t:Nat}
theorem a5.new{o:ct}(ae:YU)(k:Y7m)(az:YDy)(cR:Y57)(aA:Y4R)(h:ZY4):ZAV:=
 ⟨Zhu,
  λb o e x aq=>Y7R b o e x (cA (dE λq=>g7 (q▸Y8t) az) aq),
  λb u p e=>by
  by_cases q:b=a
  ·subst q;have:=ZP9;exact this.2▸h
  ·have e:=YiS;exact YvS YPn Ya5 λd om bk=>⟨(ae.here bk).elim Zgq,dE (ae.ada bk az)⟩,
  YTW,
  YS6⟩
theorem Step.new{X:Yo}{c:Y1E}(k:Y7m)(az:YDy):Step X s mh s' Ypy:=⟨ZhS,λb e=>by
  by_cases q:b=a
  ·exact YJ ZDF
  ·exact YY (YBj e),ZhT,YPn⟩
theorem qg{o:Obj}(aA:YDJ)(kN:YNy)(k:∀b,Y5X→YlB=Y51):Y2U:=λb o' e t=>(k b λq=>kN (c4 aA ZCQ▸t)).trans e
theorem a5.change{HN o:ct}(ae:YU)(h0:Y0d=some (t,HN))(k:Zld)(cR:Y57)(aA:Y4R)(adb:∀b,HN≠.own b)(mN:HN.DL=false)(h:ZY4):ZAV:=
 ⟨λb o e=>(k b ZDq).trans Y8t,
  λb o e x aq=>Y7R b o e x (cA (dE ZDq) aq),
  λb u p e=>by
  by_cases q:b=a
  ·subst q;have:=ZP9;exact aV this.2 h
  ·have e:=YiS;have bZ:∀d om,Y6W=some (om,.own b)→d≠a:=λd om bk z=>adb b (gQ (c4 h0 (aV z bk))).2;exact YvT λO z=>YvS ZY6 (k b q) λd om bk=>⟨k d ZGq,dE ZGq⟩,
  YTW,
  YS6⟩
theorem Step.change{X:Yo}{c₀:Y1E}{sF:ag}(ae:YU)(h0:ZUt)(k:Zld)(h:∃o,YX1=YB)(hm:∀b,YB2→sF b=none):Step X s mh s' sF:=
 ⟨λb o e ah O=>(k b λq=>absurd (cA ah ZYL) YZ9).trans e,
  λb e=>YY (hm b e),
  λb o e=>by
  by_cases q:b=a
  ·exact YgX
  ·exact⟨o,(k b q).trans e⟩,
  YvT λO z=>ZY6⟩
theorem HO{c₀ c:Y1E}(h0:ZUt):∀b,YB2→Zca=none:=λb e=>(dE λq=>absurd (cA e ZYL) YZ9).trans e
variable{ep:Nat}{fX:Y3}
theorem ade{X:Yo}{e6:Yn}(ae:YU)(e:Y3w)(hs:YDf)(aA:Y6P=some (jZ e6 ep))(bo:ZMl)(tk:Nat){R:YCU}(h:R () Y0w ZcX):Ylb:=
 have kt:Y94:=YBf YrZ
 ⟨_,ae.change (o:=Y5 fX) (s':=Y0w) e Y17 rfl rfl Zgr rfl ⟨e6,ep,aA,bo kt⟩,Z85,h⟩
variable{e6:Z8}
theorem adf{X:Yo}{c:Nat}{es kq:YCM}(ae:YU)(e:YVp)(hs:YDf)(aA:Y6P=ZaR)(bo:ZMm)(bZ:(kq.map Yh).Nodup)(aR:∀e∈kq,Ykr)(tk:Nat){R:YCU}(h:R () Y0w (upd mh a (t,YbT))):Ylb:=
 ⟨_,ae.change (o:=YbT) (s':=Y0w) e Y17 rfl rfl Zgr rfl ⟨e6,ep,aA,bo (YBf YrZ:Y94),bZ,aR⟩,Z85,h⟩
variable{C:Nat}
theorem adg{X:Yo}{u:Nat}(ae:YU)(e:YHN)(af:Y0u=YpH)(hd:ZUv)(hs:mE d s.heap h')(aA:ZPx=ZaR)(bo:Y94→ib h' YGg e6 fX)(tk:Nat){R:YCU}(h:R () Y0w (upd mh a (t,Ybl))):Ylb:=by
 have kt:Y94:=(ae.here hd).elim YrZ;have ad:a≠d:=λq=>ct.noConfusion (gQ (c4 e (YwA hd))).2;refine⟨_,⟨λb o x=>(Y17 b (ae.off x hd rfl)).trans (Y5U b o x),λb o x y bb=>Y7R b o x y (cA (dE (ae.off x e rfl)) bb),
  λb om p x=>?_,YFv,YFw⟩,Step.change (s':=Y0w) ae hd Y17 Zn2 Z4W,h⟩
 by_cases q:b=a
 ·subst q;have:=(gQ (c4 (bw mh b (t,Ybl)) x)).2;exact aV this ((⟨d,u,(Y17 b ad).trans af,(dE (q6 ad)).trans hd,e6,ep,aA,bo kt⟩:qf g h' _ b Ybl))
 ·have x:=cA Y7g x;by_cases ck:b=d
  ·subst ck;have:=(gQ (c4 hd x)).2;exact aV this ((⟨e6,ep,aA⟩:qf g h' _ b YQ2))
  ·exact(Y7S b om p x).keep kt (Y17 b ck) λeJ v fY=>by
    have dn:eJ≠d:=λz=>q (ct.noConfusion (gQ (c4 fY (YwB hd))).2 id);have fI:eJ≠a:=λz=>ct.noConfusion (gQ (c4 e ((congrArg mh z.symm).trans fY))).2;exact⟨Y17 eJ dn,dE fI⟩
theorem adh:(HI.map er).Nodup:=ZL
theorem AA{n m:Nat}{s:Str}(a:YBQ)(b:YXb=some s):n=m:=(xX ((jJ a).elim Y6j) adh).mp (a.trans b.symm)
def b8(v:V):Y3o:=V.rec (motive_1:=YYj) (motive_2:=YYi) (λb=>b.casesOn true Y1k Y1k Y1k Y1k Y1k Y1k)
 (λx b=>b.Ay false λy=>YY5) (λi b=>b.mb false ZjM) (λn b=>b.onStr false Ys9) (λn b=>b.oi false Ys9)
 (λn b=>b.casesOn false Y1k Y1k Y1k Y1k Ys9 Y1k) YYa Ys7 (λO O x y l=>l.casesOn false Zhx) v
def j0(vs:Y3):Y5M:=vs.rec Ys7 λa O ai l=>l.casesOn false λb r=>Y1S&&Y6E
theorem DO(vs ws:Y3):ZG1:=by
 suffices h:∀ws,ZG1 from h ws
 induction vs with
 |nil=>exact Zf
 |cons a vs ai=>exact λws=>ws.casesOn rfl λb r=>congrArg (Y1S&&·) Y6E
theorem adi(a:V):Zlc:=V.rec (motive_1:=λa=>Zlc) (motive_2:=λa=>∀b,ZS6→a=b)
 (λb=>b.casesOn Zf Zc Zc Zc Zc Zc Zc)
 (λO b=>b.casesOn nb (λO e=>congrArg V.bool Y98) Zc Zc Zc Zc Zc)
 (λO b=>b.casesOn nb Zc (λO e=>congrArg V.int Y98) Zc Zc Zc Zc)
 (λO b=>b.casesOn nb Zc Zc (λO e=>congrArg V.str Y98) Zc Zc Zc)
 (λO b=>b.casesOn nb Zc Zc Zc (λO e=>congrArg V.ref Y98) Zc Zc)
 (λO b=>b.casesOn nb Zc Zc Zc Zc (λO e=>congrArg V.kM Y98) Zc)
 (λvs ai b=>b.casesOn nb Zc Zc Zc Zc Zc λws e=>congrArg V.tup (ai ws (cA (DO vs ws) e)))
 (λb=>b.casesOn Zf YEN) (λO O ak av b=>b.casesOn nb λy bf e=>(ak y ZJA.1)▸(av bf ZJA.2)▸rfl) a
theorem iI(a:V):ZG7:=V.rec (motive_1:=λa=>ZG7) (motive_2:=λa=>j0 a a=true) rfl YOE YOE YOE YOE YOE
 (λvs ai=>(DO vs vs).trans ai) rfl (λO O a b=>lF ⟨a,b⟩) a
theorem oo{a b:V}(h:YKy):a=b:=adi a b h
theorem uq{a b:V}:YKy↔a=b:=⟨oo,λe=>ZCL⟩
theorem ic{a b:V}(h:YCl):Y1S=false:=HA λq=>h YWM
theorem O8(a b:V):Y1S=b8 b a:=sy (uq.trans (eq_comm.trans uq.symm))
theorem DP{a b:Y3}:ZS6↔a=b:=eT Z3a (aj (propext uq) (⟨λe=>V.noConfusion e id,ZiT⟩))
def pre(a:Y3):Y5M:=a.rec Y2A λx O ai l=>l.casesOn true λy r=>YSi&&Y6E
theorem O9(n m:Nat):(n+1==m+1)=(n==m):=sy (beq_iff_eq.trans (Nat.succ_inj.trans beq_iff_eq.symm))
theorem adj(a b:Y3):(pre a b&&a.length==b.length)=YAu:=by
 induction a generalizing b with
 |nil=>cases b <;> rfl
 |cons x a ai=>
  cases b with
  |nil=>rfl
  |cons y b=>exact(Bool.and_assoc _ _ _).trans (congrArg (YSi&&·) ((congrArg (pre a b&&·) Z5s).trans YST))
def dI(v:V):Z9:=V.rec (motive_1:=Zh6) (motive_2:=Zh6) Y1k Y0P Y0U Y0U Y0P Y0P (λO ai n=>n.casesOn false ai) Y2A (λO O x y n=>x n&&y n) v
def md(vs:Y3)(n:Nat):Bool:=vs.rec true λv O ai=>dI v n&&ai
theorem mO(vs:Y3)(n:Nat):dI ZZ (n+1)=md vs n:=by
 induction vs with
 |nil=>rfl
 |cons a vs ai=>exact congrArg (dI a n&&·) ai
def compat(v:V):Y3o:=V.rec (motive_1:=YYj) (motive_2:=YYi) Y1k Y0P Zh8 Zh9 Y0P Y0P YYa Y2A (λO O x y l=>l.casesOn true Zhx) v
def DQ(vs:Y3):Y5M:=vs.rec Y2A λv O ai l=>l.casesOn true λb r=>compat v b&&Y6E
theorem DR(vs ws:Y3):compat ZZ Y8W=Z3c:=by
 induction vs generalizing ws with
 |nil=>rfl
 |cons a vs ai=>exact ws.casesOn rfl λb r=>congrArg (YAb&&·) Y6E
def iT(v:V):Nat:=V.rec (motive_1:=Zh5) (motive_2:=Zh5) 1 Y5n Y5n Y5n Y5n Y5n (λO n=>n+1) 0 YrN v
def HP(vs:Y3):Nat:=vs.rec 0 λv O n=>iT v+n
theorem adk(vs:Y3):iT ZZ=HP vs+1:=by
 induction vs with
 |nil=>rfl
 |cons a vs ai=>exact(congrArg Y3m (congrArg (iT a+·) (oc ai)):_)
def sG(w:World)(vs:Y3):Y8a:=vs.map Yjn
theorem adl(w:World)(vs:Y3):ef w ZZ=reduceHash Yqg:=by
 refine congrArg (λl=>reduceHash (xW l)) ?_
 induction vs with
 |nil=>rfl
 |cons a vs ai=>exact congrArg (ef w a::·) ai
variable{k:Nat}{e:Nat}
theorem yp{w c:Nat}(h:a+c*(k+1)+d<e)(hw:w≤c):a+w+c*k+d<e:=fF (h7 (aj ZO (aX (gi w ..) (c0 (c0 hw _) a))) d) h
theorem DS{x:Nat}(h:a+k+d<e)(aq:x≤d):a+x<e:=Nat.lt_of_le_of_lt (gR (cx a k) aq) h
theorem bD{m c:Nat}(h:ZAI<c):a+1+2*m<c:=yp (d:=0) h Y2
theorem bC{m c:Nat}(h:a+2*m<c):a<c:=fF Yk h
theorem iz.type(t:Yez):s.TypeIs YA "tuple":=t.elim λn e=>Yt6
abbrev DT(prog:Program)(w:World)(E:Y8)(v:V):Y1:=∀(n:Nat)(A:Around)(s:Shared)(x:Value)(Q:YdQ),Y7h→YQW→Y2m→
  Q YU7 Zfy→Zdo
abbrev DU(prog:Program)(w:World)(E:Y8)(vs:Y3):Y1:=∀(n:Nat)(A:Around)(f:Value→YCF→Sem Z4G)(s:Shared)(xs:Yn)(acc:YCF)(Q:YCF→YP),
  (∀x r(Q':Z4G→YP)s,wpAny YR A ZXd (λbJ s'=>Q' (.yield (r.push bJ)) s') E s→Zdm)→
  YDh→YQW→Y3B→Q (acc++Yyz) {s with toks:=s.toks+HP vs}→wpAny YR A (forIn xs acc f) Q E s
variable{prog:Program}
theorem adm{E:Y8}(vs:Y3)(ai:Z3f):DT prog w E ZZ:=by
 intro n A s x Q d bj r h
 cases n with
 |zero=>exact YHS
 |succ n=>
 refine ZYN;have dJ:=ZS1;refine YoV λk aA=>bd (wpAny_cRoomFor_or (YJ ZGC) ZH9);show wpAny _ _ (if(some (Value.builtin "tuple.__hash__")==some l6)=true then _ else _) Q E s;refine cb ZRQ ZH9;show wpAny _ _ (callSpecialIfBoundUnlessNone? YA "__hash__" _ >>= _) Q E s;refine bd (wpAny_callSpecialIfBoundUnlessNone?_slot dJ G9 (wpAny_call_entry G9 dJ F.entry_tuple_hash ?_ (F.args_tuple_hash_1 _)));show wpAny _ _ (Builtin.Tuple.tupleItemsOf YA >>= _) _ _ s;refine bd (wpAny_tupleItemsOf aA rfl (bd (Aq NF (ai n _ _ _ _ _ _ (λx r Q' s' aq=>bd (wpAny_mono aq (λO O y=>by first | exact YXx | exact ZH5) ZgV)) YMT ZGD Y9W ?_))));show wpAny _ _ (retInt (xW _)) _ _ _;refine wpAny_ret_mkInt ?_;replace h:=OO (adk ..) (aQ (adl ..) h);refine aa axP (aa abP ?_);dsimp only [reduceHash]at h;show wpAny _ _ (if YwL then _ else _) Q E _;by_cases bo:YwL
 ·(replace h:=aQ ZRc h;refine cb ZRc ?_)
  exact Y1u
 ·(replace h:=aQ ZRS h;refine cb ZRS ?_)
  exact Yhn
theorem adn{E:Y8}(v:V)(vs:Y3)(ak:Z3e)(av:Z3f):DU prog w E Y0O:=by
 intro n A f s xs acc Q hf d bj r h;refine r.un λy bf e a b=>dG d λbD bC=>iy e (cb Y4Q (bd (hf _ _ _ _ (ak n A s y _ bD bj a (av n A f Zfy bf _ Q hf bC bj b ?_)))));have aJ:(acc.push YU7)++Yyz=acc++(sG w Y0O).toArray:=by
  show _=acc++(YU7::ZZV).toArray;rw[←axM];simp
 refine ZEO;show Q _ {s with toks:=ZZO+HP vs};exact dS ZO h
theorem Pa{E:Y8}{v:V}:Z3e:=V.rec (motive_1:=DT prog w E) (motive_2:=DU prog w E) YrK Y9g
 (λO O O O O O O O r h=>r.elim λO e=>aa e (wpAny_pyHash_int h)) (λO O O O O O O O r h=>r.elim λO e=>e.elim λy e=>aa e.2 (wpAny_pyHash_str ((congrArg YsB ZLr:hashStr w y=_)▸h)))
 Y9g Y9g adm (λn A f s xs acc Q hf d bj r h=>by
  exact iy r.jh (cb vW (wpAny_pure ((axQ (xs:=acc))▸h)))) adn v
abbrev DV(prog:Program)(w:World)(E:Y8)(v:V):Y1:=∀(n:Nat)(A:Around)(s:Shared)(x:Value)(Q:Y1n),Y7h→Y2m→Q true s→wpAny YR A ZN9 Q E s
abbrev DW(prog:Program)(w:World)(E:Y8)(vs:Y3):Y1:=∀(n:Nat)(A:Around)(f:Value→YRN→Sem Z4H)(s:Shared)(xs:Yn)(Q:YRN→YP),
  (∀x r(Q':Z4H→YP)s,wpAny YR A ZN9 (λb s'=>Y6G∧Yee) E s→Zdm)→
  YDh→Y3B→Q Y8Q s→wpAny YR A (forIn xs Y8Q f) Q E s
theorem ado{E:Y8}(vs:Y3)(ai:Z3h):DV prog w E ZZ:=by
 intro n A s x Q d r h
 cases n with
 |zero=>exact YHS
 |succ n=>
 refine ZYN;have dJ:=ZS1;refine YoV ZjO;unfold eqIsQuiet;refine bd (wpAny_specialOf dJ abQ.lookup ?_);show wpAny _ _ (isInstance YA Y2i >>= _) _ _ s;refine bd (wpAny_isInstance dJ isSubtype_tuple_tuple ZJZ);show wpAny _ _ (forIn (bT items) _ _) _ _ s;refine Aq NF (ai n _ _ _ _ _ (λx r Q' s' aq=>Yhk) YMT Y9W Y1u)
 (refine aa y.1 YTd)
 exact wpAny_pure y.2
theorem adp{E:Y8}(v:V)(vs:Y3)(ak:Z3g)(av:Z3h):DW prog w E Y0O:=by
 intro n A f s xs Q hf d r h;exact r.un λy bf e a b=>dG d λbD bC=>iy e (cb Y4Q (bd (hf _ _ _ _ (ak n A s y _ bD a ⟨rfl,av n A f s bf Q hf bC b h⟩))))
theorem HQ{E:Y8}{v:V}:Z3g:=V.rec (motive_1:=DV prog w E) (motive_2:=DW prog w E) YrK Y9g
 (λO O O O O O O r h=>r.elim λO e=>jg e ZJY) (λO O O O O O O r h=>r.elim λO e=>e.elim λO e=>jg e.2 ZJY)
 Y9g Y9g ado (λO O O O O O O O r h=>iy r.jh (cb vW Y1u)) adp v
theorem V.str_inj{n m:Nat}(h:Yf2=V.str m):n=m:=YRj
noncomputable instance:DecidableEq V:=λa b=>if h:YKy then isTrue (oo h)else isFalse λe=>h ZCL
theorem adq(a b:V):decide (a=b)=Y1S:=sy (decide_eq_true_iff.trans uq.symm)
theorem HR{n m:Nat}{s t:Str}(a:YBQ)(b:YXb=YNK):decide (s=t)=b8 ZM Z2F:=by
 by_cases q:n=m
 ·subst q;(refine aa (c4 a b) (aL Y3t ?_));exact ZLR
 ·exact aL (ic λe=>q YAH) (decide_eq_false λe=>q (AA a (aa e b)))
abbrev HS(v:V):Y1:=∀(h:Heap)(u:V)(n m:Nat)(x:Value),Y7h→YTq→Y2G→ZBL→v=u
abbrev Pb(vs:Y3):Y1:=∀(h:Heap)(us:Y3)(n m:Nat)(xs:Yn),YDh→Yn7→Y0z→ZAm→vs=us
theorem ads(vs:Y3)(ai:Pb vs):HS ZZ:=by
 intro h u n m x d eJ r bI;refine r.gj.elim λa r=>r.elim λitems r=>aK.O4 (C:=λu=>YTq→V.tup vs=u) nb YEN (λus ym O t q eJ=>?_) (aV r.1 bI) eJ
 cases n with
 |zero=>exact YHS
 |succ n=>
 cases m with
 |zero=>exact YW3
 |succ m=>
 have e:items=ym:=YoV λdC ak=>t.elim λdu av=>by
  have:=congrArg ua (c4 ak av);exact congrArg abR (abS this).1
 exact congrArg V.tup (ai h us n m items YMT Yn4 Y9W (aa e q))
theorem aK.inj{v:V}:HS v:=V.rec (motive_1:=HS) (motive_2:=Pb) YrK Y9g
 (λi h u O O O O O r bI=>r.elim λt e=>(aK.int_is (aV e bI:aK h Y71 u)).symm)
 (λk h u n m x d eJ r bI=>r.elim λt e=>e.elim λs e=>by
  cases u with
  |str oq=>exact bI.elim λdg bk=>bk.elim λs' bk=>congrArg V.str (AA e.1 ((axR (cA e.2 bk.2)).1▸bk.1))
  |int j=>exact bI.elim λdg bk=>hn (cA e.2 bk)
  |tup us=>exact bI.gj.elim λa q=>q.elim λym q=>hn (cA e.2 q.1)
  |_=>exact YW3)
 Y9g Y9g ads
 (λh us O O xs O O r bI=>us.casesOn (motive:=λus=>ZAm→[]=us) Zf (λO O bI=>bI.un λO O e O O=>Ygf) bI)
 (λv vs ak av h us n m xs d eJ r bI=>r.un λy bf e a b=>by
  cases us with
  |nil=>exact absurd (cA e bI.jh) Y03
  |cons u us=>
   refine bI.un λmP AB bk jf kO=>?_;have aC:=g4 (cA e bk);exact dG d λbD bC=>dG eJ λeg d1=>aT (ak h u n m y bD eg a (aa YAM jf)) (congrArg _ (av h us n m bf bC d1 b (aa YAN kO)))) v
abbrev DX(prog:Program)(w:World)(E:Y8)(v:V):Y1:=∀(u:V)(n m:Nat)(A:Around)(s:Shared)(x y:Value)(Q:Y1n),Y7h→YTq→YGO→YQW→Y2m→Yg3→
  Q YSh s→wpAny YR A Yjx Q E s
abbrev DY(prog:Program)(w:World)(E:Y8)(vs:Y3):Y1:=∀(us:Y3)(n m:Nat)(A:Around)(F:Fin)(f:Z8g)(s:Shared)(xs bf:Yn)(Q:Z5z),
  (∀x y r(Q':Z4I)s,wpAny YR A Yjx (λb s'=>if Y6G then Yee else Q' (Y6x Yz3) s') E s→Zdl)→
  YDh→Yn7→DQ vs us=true→YQW→Y3B→ZAq→
  ZXE→(ZXD→Q Yz3 s)→Zdn
theorem adt{E:Y8}(vs:Y3)(ai:Z3j):DX prog w E ZZ:=by
 intro u n m A s x y Q d eJ c bj r bI h
 cases u with
 |tup us=>
  cases n with
  |zero=>exact YHS
  |succ n=>
  cases m with
  |zero=>exact YW3
  |succ m=>
  refine ZYM;have AD:=YM6;have wm:=YVH;refine YBD λDZ HU=>YL5 λadu wo=>ix q.1 (jg Y3F YXw);show wpAny _ _ (if Yxg then _ else _) Q E s;by_cases wq:Yxg
  ·refine cb (if_pos wq) ?_;replace h:=aQ Y3t (eT (aK.inj s.heap _ _ _ _ d eJ r (bS.1.trans (cA (eq_of_beq wq) YHd)▸bI)) h);exact Yhn
  ·refine cb (if_neg wq) (bd (wpAny_richCompare_same_room (op:=.Eq) AD wm abQ (wpAny_call_entry abQ AD F.entry_tuple_eq ?_ (F.args_tuple_eq_2 _ _)) ZGC));show Ze4;refine ZH2;have aE:(items.toArray.size==HT.toArray.size)=(vs.length==us.length):=bW Ac (bW Ac (aT YMq (congrArg _ Yhf)));have ar:=adj vs us;replace ar:=aL Z3a ar;refine ai us n m _ (Y6x (YS Y1B)) _ _ _ _ _ Zkx YMT Yn4 (DR vs us▸c) ZGD Yq YAU YOB YOB
   ·cases b with
    |true=>exact ZJc
    |false=>exact cb ZRZ ZH5
   ·refine ZeJ;replace ar:=bL Zep ZMi;exact aa (aE.trans ar) h
   ·refine ZeJ;replace ar:=aQ (NG ..) ZMi;exact aa ar h
 |_=>exact Y9T
theorem adv{E:Y8}(v:V)(vs:Y3)(ak:Z3i)(av:Z3j):DY prog w E Y0O:=by
 intro us n m A F f s xs bf Q hf d eJ c bj r bI h h';refine ZYS
 cases us with
 |nil=>(refine ZCy);exact YqO
 |cons u us=>
  refine bI.un λmP AB bk jf kO=>dG d λbD bC=>dG eJ λeg d1=>dG c λdD w2=>?_
  (refine ZD4)
  refine bd (hf _ _ _ _ _ (ak u n m A s _ _ _ bD eg dD bj a jf ?_));have ar:ZXC:=rfl
  (rw[ar]at h;rw[ar]at h')
  cases q:YSh with
  |true=>(rw[q,xY]at h;rw[q,xY]at h');exact aa Y0c (av us n m A F f s _ _ Q hf bC d1 w2 bj b kO h h')
  |false=>rw[q,NG]at h';exact aa Y2u ZeC
theorem yq{E:Y8}{v:V}:Z3i:=V.rec (motive_1:=DX prog w E) (motive_2:=DY prog w E) ZgD YIX
 (λi u n m A s x y Q d eJ c bj r bI h=>r.elim λt e=>by
  cases u with
  |int j=>exact bI.elim λdg bk=>aa e (bk▸wpAny_eqBool_int h)
  |_=>exact Y9T)
 (λi u n m A s x y Q d eJ c bj r bI h=>r.elim λt e=>e.elim λz e=>by
  cases u with
  |str j=>exact bI.elim λdg bk=>bk.elim λk9 bk=>aa e.2 (bk.2▸wpAny_eqBool_str (HR e.1 bk.1▸h))
  |_=>exact Y9T)
 YIX YIX adt (λus n m A F f s xs bf Q hf d eJ c bj r bI h h'=>ZIL) adv v
theorem kds_all{p:Y3o}{n:Nat}(ar:ZmJ)(vs:Y3)(h:ZdK):YDh:=by
 induction vs with
 |nil=>rfl
 |cons v vs ai=>exact have h:=Y1q;lF ⟨ar v h.1,YSU⟩
theorem Pc{p:Y3o}(ar:ZmE)(vs ws:Y3)(h:ZdK)(h':ws.all p=true):Z3c=true:=by
 induction vs generalizing ws with
 |nil=>rfl
 |cons v vs ai=>
  cases ws with
  |nil=>rfl
  |cons w ws=>exact have h:=Y1q;have h':=cL h';lF ⟨ar v w h.1 h'.1,ai ws h.2 h'.2⟩
theorem V.kr{v:V}(h:YEB):∃n,v=ZM:=by cases v with | str n=>exact YtF | _=>exact Y0L
theorem V.jM{v:V}(h:YEA):∃n,v=Y72:=by cases v with | int n=>exact YtF | _=>exact Y0L
theorem V.ph{v:V}{f:Y5M}(h:Zct):∃vs,YI6∧f vs=true:=by cases v with | tup vs=>exact⟨vs,rfl,h⟩ | _=>exact Y0L
theorem HV{p:Y3o}(h:sD p vs=true):∃n r,vs=ZM::r∧r.all p=true:=by
 cases vs with
 |nil=>exact Y0L
 |cons a r=>exact have h:=Y1q;(V.kr h.1).elim λn e=>⟨n,r,YAn,h.2⟩
theorem HW{p:Y3o}{n:Nat}(ar:ZmJ)(v:V)(h:Zcs):YjF:=
 YOa λvs e=>YuY λk q=>q.elim λr q=>aT e.1 (aj Yn3 (aT q.1 (kds_all ar r q.2)))
theorem HX{p:Y3o}(ar:ZmE)(v u:V)(h:Zcs)(h':u.eM false ZZU=true):YGO:=
 YOa λvs e=>YuY λk q=>q.elim λr q=>Yv2 λus bk=>(HV bk.2).elim λoq bS=>bS.elim λbI bS=>aT e.1 (aX bk.1 (aj Z3d (aT q.1 (aX Y3F (Pc ar r bI q.2 Y1p)))))
theorem HY(n:Nat)(v:V)(h:YEA):Y7h:=YOZ YrV
theorem Pd(v u:V)(h:YEA)(h':Zbq):YGO:=YOZ λO e=>aa e h'
theorem adw(n:Nat):∀v,YGd→Y7h:=by
 induction n with
 |zero=>exact Zc
 |succ n ai=>exact HW ai
theorem adx(n:Nat):∀v u,YGd→fV n u=true→YGO:=by
 induction n with
 |zero=>exact YEN
 |succ n ai=>exact HX ai
theorem D0(v:V):Zlw:=V.rec (motive_1:=λv=>Zlw) (motive_2:=λvs=>∀n,YDh→md vs (n+1)=true) Y89 Y4V Y4V Y4V Y4V Y4V
 (λvs ai n=>n.casesOn nb λn h=>(mO vs (n+1)).symm▸ai n (mO vs n▸h)) Y89 (λO O a b n h=>have h:=Y1q;lF ⟨a n h.1,b n h.2⟩) v
theorem Pe{v:V}{n m:Nat}(l:YB6)(h:Y7h):dI v m=true:=l.rec h λO ai=>D0 v _ ai
theorem Pf{P:Y1}{c:Nat}{v:V}(h:YLn)(ak:c=1→YEB→P)(av:c=2→YEA→P)(aP:YQT→P):P:=by
 cases c with
 |zero=>exact Y0L
 |succ c=>
 cases c with
 |zero=>exact ak rfl h
 |succ c=>
 clear ak
 cases c with
 |zero=>exact av rfl h
 |succ c=>exact aP (fp 3 c)
theorem qh{c:Nat}{v:V}(ao:YQT)(h:YLn):YTr∧ZmY∧∀u,ZPG→YGO:=by
 have T:∀{v:V}{f:Y5M},Zct→ZmY:=λh=>(V.ph h).imp YrY
 cases c with
 |zero=>exact Ygi
 |succ c=>
 cases c with
 |zero=>exact Ygi
 |succ c=>
 cases c with
 |zero=>exact Ygi
 |succ c=>
 cases c with
 |zero=>exact⟨Pe Y0J (HW Z4X v h),T h,λu=>HX Pd v u h⟩
 |succ c=>
 cases c with
 |zero=>exact⟨adw 8 v h,T h,λu=>adx 8 v u h⟩
 |succ c=>
 clear ao
 cases c with
 |zero=>
  refine YOa λvs q=>⟨Pe (n:=2) Y2 ?_,⟨vs,q.1⟩,λu h'=>Yv2 λus bS=>?_⟩
  ·exact aT q.1 (aj Yn3 (kds_all (HW Z4X) vs q.2))
  ·exact aT q.1 (aX Y3F (aj Z3d (Pc (HX Pd) vs us q.2 Y1p)))
 |succ c=>exact Y0L
def HZ(prog:Program)(w:World)(c:Nat)(ao:YQT):HeapKind prog w V where
 is:=λh v a=>YLn∧aK h YA v
 hash:=Yjn
 draws:=iT
 room:=λA=>Y3W
 inj:=λx y=>aK.inj _ _ 8 8 _ (qh ao x.1).1 (qh ao y.1).1 x.2 y.2
 keeps:=λx aA hd hs=>⟨x.1,YqX λa o e t=>(Y17 a λq=>by
  subst q;have e:=congrArg ua (c4 aA e);exact t.elim (λz=>YIO λO z=>vX (cA hd (e.trans z))) λz=>z.elim λO z=>z.elim λO z=>vX (cA hd (e.trans ZKF))).trans e⟩
 pyHash:=λbj aR h=>Pa 8 _ _ _ _ YyX YLk aR.2 h
 eqBool:=λbj aq bb h=>yq _ 8 8 _ _ _ _ _ ZY8.1 (qh ao Y7b).1 (ZY8.2.2 _ Y7b) YLk Y6F Y7c (adq _ _▸h)
 quiet:=λaR h=>HQ 8 _ _ _ _ YyX aR.2 h
abbrev dm:=YCM
def j1(es:dm)(k:V):Y0X:=es.rec none λe O ai=>cond Y1z YNI (ai.map Y3m)
def c8(es:dm)(k:V):Yp:=es.rec none λe O ai=>cond Y1z YpJ ai
def eE(es:dm)(k v:V):dm:=es.rec [YJH] λe es ai=>cond Y1z Ywn ZM2
def qi(es:dm)(k:V):dm:=es.rec [] λe es ai=>cond Y1z es ZM2
theorem ady{f:YIV}{o:Y7G}(h:o.map f=none):o=none:=Option.map_eq_none_iff.mp h
variable{es:dm}
theorem ur{k:V}(h:Y9K=none):k∉Y1W∧YiQ=none∧∀v,YU3=es++[YJH]:=by
 induction es with
 |nil=>exact⟨cS,rfl,Zf⟩
 |cons e es ai=>
  have hd:ZS7:=rfl;have av:YiL:=rfl;have aP:ZmC:=Zf;replace h:=aQ hd h
  cases q:Y1z with
  |true=>replace h:=YGm;exact cW h
  |false=>
   replace h:=YGm;have ai:=ai (ady h);refine⟨λm=>(dz m).elim (λz=>h8 (cA q (uq.mpr z.symm))) Y7T,?_,λv=>?_⟩
   ·exact aj av (dT q YCi.1)
   ·exact aj YSF (dT q (congrArg YaM (YCi.2 v)))
theorem uu{k:V}{i:Nat}(h:Y9K=some i):∃v,YD7=ZaV∧YiQ=Ym∧(∀u,eE es k u=es.modify i λe=>(e.1,u))∧YoR=YUH:=by
 induction es generalizing i with
 |nil=>exact Y08
 |cons e es ai=>
  have hd:ZS7:=rfl;have av:YiL:=rfl;have aP:ZmC:=Zf;have da:ZY9:=rfl;replace h:=aQ hd h
  cases q:Y1z with
  |true=>
   replace h:=YGm;have af:0=i:=Y4v;subst af;exact⟨e.2,congrArg some (iF YWM rfl),by refine ZER;rfl,λu=>by refine ZE9;rfl,by refine aj da YAe;rfl⟩
  |false=>
   replace h:=YGm;refine YZm λj aM=>(ai aM.1).elim λv z=>⟨v,?_⟩
   have H0:j+1=i:=aM.2;clear h;subst H0;exact⟨z.1,by refine ZER;exact Z4,λu=>by refine ZE9;exact congrArg YaM (YYF u),aj da (dT q (congrArg YaM YYG))⟩
theorem adz(i:Nat)(v:V)(h:YEf):(Yx2).Nodup:=by
 have e:Yx2=Y1W:=by
  clear h
  induction es generalizing i with
  |nil=>cases i <;> rfl
  |cons e es ai=>cases i with
   |zero=>rfl
   |succ i=>exact congrArg (e.1::·) (ai i)
 exact aV e.symm h
theorem adA(i:Nat)(h:YEf):((es.eraseIdx i).map Yh).Nodup:=axT ((List.eraseIdx_sublist es i).map _) h
theorem adB{k v:V}(h:YEf)(az:k∉Y1W):((es++[YJH]).map Yh).Nodup:=by
 exact aL dK (xZ xU (⟨h,Y7v,λa aD O ah e=>az ((e.trans YCp:a=k)▸aD)⟩))
theorem d2.length{xs:Z8}(r:Y4x):Zev:=by
 induction es generalizing xs with
 |nil=>exact Yiu
 |cons m es ai=>exact r.un λe e6 aJ O O O d=>aa aJ (congrArg Ab Ygv)
theorem d2.get{xs:Z8}(r:Y4x){i:Nat}{m:Y6A}(q:YD7=Y31):∃e,Yqn∧YLV∧YFq∧YS9:=by
 induction es generalizing xs i with
 |nil=>exact g7 q xV
 |cons m0 es ai=>
  refine YWt
  cases i with
  |zero=>exact⟨e,YgT,YCv▸⟨a,b,c⟩⟩
  |succ i=>exact aa aJ (ai d q)
theorem d2.append{xs bf:Z8}{fs:dm}(r:Y4x)(q:d2 w h bf fs):d2 w h Yqh (es++fs):=by
 induction es generalizing xs with
 |nil=>exact ZCs
 |cons m es ai=>exact r.un λe e6 aJ a b c d=>aa aJ (d2.cons a b c Ygv)
theorem d2.modify{xs:Z8}(r:Y4x){v:V}(q:Y2G)(i:Nat):d2 w h (xs.modify i λe=>{e with val:=x}) (es.modify i ZiR):=by
 induction es generalizing xs i with
 |nil=>exact Y2O▸(by cases i <;> rfl)
 |cons m es ai=>
  refine YWt
  cases i with
  |zero=>exact aa aJ (d2.cons a b q d)
  |succ i=>exact ZBF
theorem d2.eraseIdx{xs:Z8}(r:Y4x)(i:Nat):d2 w h YNk YUH:=by
 induction es generalizing xs i with
 |nil=>exact Yyd
 |cons m es ai=>
  refine YWt
  cases i with
  |zero=>exact aa aJ d
  |succ i=>exact ZBF
theorem d2.findIdx{xs:Z8}(r:Y4x){k:V}{p:DictEntry→Bool}(ar:∀e m,m∈es→YFq→p e=YhN):xs.findIdx? p=Y9K:=by
 induction es generalizing xs with
 |nil=>exact YSN
 |cons m es ai=>
  refine YWt
  (refine aX aJ ZEB;refine aa (ar e m b3 b) (dU (ai d λe m hm=>ar e m (eI _ hm)) ?_))
  show _=cond YhN YNI Ytk
  cases YhN <;> rfl
theorem d2.mem{w:World}{h:Heap}{xs:Z8}{es:dm}(r:Y4x){e:DictEntry}(he:e∈xs):∃m,m∈es∧YLV∧YFq:=by
 induction es generalizing xs with
 |nil=>exact ZDQ
 |cons m es ai=>
  exact r.un λbk e6 aJ a b c d=>(dz (aV aJ he)).elim (λz=>⟨m,b3,(congrArg DictEntry.hash z).trans a,aX z b⟩) λz=>(ai d z).imp λm q=>⟨eI _ q.1,q.2⟩
abbrev ie(c:Nat)(es:dm):Y1:=hR (YEf) (∀e∈es,Ykr)
theorem D1{c:Nat}{v:V}(h:YLn):YTr:=Pf h (λO h=>YZw YrV) (λO h=>HY 8 v h) λq=>(qh q h).1
variable{key:Value}
theorem adC{E:Y8}{xs:Z8}{k:V}(ao:k.isStr=true)(pj:∀e∈es,ZLq)(aA:Y9Z)(r:YTo)(eV:YKk){Q:YRO}(h:YRV):YXv:=by
 refine(V.kr ao).elim YsA;subst e;refine eV.elim λt q=>q.elim Zkv;have aq:ef w ZM=Yaq x:=congrArg YsB q.1;refine jg aq (ix q.2 ?_);refine wpAny_dictFind_of (knd:=YHT) (k:=x) (strKind_is prog w _ t) aA rfl Yrn ?_
 ·refine YyZ λm hm=>(V.kr ZX6).elim λj aM=>(ZBf:ZBR).elim λu z=>z.elim λy z=>⟨y,aa z.2 ZbC,ZQs ?_⟩
  refine aX aM ?_;exact congrArg YsB z.1
 ·rw[axV,r.findIdx (k:=ZM) ZiO]
  ·exact h
  ·refine(V.kr ZX5).elim λj aM=>(aM▸b:ZBR).elim λu z=>ZfT;refine aX z.2 (aj (axW ZbC ..) (dS aM (aL (O8 ..) ?_)));exact HR q.1 z.1
theorem adD{E:Y8}{xs:Z8}{k:V}(ao:k.isInt=true)(pj:∀e∈es,e.1.isInt=true)(aA:Y9Z)(r:YTo)(eV:YKk){Q:YRO}(h:YRV):YXv:=by
 refine(V.jM ao).elim YsA;subst e;refine eV.elim YsL;refine ix q ?_;have H2:∀(i:Int)(t:Tok),(abT prog w).is i Y71=true:=λi t=>intKind_is prog w i t;refine Y0K;intro ayV ayW;refine wpAny_dictFind_of (knd:=ZDP) (k:=n) (H2 _ t) aA rfl Yrn ?_
 ·exact YyZ λm hm=>(V.jM ZX6).elim λj aM=>(ZBf:ZBQ).elim λu z=>⟨j,aa z Z4T,ZQs (aa aM rfl)⟩
 ·rw[axV,r.findIdx (k:=Y72) ZiO]
  ·exact h
  ·refine(V.jM ZX5).elim λj aM=>(aM▸b:ZBQ).elim λu z=>?_;refine aX z (aj (axW Z4T ..) (dS aM ?_));exact sy ((decide_eq_true_iff.trans eq_comm).trans (beq_iff_eq (a:=j) (b:=n)).symm)
theorem adE{E:Y8}{c:Nat}{xs:Z8}{k:V}(q:YQT)(ao:Yks)(D:YDP)(aA:Y9Z)(r:YTo)(eV:YKk)(bj:Y3W){Q:YRO}(h:YRV):
  YXv:=by
 have isRef:∀{v:V}{x:Value},YLn→Y2m→∃a,Y86:=λaO bg=>(qh q aO).2.1.elim λvs e=>(aV e bg:aK s.heap _ ZZ).gj.imp λa z=>z.elim YYf;have adF:∃l:List (V×Addr×Value),xs=l.map (entryOfKey Z4Y)∧YDa=Y1W∧∀x∈l,(HZ prog w c q).is s.heap x.1 Y2L:=by
  have pj:=D.2;clear D aA h
  induction es generalizing xs with
  |nil=>exact⟨[],Y2O,rfl,YIc⟩
  |cons m es ai=>
   refine r.un λe e6 aJ ak av aP bI=>?_;have Pg:=pj m b3;refine(ai bI λx aq=>pj x ZMT).elim λl z=>(isRef Pg av).elim λb ah=>⟨(m.1,b,e.val)::l,?_,congrArg (m.1::·) Z4,YOK⟩
   ·refine aj aJ (aL mF (aX z.1 (congrArg (·::l.map _) ?_)));show(⟨e.hash,e.key,e.val⟩:DictEntry)=_;refine dT ak (aT ah ?_);rfl
   ·exact YJA (λz=>z▸⟨Pg,aV ah av⟩) (Z3 x)
 refine(isRef ao eV).elim ZhO;subst aD;refine adF.elim λl z=>?_;have at_:∀{j:Nat}{m:Y6A},es[j]?=Y31→∃p,l[j]?=some (m.1,p):=λ{j m}aM=>by
  have:YP5[j]?=some m.1:=by rw[Z4,gy,aM];rfl
  replace this:=aQ (gy) this;exact(Al this).elim λp ar=>⟨p.2,aV Y7V Y8u⟩
 have wt:(YDa).Nodup:=ZfM▸D.1;refine wpAny_dictFind_heap (knd:=Z4Y) (k:=k) bj ⟨ao,eV⟩ aA rfl (z.1) Z3 wt (λuv=>?_) λj p aM=>?_
 ·cases y:Y9K with
  |none=>exact y▸h
  |some i=>exact YzN λv aO=>YvZ λp ar=>absurd ar (uv i p)
 ·have aJ:YP5[j]?=Y6f:=by rw[gy,aM];rfl
  cases y:Y9K with
  |none=>
   have:=et (Z4▸aJ);exact absurd this (ur y).1
  |some i=>
   refine YzN λv aO=>YvZ λdV ar=>?_;have aC:YP5[i]?=Y6f:=by rw[gy,ar];rfl
   have af:j=i:=(xX ((jJ aJ).elim Y6j) wt).mp (aJ.trans aC.symm);exact aa af (y▸h)
theorem D2{E:Y8}{c:Nat}{xs:Z8}{k:V}{Q:YRO}(ao:Yks)(D:YDP)(aA:Y9Z)(r:YTo)(eV:YKk)(bj:Y3W)(h:YRV):
  YXv:=
 Pf ao (λe q=>adC q Zi5 aA r eV h) (λe q=>adD q Zi5 aA r eV h) λq=>adE q ao D aA r eV bj h
theorem yr{E:Y8}{c:Nat}{k:V}{Q:YdQ}(ao:Yks)(eV:YKk)(bj:Y3W)(h:Q ZMq {s with toks:=s.toks+iT k}):wpAny YR A (pyHash key) Q E s:=
 Pa 8 _ _ _ _ (D1 ao) YLk eV h
abbrev dd(A:Around)(k:Nat):Y1:=jd (A.depth+2*k+2<1000) (A.units+20*k+60<9900) Zg
theorem d4(h:YfX):a+60<9900:=DS h YW
theorem dd.D3(r:Z5):A.units+60<cLine:=d4 r.2
theorem dd.ot(r:Z5):Ycp:=fF (dH (dw A.units 1 20)) (fF (c0 (show 1+20≤60 by exact Y2) _) r.D3)
theorem dd.adG(r:Z5):Y3W:=fF (c0 (show 20≤60 by exact Y2) _) r.D3
variable{j:Nat}
theorem dd.le(r:Z5)(h:YmM):dd A j:=⟨fF (h7 (c0 (iu 2 h) _) 2) r.1,fF (h7 (c0 (iu 20 h) _) 60) r.2,r.3⟩
theorem fZ{n:Nat}(h:YB5):ZVy:=Nat.le_trans h YT1
theorem fit{n:Nat}(h:YB5):Y0q<YQS:=Z4Z
def V.iU{α:YKO}(v:V)(d:α)(f:YeG):α:=v.mb d λz=>Int.casesOn z f YId
def gp(Q:Yj)(v:Value)(s:Shared)(mh:ag):Y1:=∃m,Y3Y∧YAC
def adH(Q:Ys)(v:Yn)(s:Shared)(mh:ag):Y1:=∃m,a9 s.heap v m∧YAC
abbrev uw(Q:Y6)(_:Unit)(_:Shared)(mh:ag):Y1:=Q mh
inductive D4(m:ag)(a:Nat)(o:ct)(Q:Yj):Y1
 |mk (t:Nat) (h:YeV):Z3X
variable{Q:Yj}{m:ag}
theorem D4.elim{o:ct}{P:Y1}(h:Z3X)(f:∀t,YeV→P):P:=h.casesOn f
def alloc(mh:ag)(o:ct)(Q:Yj):Y1:=∀a,Y9Q→D4 mh a o Q
inductive wu(p:Y1)(o:Yp)(m:ag)(Q:Yj):Y1
 |mk (l:p) (v:V) (h:o=Ym) (q:Y39):ZeR
abbrev ux(p:Y1)(v:V)(m:ag)(Q:Yj):Y1:=hR p Y39
abbrev D5(p dV:Y1)(v:V)(m:ag)(Q:Yj):Y1:=jd p dV Y39
abbrev D6(p dV D7:Y1)(v:V)(m:ag)(Q:Yj):Y1:=hr p dV D7 Y39
abbrev uy(p:Y1)(b:Bool)(Q:YFF):Y1:=hR p (Q b)
theorem wu.un{p:Y1}{o:Yp}(h:ZeR):p∧∃v,o=Ym∧Y39:=h.casesOn λl v h q=>⟨l,v,h,q⟩
theorem ux.un{p:Y1}{v:V}(h:ux p v m Q):p∧Y39:=ZQD
variable{dV:Y1}
theorem D5.un{p:Y1}{v:V}(h:D5 p dV v m Q):p∧dV∧Y39:=ZQC
theorem D6.un{p D7:Y1}{v:V}(h:D6 p dV D7 v m Q):p∧dV∧D7∧Y39:=h.casesOn λl l' adI q=>⟨l,l',adI,q⟩
theorem uy.un{p:Y1}{b:Bool}{Q:YFF}(h:uy p b Q):p∧Q b:=ZQD
theorem me{X:Yo}{v:Value}{m:V}(t:Nat)(ae:YU)(bz:Y3Y)(h:YAC):hy g X s mh Zi v YrB:=⟨mh,ae.toks t,Step.toks t,m,bz,h⟩
theorem qj{X:Yo}{v:Value}{m:V}(ae:YU)(bz:Y3Y)(h:YAC):hy g X s mh Zi v s:=⟨mh,ae,Yy,m,bz,h⟩
theorem adJ{X:Yo}{v:Value}{m:V}(ae:YU)(b5:Y7m)(cR:Y57)(aA:Y4R)(bz:ZBN)(h:YAC):hy g X s mh Zi v s':=⟨mh,ae.grow b5 cR aA,.grow b5,m,bz,h⟩
theorem hH(h:Heap)(o:Obj):hU h (h.push o):=λO O e=>eu o e
variable{ms:Y3}
theorem D8{X:Yo}{vs:Yn}(ae:YU)(r:ZAr)(h:alloc mh Ybg Q):hy g X s mh Zi Y2C Yr8:=
 (h _ YKq).elim λu q=>⟨_,ae.new (o:=Ybg) (s':=Yr8) Y52 Y1f rfl rfl ⟨vs,0,ZW,ZYO⟩,Step.new (s':=Yr8) Y52 Y1f,_,Y7O,q⟩
theorem D9{X:Yo}{vs:Yn}(ae:YU)(r:ZAr)(ok:hv ms=true)(h:Q (YD ms) mh):hy g X s mh Zi Y2C Zfv:=
 adJ (s':=Zfv) ae Y52 rfl rfl (iz.HK ⟨_,_,rfl,Zmh,ZYO⟩ ok) h
theorem a5.list{P:Y1}(ae:YU)(h:Y0d=some (t,Ybg))(f:∀xs ep,YX4→ZAs→P):P:=YvQ λxs z=>z.elim λep z=>f xs ep z.1 z.2
theorem a5.dict{c:Nat}{P:Y1}(ae:YU)(h:YVp)(f:∀xs ep,Y0u=Y9b→Yj6→YDP→P):P:=YvQ λxs z=>z.elim λep z=>f xs ep z.1 Z4 ⟨YYF,YYG⟩
theorem isList(e:YX4):s.heap.IsList a Z1:=⟨_,e,rfl,ep,rfl⟩
theorem ou(e:YX4):s.TypeIs YA "list":=Yt6
theorem mf{xs:Z8}(e:Y0u=Y9b):s.TypeIs YA "dict":=Yt6
theorem Ea{o o':Obj}{f:Z5v}(aA:YDJ)(hf:f o=o')(adK:o'.isFreed=false):(h.update a f).get? a=YXO:=hf▸q7 f aA (aa hf adK)
theorem pk(e:Y3y):YEb=YQ:=YPF e
theorem eN(xs:Yn):Yvr:=Ac
variable{dF:Value}{cF:Value}
theorem adL{X:Yo}{a b:Y3}(ae:YU)(cG:ZBO)(cP:ZBP)(hz:a.length+b.length≤1000001)(ok:hv YfW=true)(h:Q (YD YfW) mh):fW g A X s mh (binaryOp .Add cF dF) Zi:=by
 refine cG.gj.elim λx q=>q.elim λxs q=>cP.gj.elim λy bS=>bS.elim λbf bS=>?_;have ex:∀{z:Addr}{zs:Yn}{Q':Y1n}{E:Y8},TupAt s.heap z zs→Q' true s→wpAny Yu A.in1 (Builtin.Tuple.tupleIsExact Y3U) Q' E s:=λhz aF=>by
  exact bd (wpAny_typeOf (iz.type hz) YIE)
 refine YBD λn adM=>YL5 λey adN=>aT q.1 (aX Y3F (wpAny_binaryOp_concat YM6 YVH noFill_tuple_add PySem.seq_tuple_add (wpAny_call_entry F.slot_tuple_add YM6 F.entry_tuple_add ?_ (F.args_tuple_add_2 _ _))));show wpAny _ _ (isInstance YA4 Y2i >>= _) _ _ s;refine bd (wpAny_isInstance YVH isSubtype_tuple_tuple ZJa);intro adO adP ayX;refine bd (wpAny_tupleItemsOf adM rfl (bd (wpAny_tupleItemsOf adN rfl ?_)));have nil:∀{zs:Yn}{vs:Y3},(bT zs).isEmpty=true→a9 s.heap zs vs→vs=[]:=λe r=>p5 (cA r.length (cA (eN _) (Array.isEmpty_iff_size_eq_zero.mp e)));by_cases ak:Yvq=true
 ·refine cb Yly ?_;have e:=nil ak Yq;subst e;exact bd (ex YSs (bd (wpAny_rule (bd (wpAny_pure (wpAny_pure ⟨_,rfl,qj ae (aV Y3F cP) h⟩))))))
 ·refine cb Ylq ?_;by_cases av:(bT bf).isEmpty=true
  ·refine cb Ylz ?_;have e:=nil av YAU;clear cP;subst e;replace h:=bN Y1U h;exact bd (ex YG (bd (wpAny_rule (bd (wpAny_pure (wpAny_pure ⟨_,rfl,qj ae (aV q.1 cG) h⟩))))))
  ·refine cb Ylr ?_;have e:Z1++Y6H=bT Yqh:=Ygc;refine Yg;intro Ph Pj adQ;refine bd (wpAny_newObj_type ?_ ?_)
   ·exact aa e (wpAny_pure ⟨_,rfl,D9 (t:=s.toks) ae (q.2.2.append YAU) ok h⟩)
   ·show(Z1++Y6H).size≤sizeLine;exact aX e (aj Y0D (aj cj (aT YMq (aX Yhf YDD))))
theorem Pk{l:Addr}(e:h.get? l=Y85):IsL h l Z1 ep:=e
variable{k8:Nat}
theorem adR{X:Yo}{b hI:Nat}{cF dF:Y3}(ae:YU)(aD:Y0d=some (k8,Y5 cF))(ah:ZUu)(hz:cF.length+dF.length≤1000001)(h:alloc mh (Y5 (cF++dF)) Q):fW g A X s mh (binaryOp .Add YA Y0B) Zi:=
 ae.list aD λxs n aq bg=>ae.list ah λbf k bb gA=>P.add_list (Pk aq) (Pk bb) (aa Ygc (D8 (t:=s.toks) ae (bg.append gA) h)) (aX Y0D (aX Y0D (aT bg.length (aX gA.length YDD))))
theorem adS(v:Value)(n:Nat)(acc:Y1N):Hc Zi7 acc (sl n #[v])=acc++bT Yot:=by
 induction n generalizing acc with
 |zero=>exact(axQ).symm
 |succ n ai=>exact aX axX (aj NI (aj Ygt (HB (by simp[axX]))))
theorem a9.replicate{v:Value}{m:V}(r:ZBI)(n:Nat):a9 h Yot (sl n m):=by
 induction n with
 |zero=>exact rfl
 |succ n ai=>exact a9.cons r ai
theorem adT{X:Yo}{n:Int}{e:V}{tk:Tok}(ae:YU)(aD:ZUs)(az:Y2X)(h0:0≤n)(h:alloc mh (Y5 (sl n.toNat e)) Q):fW g A X s mh (binaryOp YPS YA Ybd) Zi:=by
 refine ae.list aD λxs k aq bg=>bg.un λv vs aJ b6 dv=>?_;have aC:xs=[v]:=aj aJ (congrArg _ dv.jh);subst aC;have ak:1*n.toNat≤1000:=(NJ _).symm▸Int.toNat_le.mpr az;have fx:Builtin.List.listFitsIndex n=true:=lF ⟨decide_eq_true (NK (b:=0) YC h0),decide_eq_true (Hb az YC)⟩;refine wpAny_binaryOp_repeat_ref (T:="list") (U:="int") YC YWN (λs'=>typeIs_int s' _ tk) noFill_list_mul F.fills_int_mul F.slot_int_rmul repeat_list F.slot_int_index.lookup
  (call_meets F.slot_int_rmul (typeIs_int s _ tk) F.entry_int_rmul (F.args_int_rmul_2 _ _) (int___rmul___int_list _ tk a Yhh k)
   ⟨aq,rfl,YWN,call_meets F.slot_list_mul YWN F.entry_list_mul (F.args_list_mul_2 _ _)
    (AutoListH.list___mul___list_int_3 a Yhh k n tk (λh=>nb (fx.trans h.symm)) (sm (au (m:=1000) ak Y2)) (λh=>absurd ZWR (sm (fZ (au ak Y2)))))
    ⟨aq,?_⟩⟩)
 have e:Hc Zi7 #[] (sl (if(bT [v]).isEmpty=true then 0 else n.toNat) Yhh)=bT (sl n.toNat v):=(adS v n.toNat #[]).trans axP;exact aa e (D8 (t:=s.toks) ae (a9.replicate b6 n.toNat) h)
theorem adU{X:Yo}{n:Nat}{e:V}{tk:Tok}(ae:YU)(aD:ZUs)(az:Y2X)(h:alloc mh (Y5 (sl n e)) Q):fW g A X s mh (binaryOp YPS YA (YI Y0q tk)) Zi:=
 adT ae aD (Dk.mpr az) Yq9 h
theorem adV{X:Yo}{v:Value}{m:V}{t:Tok}(ae:YU)(r:ZBS)(hz:Y2a)(e:YIA=Y31)(h:YAC):fW g A X s mh (getItem v (YI Y3l t)) Zi:=by
 refine r.gj.elim λa q=>q.elim λxs q=>(q.2.2.get e).elim YOK;have aE:ZRC:=(jJ Y4H).elim Y6j;refine aT q.1 (getItem_tuple (items:=Z1) ZXl (NK (b:=0) YC YXp) (fit (au (h9 (YMq▸aE)) hz)) (j:=i) ?_ YWc ZYB);unfold seqIndex?;refine ZCm;have:¬Y3l<0:=Int.not_lt.mpr YXp;simp[this,aE]
theorem adW{X:Yo}{m:V}{tk:Tok}(ae:YU)(e:Y3w)(hz:Y2a)(ig:YIA=Y31)(h:YAC):fW g A X s mh (getItem YA Z0h) Zi:=
 ae.list e λxs ep aA bg=>(bg.get ig).elim λx aq=>wpAny_getItem_list (items:=Z1) YDS YXp (fit (au (h9 ((jJ ig).elim Y6j)) hz)) YWc ZYB
theorem Pl{f:Z2t}{bf:Y1N}(e:f Z1=bf):l7 f ZSM=⟨Y4e,none,Y47 bf (if bf.size==Y2N then ep else Y96),#[]⟩:=ZCN
theorem AE{X:Yo}{tk:Nat}{e6:Yn}{f:Z2t}{R:YCU}(ae:YU)(e:Y3w)(aA:YX4)(hf:f Z1=bT e6)(bo:∀h',ZMl)(h:R () Zfw ZcX):hy g X s mh R () Zfw:=
 ade ae e YMJ (Ea (o':=jZ e6 (if(bT e6).size==Y2N then ep else Y96)) aA (Pl hf) rfl) ZHN tk h
theorem hy.re{X:Yo}{R:YBZ}{sE:β→Y3X}{a:α}{b:β}(h:hy g X s mh R a s')(f:∀m,Yjj→R a s' m→sE b s' m):hy g X s mh sE b s':=h.imp λm z=>⟨z.1,z.2,f m YIN z.3⟩
theorem adX{X:Yo}{v:Value}{m:V}(ae:YU)(e:Y3w)(hz:YXs)(bz:Y3Y)(h:Q Y7 ZcU):fW g A X s mh (call YPX [YA,v]) Zi:=
 ae.list e λxs ep aA bg=>call_meets abV YDp F.entry_list_append ZFO (axZ a Z1 ep v ZEJ)
  ⟨aA,(AE (R:=λO O ab=>ab=ZcU) (tk:=s.toks) ae e aA Ygd (λO kt=>Yvu (a9.cons YL9 a9.nil)) rfl).re ZgU⟩
theorem adY{X:Yo}{dF:Y3}{b hI:Nat}(ae:YU)(e:Y3w)(cM:ZUu)(hz:vs.length+dF.length≤1000000)(h:Q Y7 ZcV):fW g A X s mh (call (ZK "list.extend") [YA,Y0B]) Zi:=
 ae.list e λxs ep aA bg=>ae.list cM λbf adZ wo gA=>
 have aE:Y2N+YOf≤sizeLine:=by rw[eN,eN,bg.length,gA.length];exact YGe
 call_meets F.slot_list_extend YDp F.entry_list_extend (F.args_list_extend_2 _ _)
  (AutoSeq1.list_extend_list_list_0 a Z1 ep b Y6H adZ (λh=>absurd ZWO (sm aE)) (aj Y0D (aj bg.length (fZ (au Yk ZTR)))) (kn aE))
  ⟨aA,wo,(AE (R:=λO O ab=>ab=ZcV) (tk:=s.toks) (f:=(·++Y6H)) ae e aA Ygc (λO kt=>Yvu (gA.keep kt)) rfl).re ZgU⟩
theorem a9.eraseIdx{xs:Yn}(r:Y0z)(i:Nat):a9 h YNk (vs.eraseIdx i):=by
 induction vs generalizing xs i with
 |nil=>exact YSN
 |cons u vs ai=>
  refine YMw
  cases i with
  |zero=>exact aa aJ b
  |succ i=>exact aa aJ ZAt
theorem Pm(xs:Yn)(i:Nat):Yvp:=by
 refine ZES
 split
 ·exact ax1 ..
 ·rename_i q;exact ZGn
theorem ad0{X:Yo}{m:V}(ae:YU)(e:Y3w)(hz:YXs)(aE:vs[YqD]?=Y31)(h:Q m ZcW):fW g A X s mh (call Z0E Y8l) Zi:=
 ae.list e λxs ep aA bg=>(bg.get aE).elim λx aq=>by
  have fa:Y2N - 1=YqD:=congrArg (· - 1) (YJC bg.length);refine call_meets NL YDp F.entry_list_pop (F.args_list_pop_1 _) (MeetsSeq.list_pop_last a Z1 ep x (aa fa YWc) ZEJ)
   ⟨aA,(AE (R:=λO O ab=>ab=ZcW) (tk:=s.toks) ae e aA Z6h (λO kt=>fa▸Yvv _) rfl).re λO kt q=>⟨m,Yh4,YHf⟩⟩
theorem ad1{X:Yo}{m:V}{tk:Tok}(ae:YU)(e:Y0d=some (t,Y5 (m::vs)))(hz:vs.length≤999999)(h:Q m ZcY):fW g A X s mh (call Z0E [YA,YI 0 tk]) Zi:=
 ae.list e λxs ep aA bg=>(bg.get (i:=0) rfl).elim λx aq=>
  call_meets NL YDp F.entry_list_pop (F.args_list_pop_2 _ _) (MeetsSeq.list_pop_at a Z1 ep 0 tk 0 x YC (PyProof.Rows.seqIndex?_zero (aL Y0D (aL bg.length Y3I))) YWc (aj Y0D (aj bg.length (fZ (kn (dX hz))))))
   ⟨aA,(AE (R:=λO O ab=>ab=ZcY) (tk:=s.toks) ae e aA Z6h (λO kt=>Yvv 0) rfl).re λO kt q=>⟨m,Yh4,YgX⟩⟩
theorem ad2{X:Yo}{v:Value}{m:V}{Q:Y6}{n:Int}{tk:Tok}(ae:YU)(e:Y3w)(ad3:n<YQS)(h0:0≤n)(af:n.toNat<vs.length)(bz:Y3Y)(h:Q (upd mh a (t,Y5 (vs.set n.toNat m)))):fW g A X s mh (setItem YA Ybd v) YE8:=
 ae.list e λxs ep aA bg=>by
  have aM:n.toNat<xs.length:=aa bg.length af;refine Yg;intro ayY ayZ ay0;refine wpAny_holding (bd (wpAny_sequenceKey YDp YC (bd (wpAny_callSpecial?_slot (name:=ZNF) YDp F.slot_list_setitem (wpAny_call_entry F.slot_list_setitem YDp F.entry_list_setitem ?_ (F.args_list_setitem_3 _ _ _))))));show wpAny _ _ (Builtin.List.listSubscript? Ybd >>= _) _ _ s;refine Yg;intro ay1 ay2 ay3;refine bd (wpAny_listSubscript_int (fitsIndex_of h0 ad3) ?_);clear af;obtain⟨j,rfl⟩:=ax3 h0;show wpAny _ _ ((seqItemAt a j >>= λr=>pure (r.map (j,·))) >>= _) _ _ s;refine bd (bd (wpAny_seqItemAt aA rfl (wpAny_pure (aa (pk (dy (aM:ZSE))) ?_))));show wpAny _ _ (setSeqItemAt a j v >>= _) _ _ s;refine Yg;intro ay4 ay5 ay6;exact bd (wpAny_setSeqItemAt aA rfl (wpAny_pure ⟨Y7,rfl,wpAny_pure (AE (R:=YE8) (tk:=s.toks) ae e aA (List.setIfInBounds_toArray ..) (λO kt=>(bg.keep kt).set _ YL9) h)⟩))
theorem ad4{X:Yo}{v:Value}{m:V}{Q:Y6}{tk:Tok}(ae:YU)(e:Y3w)(hz:Y2a)(af:Y7p)(bz:Y3Y)(h:Q (upd mh a (t,Y5 (vs.set i m)))):fW g A X s mh (setItem YA Z0h v) YE8:=
 ad2 ae e (fit (au YUw hz)) YXp af bz h
theorem Eb{xs:Z8}{x:DictEntry}(e:Y3y):YEb=YQ:=YPF e
theorem AF(xs:Z8):Yvr:=Ac
variable{ec:V}
theorem H3{c:Nat}{Q:Y5N}{xs:Z8}(ao:Y9C)(D:YDP)(aA:Y9Z)(r:Yj6)(eV:YAO)(bj:Y3W)(h0:ZJ1=none→Q none Y87)(ak:∀v m,YiP→Y3Y→Q Ym Y87):WP g A ZLW Q s:=by
 refine wpAny_holding (bd (yr ao eV bj (bd (D2 (s:=Y87) ao D aA r eV bj ?_))))
 cases z:YM8 with
 |none=>exact wpAny_pure (h0 YNV.2.1)
 |some i=>
  exact YbB λm hm=>YyY λe he=>bd (wpAny_dictEntries (s:=Y87) aA rfl (aa YdC (wpAny_pure (ak e.val m Y7n.1 YlV.2))))
theorem Ec{X:Yo}{c:Nat}{kq:dm}{xs:Z8}{Pn tk:Nat}{f:Z5v}{R:YCU}(ae:YU)(e:YB3)(aA:Y9Z)(hf:f YLm=gU e6 Pn)(bo:∀h',ZMm)(D:ie c kq)(h:R () Zfx (upd mh d (t,YbT))):hy g X s mh R () Zfx:=
 adf ae e YMJ (Ea aA hf rfl) ZHN D.1 D.2 tk h
theorem ie.mod{c:Nat}{m:V}{i:Nat}(D:YDP):ie c (es.modify i λe=>(e.1,m)):=by
 refine⟨adz i m D.1,?_⟩;have aR:=D.2;clear D
 induction es generalizing i with
 |nil=>cases i <;> exact aR
 |cons e es ai=>cases i with
  |zero=>exact λx aq=>YJA (λz=>z▸ZC1) λz=>aR x ZMV
  |succ i=>exact λx aq=>YJA (λz=>aa z ZC1) λz=>ai (λy bb=>aR y Yjf) x z
theorem ie.snoc{c:Nat}{m:V}(D:YDP)(ao:Y9C)(z:YM8=none):ie c ZNH:=⟨adB D.1 YNV.1,λe he=>(iw he).elim (D.2 e) λq=>YG9▸ao⟩
theorem ie.erase{c:Nat}(i:Nat)(D:YDP):ie c YUH:=⟨adA i D.1,λe he=>D.2 e (List.mem_of_mem_eraseIdx he)⟩
theorem ad5{xs:Z8}{v:Value}:Obj.mapDict (·.modify i ZiV) YLm=gU (xs.modify i ZiV) ep:=
 congrArg (λl=>(⟨YA7,none,Y9 l ep,#[]⟩:Obj)) (List.modify_toArray ..)
theorem map_push{xs:Z8}{e:DictEntry}:Hd (YrH e) YLm=gU (xs++[e]) Y96:=congrArg ZjR Ygd
theorem Po(xs:Z8)(i:Nat):Yvp:=by
 refine ZES
 split
 ·exact ax1 ..
 ·rename_i q;exact ZGn
theorem ad6{xs:Z8}:Hd Yzh YLm=gU YNk Y96:=congrArg ZjR (Po xs i)
theorem Pp{xs:Z8}(r:Yj6)(hz:Y6N):Yvs:=ZE7
theorem d2.nil:d2 w h [] []:=rfl
theorem ad7{X:Yo}{c:Nat}{m:V}{v:Value}{R:YCU}(ae:YU)(e:YB3)(ao:Y9C)(eV:YAO)(bz:Y3Y)(bj:Y3W)(hz:Y6N)(h:Zm6):WP g A (dictSetHashed d key (ef g.w ec) v) YV5 s:=by
 refine ae.dict e λxs ep aA r D=>Yg;intro ay7 ay8 ay9;refine wpAny_holding (bd (D2 ao D aA r eV bj ?_));clear bj
 cases z:YM8 with
 |some i=>
  exact YbB λaza hm=>bd (wpAny_rule (bd (wpAny_updateDict aA rfl (wpAny_point (Ec (tk:=s.toks) ae e aA ad5 (λO kt=>(r.keep kt).modify YL9 i) D.mod ((Y7n.2.1 m▸h) _))))))
 |none=>
  refine Yg;intro azb azc azd;exact bd (wpAny_rule (wpAny_updateDictKeys aA rfl (Ec (tk:=s.toks) ae e aA map_push Zgp Z3V ((YNV.2.2 m▸h) _)) (Pp r hz)))
theorem H4{X:Yo}{c:Nat}{m:V}{v:Value}{R:YCU}(ae:YU)(e:YB3)(ao:Y9C)(eV:YAO)(bz:Y3Y)(bj:Y3W)(hz:Y6N)(h:Zm6):WP g A ZLY YV5 s:=by
 exact wpAny_holding (bd (yr ao eV bj ((ad7 (ae.toks YHj) e ao eV bz bj hz h).mono λO O z=>z.go (Step.toks YHj))))
theorem ad8{X:Yo}{c:Nat}{m:V}(ae:YU)(aG:Z5)(e:YB3)(ao:Y9C)(eV:YAO)(cR:YiP)(h:YAC):fW g A X s mh (getItem Y35 key) Zi:=
 ae.dict e λxs ep aA r D=>by
  refine Y0K;intro aze azf;refine wpAny_holding (bd (wpAny_sequenceKey Y55 YC (bd (wpAny_callSpecial?_slot (name:=er "__getitem__") Y55 slot_dict_getitem (wpAny_call_entry slot_dict_getitem Y55 entry_dict_getitem ?_ (args_dict_getitem _ _))))));show Zdv;refine Yg;intro ad9 aea aeb;exact bd (H3 ao D aA r eV aG.ot (λq=>absurd (cA q cR) YZ9) λx O q bz=>wpAny_pure ⟨x,rfl,wpAny_pure (me _ ae bz ((c4 q cR)▸h))⟩)
theorem aec{X:Yo}{c:Nat}{m:V}{v:Value}{Q:Y6}(ae:YU)(aG:Z5)(e:YB3)(ao:Y9C)(eV:YAO)(bz:Y3Y)(hz:Y6N)(h:Q YXl):fW g A X s mh (setItem Y35 key v) YE8:=
 ae.dict e λxs ep aA r D=>by
  refine wpAny_holding (bd (wpAny_sequenceKey Y55 YC (bd (wpAny_callSpecial?_slot (name:=ZNF) Y55 slot_dict_setitem (wpAny_call_entry slot_dict_setitem Y55 entry_dict_setitem ?_ (args_dict_setitem _ _ _))))));show wpAny _ _ (Builtin.Dict.notOrdered "__setitem__" ⟨YfF,[]⟩ >>= _) _ _ s;refine Yhl;show wpAny _ _ (ZLY >>= _) _ _ s;refine Y0K;intro aed aee;exact bd ((H4 (R:=YE8) ae e ao eV bz aG.ot hz λO=>h).mono λO O z=>wpAny_pure ⟨Y7,rfl,ZeI⟩)
theorem a5.ys{x:Nat}{c:Y1E}(ae:YU)(lo:YEW)(e:mh x=Y0M)(mN:c.2.DL=false:=by rfl):(x==sysModules)=false:=
 beq_false_of_ne λq=>lo.elim λo aA=>ae.off aA e mN q.symm
theorem aef{X:Yo}{c:Nat}{m:V}{v:Value}(lo:YEW)(ae:YU)(aG:Z5)(e:YB3)(ao:Y9C)(eV:YAO)(bz:Y3Y)(h:Q ((c8 es ec).getD m) mh):
  fW g A X s mh (call (ZK "dict.get") YfF) Zi:=
 ae.dict e λxs ep aA r D=>by
  refine wpAny_call_entry F.slot_dict_get Y55 F.entry_dict_get ?_ (F.args_dict_get_3 _ _ _);show Zdv;refine bd (H3 ao D aA r eV aG.ot YBa λx ab q H5=>wpAny_pure ⟨x,rfl,me _ ae H5 ZI6⟩);show wpAny _ _ (Builtin.Dict.missed d key >>= _) _ _ _;exact bd (wpAny_missed_other Ygq (wpAny_pure ⟨v,rfl,me _ ae bz ZI6⟩))
theorem aeg{X:Yo}{c:Nat}{m:V}{v:Value}(lo:YEW)(ae:YU)(aG:Z5)(e:YB3)(hz:Y6N)(ao:Y9C)(eV:YAO)(bz:Y3Y)(h:(c8 es ec).elim (Q m YXl) YsQ):fW g A X s mh (call (ZK "dict.setdefault") YfF) Zi:=
 ae.dict e λxs ep aA r D=>by
  refine wpAny_call_entry ax4 Y55 F.entry_dict_setdefault ZGv (F.args_dict_setdefault_3 _ _ _);show wpAny _ _ (pure (d,key,Ym)) _ _ s;refine Zm;show wpAny _ _ (if YjB=true then _ else(dictSetDefault d key v >>= _)) _ _ s;refine cb (if_neg (dS Ygq h8)) (bd Y0K);intro azg azh;refine wpAny_holding (bd (yr ao eV aG.ot (bd (D2 (s:=Y87) ao D aA r eV aG.ot ?_))))
  cases z:YM8 with
  |some i=>
   refine YzO;replace h:=lG Y7n.1 h;exact bd (wpAny_dictEntries (s:=Y87) aA rfl (iy YdC (bd (wpAny_rule (wpAny_pure (wpAny_pure ⟨_,rfl,me _ ae YlV.2 h⟩))))))
  |none=>
   have q:=YNV
   (replace h:=lG YG h;rw[Yq m]at h)
   exact bd (wpAny_rule (bd (wpAny_updateDictKeys (s:=Y87) aA rfl (wpAny_pure (wpAny_pure ⟨_,rfl,(Ec (R:=λO O ab=>ab=upd mh d (t,Y9 c ZNH)) (tk:=YHj) ae e aA map_push
    Zgp Z3V rfl).re λO kt q=>⟨m,YL9,YHf⟩⟩)) (Pp (s:=s) r hz))))
theorem aeh{X:Yo}{c:Nat}{m:V}(ae:YU)(aG:Z5)(e:YB3)(hz:Y6N)(ao:Y9C)(eV:YAO)(cR:YiP)(h:Q m (upd mh d (t,Y9 c (qi es ec)))):
  fW g A X s mh (call (ZK "dict.pop") [Y35,key]) Zi:=
 ae.dict e λxs ep aA r D=>by
  refine wpAny_call_entry F.slot_dict_pop Y55 F.entry_dict_pop Yg (F.args_dict_pop_2 _ _);intro azi azj azk;refine ZGv;show wpAny _ _ (pure (d,key,none)) _ _ s;refine Zm
  cases z:YM8 with
  |none=>exact absurd (YNV.2.1.symm.trans cR) YZ9
  |some i=>
   refine YzO;have em:=c4 Y7n.1 cR;subst em;rw[Y7n.2.2]at h;have ne:Yvq=false:=by
    cases xs with
    |nil=>exact cW he.1.symm
    |cons x l=>rfl
   have tk:WP g A.in1 ZFN (λr s'=>r=Zal∧s'=YrA) s:=by
    refine wpAny_holding (bd (yr ao eV aG.ot (bd (D2 (s:=Y87) ao D aA r eV aG.ot (iy z Y0K)))));intro aei aej;refine bd (wpAny_dictEntries (s:=Y87) aA rfl (iy YdC ?_));exact bd (wpAny_updateDictKeys (s:=Y87) aA rfl (wpAny_pure Zn) ZE7
     (aX (Po ..) (aj Ycr (aj Ycr (dS r.length (kn (aV r.length (List.length_eraseIdx_le xs i):(xs.eraseIdx i).length≤es.length)))))))
   have fin:∀{α:Y4k}{f:Z5y→Y7I}{P:Y9f},WP g A.in1 (f Zal) P YrA→
     WP g A.in1 (ZFN >>= f) P s:=λh=>bd (tk.mono λO O bo=>jg Y4t (aL YGC h))
   have po:hy g X s mh Zi fq.val YrA:=
    (Ec (R:=λO O ab=>ab=upd mh d (t,Y9 c YUH)) (tk:=YHj) ae e aA ad6 (λO kt=>(r.keep kt).eraseIdx i) (D.erase i) rfl).re λEd kt q=>⟨_,YlV.2.keep kt,YgX⟩
   dsimp only
   cases keyPart key with
   |some _=>
    exact bd (wpAny_pure (cb Y2u ZOV))
   |none=>
    refine bd (wpAny_dictEntries aA rfl YGB)
    (refine aa ne YTd)
    exact ZOV
def V.isBool(v:V):Bool:=v.Ay false Y2A
def j2(a b:V):Bool:=ZAN||(dI a 8&&(dI b 8&&YAb))
theorem V.Ee{v:V}(h:v.isBool=true):∃n,v=YK n:=by cases v with | bool n=>exact YtF | _=>exact Y0L
theorem Pq{a b:V}{P:Y1}(h:YmC)(ak:∀x y,a=YJY→b=YPW→P)(av:ZKq→dI b 8=true→ZJz→P):P:=
 Y8P (λq=>have q:=YAX;(V.Ee q.1).elim λx e=>(V.Ee q.2).elim λy bk=>ak x y e bk) λq=>have q:=YAX;have bS:=cL q.2;av q.1 Y3F Y1p
theorem aek{a b:Bool}{E:Y8}{P:Y1n}(h:P YKg s):wpAny YR A (eqBool (YK a) Y1x) P E s:=by
 refine YXw
 cases a <;> cases b <;> first | exact Yhn | exact Y1u | (exact bd (eq_bool (wpAny_truthy_bool h)))
theorem Pr{a b:V}{P:Y1n}{E:Y8}(he:YmC)(bj:Y3W)(cG:YSB)(cP:YSC)(h:P Y1S s):wpAny YR A (eqBool cF dF) P E s:=
 Pq he (λx y e bk=>by subst e bk;exact aa (cG:cF=YJY) ((cP:dF=YPW)▸aek h)) λd eJ c=>yq _ 8 8 _ _ _ _ _ d eJ c YLk cG cP h
theorem Pt{a b:V}{v:Value}(he:YmC)(cG:aK h v a)(cP:aK h v b):a=b:=
 Pq he (λx y e bk=>by subst e bk;exact congrArg V.bool (ax6 (cA (cG:v=YJY) cP))) λd eJ O=>aK.inj _ _ _ _ _ d eJ cG cP
open Classical in
theorem Pu{x:V}{xs:Yn}(he:YXq)(r:Y0z):(xs.any λy=>decide (aK h y x))=YXr:=by
 induction vs generalizing xs with
 |nil=>refine aT r.jh ?_;rfl
 |cons m vs ai=>
  refine r.un λy bf e a b=>dG he λbD bC=>aT e (aL Ae (aj Ae (aX (ai bC b) (congrArg (·||YXr) ZbH))))
open Classical in
theorem Pw{x:V}{Px:Value}{xs:Yn}(bj:Y3W)(he:YXq)(r:Y3B)(bg:aK s.heap Px x)(y:Value)(bb:y∈Z1):SeqAt.EqAt A s y Px YTx:=by
 have bb:y∈xs:=Dv bb
 induction vs generalizing xs with
 |nil=>exact absurd (aV r.jh bb) cS
 |cons m vs ai=>
  refine r.un λz zs e a b=>dG he λbD bC=>(dz (aV e bb)).elim YBa λq=>ai bC b (List.mem_toArray.mpr q) q;subst q;have:YTx=b8 m x:=ZbH;exact aL this (λO O O O aF=>Pr bD bj a bg aF)
theorem range_all{a b:Y3}(h:Y7L):(di a.length).all YYy=YAu:=by
 refine sy (NC.trans (Iff.trans ⟨λq=>NM λj=>?_,λq j O=>decide_eq_true (congrArg (λl:Y3=>l[j]?) q)⟩ DP.symm));rcases Nat.lt_or_ge j a.length with aM | aM
 ·exact of_decide_eq_true (q j (og aM))
 ·exact aj (p6 aM) ((p6 (aV h aM)).symm)
theorem H6{a b:Y3}(bj:Y3W)(he:YOb)(aE:Y7L)(bg:a9 s.heap xs a)(gA:a9 s.heap bf b)(j:Nat)(ak:j<Y2N)(av:j<YOf):SeqAt.EqAt A s Z1[j] Y6H[j] YGU:=by
 have uz:ZSE:=aa ZMW ak;have mQ:j<bf.length:=aa (eN bf) av;have dC:=bg.length▸uz;have du:=gA.length▸mQ;refine(bg.get ZLn).elim λx aq=>(gA.get ZLo).elim YOL;have ex:Z1[j]=x:=(ax7 ak).trans (c4 (dy uz) Y4H);have fy:Y6H[j]=y:=(ax7 av).trans (c4 (dy mQ) Y7b);have hm:(a[j],b[j])∈a.zip b:=et (i:=j) (List.getElem?_zip_eq_some.mpr ⟨dy _,dy _⟩);have aF:YGU=b8 a[j] b[j]:=sy (decide_eq_true_iff.trans (by refine aT ZLn (aX ZLo (aj (Option.some.injEq ..) ?_));exact uq.symm));exact d9 ex (aj fy (aL aF (λO O O O q=>Pr (ju he _ hm) bj Y6F Y7c q)))
theorem dd.bD(r:Z5):A.units<cLine:=fF Yk r.D3
theorem Py{a b:Y3}(h:¬Y7L):YAu=false:=HA λq=>h (congrArg l5 (DP.mp q))
theorem H7(r:Y0z)(hz:Y2a):Yvs:=aj Y0D (aj r.length YDD)
theorem Pz{a b:Y3}(r:ZAl)(bI:ZAi)(q:¬Y7L):(Y2N !=YOf)=true:=bne_iff_ne.mpr λe=>q ((cA r.length (cA ZMW e)).trans ((eN bf).trans bI.length))
theorem size_eq{a b:Y3}(r:ZAl)(bI:ZAi)(q:Y7L):Y2N=YOf:=YJC (r.length.trans (q.trans (cA bI.length (eN bf).symm)))
abbrev sH(R:Y8)(s:Shared)(b:Bool):Y1:=∀tk,Z7E
variable{y:Nat}
theorem ael{R:Y8}{x AG ty:Nat}{a b:Y3}{E:Y8}(ae:YU)(aG:Z5)(aD:ZUx)(ah:ZUy)(he:ZAO)(h:sH R s YAu):
  wpAny Yu A (compareOp .Eq Y1m YA4) R E s:=
 ae.list aD λxs n ak b6=>ae.list ah λbf m av dv=>by
  by_cases q:Y7L
  ·refine SeqAt.eq_listAt (e:=YYy) YM4 YVE ZZg aG.bD Z4U ?_
   (refine aa Y0D (aa b6.length (aX ZYg ?_)))
   exact YDI
  ·exact SeqAt.eq_list_lengthsAt YM4 YVE Z6m aG.bD (Py q▸YDI)
theorem aem{R:Y8}{x AG ty:Nat}{a b:Y3}{E:Y8}(ae:YU)(aG:Z5)(aD:ZUx)(ah:ZUy)(he:ZAO)(h:ZZW):
  wpAny Yu A (compareOp YJW Y1m YA4) R E s:=
 ae.list aD λxs n ak b6=>ae.list ah λbf m av dv=>by
  by_cases q:Y7L
  ·refine SeqAt.RcNeAt.lists (e:=YYy) YM4 YVE ZZg aG.bD Z4U _ _ _ _ ?_
   (refine aa Y0D (aa b6.length (dU ZYg ?_)))
   exact YDI
  ·exact SeqAt.RcNeAt.lists_lengths YM4 YVE Z6m aG.bD _ _ _ _ (by have:=YDI;replace this:=k7 (Py q) this;exact this)
theorem aen{R:Y8}{a b:Y3}{E:Y8}(aG:Z5)(cG:ZBO)(cP:ZBP)(aE:Y7L)(he:YOb)(h:ZZW):wpAny Yu A (compareOp YJW cF dF) R E s:=by
 refine cG.gj.elim λx q=>q.elim λxs q=>cP.gj.elim λy bS=>bS.elim λbf bS=>ix q.1 (jg Y3F (SeqAt.RcNeAt.tuples (e:=YYy) ZXl ZGj aG.bD (H6 aG.ot he aE Yq YAU) _ _ _ _ ?_))
 (refine aV ((size_eq Yq YAU aE)) (aa (abX ..) (aa Y3G (dU Z3A (aa Y0D (aa YMq (dU (range_all aE) ?_)))))))
 exact YDI
theorem aeo{R:Y8}{x:V}{E:Y8}(aG:Z5)(cG:Yg1)(cP:aK s.heap dF ZZ)(he:YXq)(h:ZZX):wpAny Yu A ZJx R E s:=by
 classical
 exact cP.gj.elim λy bS=>bS.elim λbf bS=>jg Y3F (SeqAt.in_tupleAt Zl7 ZGj (Pw aG.ot he YAU cG) (aX List.any_toArray (aa (Pu he YAU) YDI)))
theorem PA{R:Y8}{x:V}{E:Y8}(ae:YU)(aG:Z5)(cG:Yg1)(ah:mh y=Y1h)(he:YXq)(h:ZZX):Zdh:=by
 classical
 exact ae.list ah λxs n ak bg=>SeqAt.in_listAt Zl7 YM4 (Pw aG.ot he bg cG) (aX List.any_toArray (aa (Pu he bg) YDI))
theorem PB{R:Y8}{x:V}{c:Nat}{E:Y8}(lo:YEW)(ae:YU)(aG:Z5)(cG:Yg1)(ah:mh y=Y3i)(ao:YUm)(h:sH R s Yw3):Zdh:=
 ae.dict ah λxs ep aA r D=>by
  show wpAny _ _ (do return abY (←contains YA4 cF)) _ E s;refine bd (wpAny_holding (bd (wpAny_specialOf Y55 slot_dict_contains.lookup ?_)));show wpAny _ _ (if(some (Value.builtin "dict.__contains__")==some l6)=true then _ else _) _ E s;refine cb ZRQ Y0K;intro azl azm;refine bd (wpAny_callSpecialUnlessNone?_slot (name:=er "__contains__") Y55 slot_dict_contains
   (wpAny_call_entry slot_dict_contains Y55 entry_dict_contains ?_ (args_dict_contains _ _)))
  show wpAny _ _ (dictGet y cF >>= _) _ _ s;refine Yg;intro azn azo azp;refine bd (wpAny_mono (H3 (Q:=λo s'=>o.isSome=Yw3∧∃tk,s'=YIS) ao D aA r cG aG.ot (λq=>ZnG) λv m q O=>ZnG) (λo s' z=>YIO λtk e=>?_) Y0E);subst e
  cases o with
  |none=>
   show wpAny _ _ (Builtin.Dict.pendingKey? y cF >>= _) _ _ _;refine Y0K;intro azq azr;exact bd (wpAny_pendingKey_other (ae.ys lo ah) ZeK)
  |some v=>exact ZeK
theorem H8{R:Y8}{E:Y8}(h:wpAny Yu A ZJx YsP E s):wpAny Yu A (compareOp YPT cF dF) R E s:=by
 have h:wpAny Yu A (ZKG >>= λb=>pure (abY b)) YsP E s:=h;show wpAny Yu A (ZKG >>= λb=>pure (abY (!b))) R E s;intro pn p Ef;have:=ZPr
 (rw[NN]at this;refine ZCi)
 exact abZ _ pn _ (λO O O ah=>ah.elim λO q=>(ax6 q.1).symm▸q.2) (λO O O x=>x) p s this
theorem H9{R:Y8}{b:Bool}(h:sH R s (!b)):sH YsP s b:=λtk=>⟨b,rfl,h tk⟩
abbrev bG:=List Yp
variable{r:bG}
theorem Eg{m v:V}(h:ZYP[j]?=Y0e):(j=i∧v=m)∨(j≠i∧ZYf):=by
 rw[List.getElem?_set]at h;by_cases q:i=j
 ·rw[ZU]at h;by_cases l:i<r.length
  ·rw[if_pos l]at h;exact YY ⟨q.symm,(cu Y4v).symm⟩
  ·rw[if_neg l]at h;exact Y08
 ·rw[ZN]at h;exact YJ ⟨λe=>q e.symm,h⟩
abbrev de(g:G)(env:Env)(ns:YH)(r:bG)(mh:ag)(s:Shared):Y1:=yd Yju ZN3 ZN2 ns.Nodup (∃m,s.heap.Ns env.locals m∧∀(i:Nat)(n:Str)(v:V),Y6Y→YBG→YUC→∃x,m n=YQ∧Y2m) (mh env.locals=none∧g.h₀.get? env.locals=none) (∀(i:Nat)(n:Str)(v:V),Y6Y→YBG→Yjr→∃c x,YLa∧s.heap.IsCell c YQ∧Y2m) (∀n c,YLa→(mh c=none∧g.h₀.get? c=none)∧∃v,s.heap.IsCell c v) (∀n ey c,YLa→env.cells.lookup ey=Y0M→n=ey)
def nF(env:Env)(a:Nat):Y1:=ZAw∨∃n,YUA
def envX(env:Env)(a:Nat):Y1:=ZAw∨∃n,YUB∧YUA∧ZN5
variable{env:Env}
theorem yt(h:Yjv):YMa:=h.imp id λq=>q.imp λn q=>YG
def Stores(env:Env)(n:Str):Y1:=YUC∨YUB∧∃c,YLa∧env.locals<c
theorem AH{a:Addr}{m:YAG}(n:ZQB)(e:Zlx):h'.Ns a m:=n.imp λo q=>q.imp λes q=>q.imp λep q=>ZnK
theorem uA{a:Addr}{v:Y0F}(n:h.IsCell a v)(e:Zlx):h'.IsCell a v:=n.imp λo q=>ZnK
theorem AI{a:Addr}{m:YAG}(n:ZQB):∃o es ep,YDJ∧YWC:=n.imp λo q=>q.imp λes q=>q.imp λep q=>⟨q.1,YG⟩
theorem de.step{X:Yo}(x:Y1d)(st:YFg)(h0:∀a,YMa→¬X a):ZLF:=
 ⟨x.1,
  x.2,
  x.3,
  x.4,
  Yqb λm q=>⟨AH q.1 λO e=>Y0f _ _ e YY3 ZQK,λi n v ak av aP=>Yav λO z=>⟨z.1,Y9e Y5k⟩⟩,
  YY2 λm q=>(AI q.1).elim λo q=>q.elim λO q=>q.elim λO q=>⟨st.out q.1 YY3,x.6.2⟩,
  λi n v ak av aP=>YzW λc q=>q.imp λy q=>⟨q.1,uA YG λO e=>Y0f _ _ e (x.8 _ _ q.1).1.1 ZQM,YDt Y5k⟩,
  λn c h=>have q:=Zed;⟨⟨YHe λO z=>z.elim λO z=>st.out z.1 YWm,q.1.2⟩,YMr λO z=>uA z λO e=>Y0f _ _ e YWm ZQL⟩,
  x.9⟩
theorem de.ez(x:Y1d)(st:Yer):ZLF:=x.step st λO O h=>h.elim
theorem de.Ia{bI:bG}(x:Y1d)(h:∀(i:Nat)(v:V),bI[i]?=Y0e→YBG):de g env ns bI mh s:=
 ⟨x.1,x.2,x.3,x.4,Yqb λO q=>⟨q.1,λi n v ak av=>q.2 i n v ak ZPq⟩,x.6,λi n v ak av=>x.7 i n v ak ZPq,x.8,x.9⟩
theorem PC{X:Yo}{tk:Nat}{PD:Obj}(ae:YU)(aq:X a)(hm:Y9Q∧g.h₀.get? a=none)(aA:Y0u=some PD)(kN:¬kept s.heap PD)(hs:YDf)(hex:∃o',Y6P=YXO):
  ZAW∧Step X s mh Y0w mh:=by
 have kt:Y94:=qg aA kN Y17;have ne:∀b c,YnF→Y5X:=λb c e q=>g7 e (YwA hm.1);refine⟨⟨λb o e=>(Y17 b λq=>g7 e (YaD Y7n)).trans Y8t,Y7R,λb t c e=>YvR kt (Y17 b (ne b _ e)) λd O z=>⟨Y17 d (ne d _ z),rfl⟩,YFv,YFw⟩,
  λb o e ah uB=>(Y17 b λq=>uB (aa q aq)).trans e,Zhl,λb o e=>?_,kt⟩
 by_cases q:b=a
 ·exact q▸hex
 ·exact⟨o,(Y17 b q).trans e⟩
theorem Ib{n:Str}{v:Value}{m:V}(x:Y1d)(ae:YU)(bz:Y3Y)(az:Y6Y)(aR:Y8h){Q:Y5Q}{E:Y8}(h:∀s',Y4D→YKQ→de g env ns ZYP mh s'→Q () s'):wpAny Yu A (storeName env n v) Q E s:=by
 have other:∀{j:Nat}{k:Str},ns[j]?=Y6f→j≠i→k≠n:=λ{j k}aM ne q=>ne ((xX ((jJ aM).elim Y6j) x.4).mp (aM.trans ((congrArg some q).trans az.symm)));refine YY2 λAJ aE=>(AI aE.1).elim λo q=>q.elim λes q=>q.elim λep aA=>?_;have Ic:∀n c,YLa→c≠env.locals:=λn c e q=>(x.8 n c e).2.elim λv z=>z.elim λo' z=>by
  have:=congrArg ua (c4 z.1 (YaD aA.1));exact vX (cA z.2 (this.trans aA.2))
 rcases aR with aR | aR
 ·refine wpAny_storeName_local aR aE.1 Zif (by rw[x.1];rfl);have a:=PC (X:=Y1V) (tk:=YBI) ae Zk x.6 aA.1 ((Zin:∀{o:Obj}{es ep},YWC→YrE) aA.2) hs ((AI ks).imp λO q=>q.elim λO q=>q.elim YrY);refine h _ a.1 a.2 ⟨x.1,x.2,x.3,x.4,⟨_,ks,YYx⟩,x.6,YYx,λk c e=>⟨Zec.1,Zec.2.imp λO z=>uA z λO bk=>(Y17 _ (Ic _ _ e)).trans bk⟩,x.9⟩
  ·rcases YQn with q | q
   ·exact⟨v,if_pos YTH,q.2▸Yi9⟩
   ·exact YvM λy z=>⟨(if_neg ZWX).trans z.1,Y9e Y7K⟩
  ·rcases YQn with q | q
   ·have e:k=n:=YTH;exact aP.elim Zha Zha
   ·exact YzX λc z=>z.imp λy z=>⟨z.1,uA Z4 λO e=>(Y17 _ (Ic _ _ z.1)).trans e,YYH Y7K⟩
 ·refine aR.2.elim Yri;have Eh:=x.8 _ _ Y7U;refine Eh.2.elim λu bj=>bj.elim λhV AK=>wpAny_storeName_cell x.1 aR.1 Y7U ⟨hV,AK⟩ Zif;have a:=PC (X:=Y1V) (tk:=s.toks) ae (YJ ⟨_,aR.1,Y7U,ao.2⟩) Eh.1 AK.1 ((Zin:∀{o:Obj}{c},o.data=YPY c→YrE) AK.2) hs (ks.imp YrY);refine h _ a.1 a.2 ⟨x.1,x.2,x.3,x.4,⟨AJ,AH aE.1 λo e=>(Y17 _ (q6 (Ic _ _ Y7U))).trans e,YYx⟩,x.6,YYx,λk ft e=>?_,x.9⟩
  ·rcases YQn with q | q
   ·have e:k=n:=YTH;exact absurd (c4 aP (aa e aR.1)) YIk
   ·exact YvM λy z=>⟨z.1,Y9e Y7K⟩
  ·rcases YQn with q | q
   ·exact⟨c,v,(YTH:k=n)▸Y7U,ks,aa q.2 Yi9⟩
   ·exact YzX λft z=>z.imp λy z=>⟨z.1,uA Z4 λO e=>(Y17 _ ((λe ne q=>ne (x.9 _ _ c (e.trans (congrArg some q)) Y7U):∀{k ft},env.cells.lookup k=some ft→k≠n→ft≠c) z.1 ZWX)).trans e,YYH Y7K⟩
  ·have q:=x.8 k ft e;refine⟨q.1,?_⟩;by_cases aC:ft=c
   ·exact⟨_,aa aC ks⟩
   ·exact YMr λu z=>uA z λo bk=>(Y17 _ aC).trans bk
theorem aep{n:Str}{m:V}(x:Y1d)(az:Y6Y)(h:YMz=some Y31)(aR:ZN4)(hd:Yy3){Q:Y8}{E:Y8}(aF:∀v,Y3Y→Q v s):wpAny Yu A (loadName env n) Q E s:=by
 rcases aR with aR | aR | aR
 ·exact YY2 λAJ q=>(q.2 i n m az h aR).elim λy z=>wpAny_loadName_local x.1 aR q.1 z.1 (aF y z.2)
 ·exact(x.7 i n m az h (YY aR)).elim λc z=>z.elim λy z=>wpAny_loadName_cell x.1 aR z.1 Z4 ZBC
 ·exact(x.7 i n m az h (YJ aR)).elim λc z=>z.elim λy z=>wpAny_loadName_free x.1 aR z.1 Z4 ZBC hd
abbrev aI:=PySem.Expr
def nG{α:aI→Y4k}(e:aI)(d:Zlm)(aeq:∀o a p,α (YBt o a p))(aer:∀a o b p,α (YbJ a o b p))(aes:∀o a p,α (Y8R o a p))(aet:∀t a b p,α (YbK t a b p))(aeu:∀k a p,α (.Dict k a p))(aev:∀a sI s p,α (YEq a sI s p))(aew:∀a o b p,α (YBu a o b p))(aex:∀f a k p,α (Y0Q f a k p))(aey:∀c k p,α Yzw)(aez:∀o n p,α (Y2f o n p))(aeA:∀o i p,α (Y6v o i p))(aeB:∀n p,α Y44)(aeC:∀a p,α (.List a p))(aeD:∀a k p,α (Y1A a k p)):α e:=p7 e aeq YIZ aer aes YEL aet aeu YIZ aev YEL YYV YEL Y9h Y9h Y9h aew aex YEL Y9h aey aez aeA Y9h aeB aeC aeD YEL
def uC(e:aI):Z66:=nG (α:=λe=>Z66) e ZP YX Yl YX Yl YX Yl Yl Yl YX YX YX (λn p=>some ⟨n,p,rfl⟩) Yz YX
def Ei(e:aI):Z64:=nG (α:=λe=>Z64) e ZP YX Yl YX Yl YX Yl Yl Yl (λc k p=>some ⟨c,k,p,rfl⟩) YX YX Yz Yz YX
def aeE(e:aI):Z6I:=nG (α:=λe=>Z6I) e ZP YX ZhR YX Yl YX Yl Yl Yl YX YX YX Yz Yz YX
def PE(e:aI):Z6B:=nG (α:=λe=>Z6B) e ZP YX Yl Zji Yl YX Yl Yl Yl YX YX YX Yz Yz YX
def aeF(e:aI):Z67:=nG (α:=λe=>Z67) e ZP Zji Yl YX Yl YX Yl Yl Yl YX YX YX Yz Yz YX
def aeG(e:aI):Z6O:=nG (α:=λe=>Z6O) e ZP YX Yl YX ZkM YX Yl Yl Yl YX YX YX Yz Yz YX
def PF(e:aI):Z6D:=nG (α:=λe=>Z6D) e ZP YX Yl YX Yl YX Yl ZhR Yl YX YX YX Yz Yz YX
def PG(e:aI):Z6H:=nG (α:=λe=>Z6H) e ZP YX Yl YX Yl YX Yl Yl (λf a k p=>k.casesOn (some ⟨(f,a,p),rfl⟩) Yz) YX YX YX Yz Yz YX
def Ie(e:aI):Z6K:=nG (α:=λe=>Z6K) e ZP YX Yl YX Yl YX Yl Yl Yl YX (λo n p=>some ⟨(o,n,p),rfl⟩) YX Yz Yz YX
def AL(e:aI):Z6L:=nG (α:=λe=>Z6L) e ZP YX Yl YX Yl YX Yl Yl Yl YX YX (λo i p=>some ⟨(o,i),p,rfl⟩) Yz Yz YX
def rm(e:aI):Z69:=nG (α:=λe=>Z69) e ZP YX Yl YX Yl YX Yl Yl Yl YX YX YX Yz Yz (λa k p=>some ⟨a,k,p,rfl⟩)
def dList(e:aI):Z6A:=nG (α:=λe=>Z6A) e ZP YX Yl YX Yl YX Yl Yl Yl YX YX YX Yz (λa p=>some ⟨a,p,rfl⟩) YX
def PH(e:aI):Z68:=nG (α:=λe=>Z68) e ZP YX Yl YX Yl (λk a p=>some ⟨(k,a),p,rfl⟩) Yl Yl Yl YX YX YX Yz Yz YX
def PI(e:aI):Z6E:=nG (α:=λe=>Z6E) e ZP YX Yl YX Yl YX (λa sI s p=>some ⟨(a,sI,s,p),rfl⟩) Yl Yl YX YX YX Yz Yz YX
def PJ(Q:Y0i)(v:Bool)(s:Shared)(mh:ag):Y1:=Y8e
def Ev(g:G)(k:Nat)(env:Env)(ns:YH)(r:bG)(mh:ag)(t:Y5P)(Q:Yj):Y1:=∀A s,Z5→YU→Y1d→fW g A cX s mh t Zi
def kP(g:G)(k:Nat)(env:Env)(ns:YH)(r:bG)(mh:ag)(t:YFf)(Q:Y0i):Y1:=∀A s,Z5→YU→Y1d→fW g A cX s mh t Z6e
def gH(g:G)(k:Nat)(env:Env)(ns:YH)(r:bG)(es:Ye):Ygr:=es.rec (λmh Q=>Q [] mh) λe O ai mh Q=>Ev g k env ns r mh Y0s λv m=>ai m YsR
def jw(Q:Y0i)(v:V)(m:ag):Y1:=v.Ay False λb=>Q b m
def aeH(P:Y8)(r:Result)(s':Shared):Y1:=match r with
 |.ok YQC=>P v s'
 |.ok _=>False
 |Y6y _=>False
abbrev Calls:=Nat→YRA
def aU(g:G)(k:Nat):Calls:=λf args mh Q=>∀A s vs,Z5→YU→YS4→codeAny Yu A YbQ (aeH (hy g cX s mh Zi)) s
structure bP where
 cN:Z5P
 ns:YH
abbrev eO(env:Env)(c:bP):Y1:=hR (∀n k,Y3H=Y6f→Y25=Y6f∨(k=Y6z∧YUB)) (∀n,(Y3H=Y2y∨Y3H=Y6d)→∃a,YUA∧(Y3H=Y2y→ZN5))
def yu:List String:=["len","sorted","set","tuple","list","dict","enumerate","range","zip","sum","max","int"]
abbrev Base(g:G)(gl:YR6):Y1:=iG ZOp ZmW YEW (∀n v,gl.lookup n=Ym→∃x,YnZ=YXL∧aK g.h₀ x v) (∀n,n∈yu→nsIn g.K mainGlobals YD4=Y3M)
structure ih where
 gl:YR6
 mt:List Z5n
 eA:List (Nat×YH)
def classOk(K:Frag)(C:Nat)(l:YH):Bool:=ZX8&&(ZQj&&((ZOW==YpC)&&(ZXB&&(ZUc&&(ZTF&&(decide l.Nodup&&(decide ZTi&&
 l.all λn=>(findIn K Yw n).elim false (noGet K)&&(Zbd==Y3M))))))))
def PK(K:Frag)(C:Nat)(l:YH)(n:Str)(f:Nat):Bool:=(YkV==Zab)&&(isFn K Y2h&&(keepIn K Y2h&&l.all λm=>!(m==n)))
abbrev bh(g:G)(H:ih):Y1:=hr (Base g H.gl) (∀n a,YdM=Y05→ZTG) (∀C l,YFJ→YGg=l∧classOk g.K C l=true) (∀C n f,YOT→∃l,YFJ∧PK g.K C l n f=true)
structure Op where
 nH:ZRn
 ij:Calls→YRA
abbrev Op.pv(o:Op):Y1:=hR ZmM (∀{g H k env c r mh e es Q},ZG→ZI→YMg→gH g k env c.ns r es mh (λvs m=>o.ij ZH vs m Y9L)→kP g k env c.ns r mh YVF Q)
@[reducible] def dj:Y4k:=Subtype Op.pv
noncomputable abbrev dj.o (x:dj):Op:=x.1
theorem dj.snd(x:dj):x.o.pv:=x.2
inductive dY where
 |one (i:Nat) |two (i j:Nat) |three (i j l:Nat)
def PL(v:V):Bool:=v.eM true hv
def j3(t:dY)(weak:Bool)(v:V)(r:bG)(Q:Y7Z):Y1:=t.casesOn (λi=>cond weak (PL v=true∧YeZ) YeZ)
 (λi j=>v.eM False λvs=>vs.casesOn False λa t=>t.casesOn False λb u=>u.casesOn (Q Y5w) Y28)
 λi j l=>v.eM False λvs=>vs.casesOn False λa t=>t.casesOn False λb u=>u.casesOn False λd w=>w.casesOn (Q YZc) Y28
structure Src where
 weak:Bool
 nH:ZRn
 ij:Ydu
def uD(weak:Bool)(h:Heap)(x:Value)(v:V):Y1:=cond weak (∃vs,YI6∧YVG) Y2G
abbrev j4(wr:Yo)(s s':Shared):Y1:=hR Zla Yjj
abbrev lI(g:G)(wr:Yo)(mh:ag):Y1:=∀b,Y3P→YnE
abbrev mg(wr:Yo)(h:Heap):Y1:=∀b,Y3P→∃o,YDK∧YNy
abbrev ha(g:G)(A:Around)(tgt:aI)(I n:Nat)(weak:Bool)(v:YKG)(need:Y6)(wr:Yo)(St:Y49):Y1:=iG (∀i h,St i h→mg wr h) (∀i h h',St i h→(∀b o,Y3P→YlG)→Y2U→St i h') (∀i(s:Shared)(mh:ag)(P:Y8),i<n→YKP→YU→need mh→YDc→(∀x s',uD weak s'.heap x (v i)→Y4D→Z84→St (i+1) s'.heap→P x s')→WP g A YHb (λr s1=>∃x,r=YQ∧WP g A ZU5 Zgv s1) s) (∀(s:Shared)(mh:ag)(P:Y5N),St n s.heap→YU→need mh→YDc→(∀s',Y4D→YMA→Z6W)→Z8q) (∀i(s:Shared)(P:Y8),YKP→P Y1C s→WP g A (pyIter Y1C) P s)
variable{wr:Yo}
theorem lI.step{X:Yo}(x:YDc)(lv:YnA)(st:YFg):lI g wr aW:=λb ah=>⟨(lv b ah).elim λO q=>st.out q.1 ZeU.1,ZeU.2⟩
theorem sJ(lv:mg wr h)(k:∀b o,YYU→YlG):Y2U:=λb o e t=>by
 by_cases q:Y3P
 ·exact(lv b q).elim λo' z=>absurd t (ZIv▸z.2)
 ·exact ZSh
theorem j4.abs(ae:YU)(w:YDc)(x:YMA)(cR:Y57)(aA:Y4R):Y4D:=by
 have nw:∀b c,YnF→YYU:=λb c e q=>g7 e ZdQ.1;have nI:∀b c,YnF→YX2=Y04:=λb c e=>YBf λo q=>(x.1 b o (nw b c e) q.1).trans YHd;exact⟨λb o e=>x.1 b o (λq=>g7 e ZdQ.2) Y8t,Y7R,λb t c e=>YvR x.2 (nI b _ e) λd O z=>⟨nI d _ z,rfl⟩,YTW,YS6⟩
variable{m0:ag}{s0:Shared}
theorem j4.step{X:Yo}(x:YMA)(st:Yeq)(fr:Ysm):Step X s0 m0 s' mh:=
 have nw:∀{a o},s0.heap.get? a=YB→YrG:=λe q=>g7 e (fr _ q)
 ⟨λa o e hm aq=>x.1 a o ZVu (Y0f a o e hm aq),Zb,λa o e=>(st.3 a o e).imp λo' bk=>x.1 a o' ZVu bk,st.4.trans x.2⟩
theorem Step.unfresh{X:Yo}(st:Step (λa=>X a∨wr a) s0 m0 s mh)(fr:Ysm):Yeq:=
 ⟨λa o e hm aq=>Y0f a o e hm λq=>q.elim aq (λq=>g7 e Ykb),Zb,st.3,Y5k⟩
theorem sL(ae:YU)(w:YDc)(lv:YnA)(k:Zla)(aeI:mg wr s'.heap)(cR:Y57)(aA:Y4R):Y4D∧Z84:=
 have kt:=sJ lv k
 ⟨j4.abs ae w ⟨k,kt⟩ cR aA,λb o e O uB=>k b o uB e,Zhl,λb o e=>by
  by_cases q:Y3P
  ·exact(aeI b q).imp YYf
  ·exact⟨o,ZSh⟩,kt⟩
variable{I:Nat}{tgt:aI}
theorem Ej{P:Y5Q}{n:String}{o:Obj}(aA:s.heap.get? I=YB)(ao:YWB)(az:Z9F=false)(h:P () s):WP g A ZU5 P s:=by
 have z:∀(a:Nat),WP g A (do
   let o ←load I
   match o.cls,o.data with
   |Yci,YPe=>
    if Z9F&&vs[0]?==some (rawInt a)then
     rule "for.unpacks-the-owned-tuple"
     updateField I 0 Y7
   |_,_=>YWi) P s:=λa=>by
  refine bd (wpAny_load aA (DD ao ?_))
  cases o.data with
  |fields vs=>dsimp only;exact aa az Y1u
  |_=>exact Y1u
 cases tgt with
 |Tuple a b c=>cases x with
  |ref a=>exact z a
  |_=>exact Y1u
 |List a b=>cases x with
  |ref a=>exact z a
  |_=>exact Y1u
 |_=>exact Y1u
theorem a9.at(r:Y0z)(af:Y7p):∃x,Y3y∧aK h x YED:=
 (r.get Y2q).imp λx q=>⟨q.1,YRI▸q.2⟩
theorem uE{o:Obj}{n:String}(aA:YlF=YB)(ao:YWB)(ak:ZVw)(av:ZVv):YMW:=λb e=>⟨o,aa e aA,DM ao ak av⟩
theorem wx(st:ZQ5):YMW:=YNM
theorem pw(st:ZQ9):YMW:=YNM
theorem jx(t:Z8K):ZQ8:=t.elim λn e=>⟨_,e,rfl,n,rfl⟩
theorem Ig(r:Y0z):Z1[vs.length]?=none:=YPF (p6 (dH r.length))
theorem ha.list(bJ:Zg):ha g A tgt I vs.length false ZjG ZjZ Y2e (λi h=>ZQ5):=
 ⟨λi h st=>YqQ,
  λi h h' st k O=>st.at Zjk,
  λi s mh P af st ae az w ar=>az.elim λt e=>ae.list e λxs ep aq r=>Yax λx q=>
  wpAny_pyNext_list_item st YGw Yo9 λh' ji hs=>⟨x,rfl,by
   have a:=sL (s':=Yx) ae w YqQ YOC (wx ji) rfl rfl;exact ji.elim λo z=>Ej (s:=Yx) z.1 Z4 YC (ar x _ ZXn a.1 a.2 ji)⟩,
  λs mh P st ae az w ar=>az.elim λt e=>ae.list e λxs ep aq r=>
  wpAny_pyNext_list_end bJ st YGw (Ig r) λh' he=>have c7:YM9:=⟨he,sJ YqQ he⟩;YFz,
  λO O O st h=>wpAny_pyIter_listiter st h⟩
theorem ha.tuple(bJ:Zg)(ok:Y7o):ha g A tgt I vs.length false ZjG Y5o Y2e (λi h=>ZQ9∧Zmb):=
 ⟨λi h st=>YoH,
  λi h h' st k kt=>⟨YpR Zjk,Zb5 Zgs⟩,
  λi s mh P af st ae O w ar=>Zb4 λxs bq=>(bq.2.at af).elim λx q=>
  wpAny_pyNext_tuple_item Y0f ZSY Yo9 λh' ji hs=>⟨x,rfl,by
   have a:=sL (s':=Yx) ae w YoH YOC ZXc rfl rfl;exact ji.elim λo z=>Ej (s:=Yx) z.1 Z4 YC (ar x _ ZXn a.1 a.2 ⟨ji,xs,bq.1.keep Y7K (rl ok bq.2),bq.2.keep Y7K⟩)⟩,
  λs mh P st ae O w ar=>Zb4 λxs bq=>
  wpAny_pyNext_tuple_end bJ Y0f ZSY (Ig bq.2) λh' he=>have c7:YM9:=⟨he,sJ YoH he⟩;YFz,
  λO O O st h=>wpAny_pyIter_tupleiter Y0f h⟩
theorem Ek{a b:Int}(st:IsRangeIter h I a b 1):YMW:=uE st rfl YC YC
theorem ha.range(bJ:Zg){n:Nat}:ha g A tgt I n false (λi=>YJe) Y5o Y2e (λi h=>IsRangeIter h I Y9o (Y0q - Y9o) 1):=
 ⟨λi h st=>YdD,
  λi h h' st k kt=>k I _ rfl st,
  λi s mh P af st ae O w ar=>wpAny_pyNext_range_item st (Int.sub_pos_of_lt (x1.mpr af)) λh' ji hs=>⟨_,rfl,by
  have PM:IsRangeIter h' I YIq Yy2 1:=by
   rw[show Yy2=Y0q - Y3l - 1 from(Int.sub_sub Y0q Y3l 1).symm];exact ji
  have a:=sL (s':=YYP) ae w YdD YOC (Ek PM) rfl rfl;exact Ej (s:=YYP) ji rfl YC (ar _ _ (aK.ofInt (h:=h') _ _) a.1 a.2 PM)⟩,
  λs mh P st ae O w ar=>wpAny_pyNext_range_end bJ st (Int.le_of_eq (Int.sub_self Y0q)) λh' he=>have c7:YM9:=⟨he,sJ YdD he⟩;YFz,
  λO O O st h=>wpAny_pyIter_rangeiter st h⟩
theorem Ih{Q:Y9f}{E:Y8}(bJ:Zg)(h:∀h' e,(∀{it h0},ZdC→ZdB)→YbH):
  wpAny YR A ZVk Q E s:=by
 exact bd (bd (wpAny_newObj_type (bd (m:=firstArgMember _ _) (wpAny_of_eq (a:=l6) rfl (wpAny_newObj_type (bd (wpAny_handled (iy bJ (bd (wpAny_pure (wpAny_throw (h _ _ (λk=>(k.push _).push _) Yt7))))))) Yi8))) Yi8))
theorem Ii{E:Y8}{it l:Addr}{items}{Q:Y8}(hit:ZZA)(aE:Yon)(aq:YmA=YQ)(dp:∀h',h'.IsTupleIter it l (i+1)→YMQ→Q x Yx):
  Zdj:=by
 obtain⟨o,aA,ao,hd⟩:=Yll;obtain⟨ol,uF,O,nl,Ij⟩:=aE;refine bd (wpAny_callSpecial?_slot (name:=YD3) hit.typeIs NP
  Ze7)
 show Zdw;refine ZH1;show Ze3;refine ZJb;show Zdx;refine ZGz;show Ze5;refine ZH8;simp only [Int.toNat_natCast,aq];refine bd (wpAny_setField aA hd Y6K (wpAny_pure ⟨x,rfl,wpAny_pure (dp _ ?_ YMJ)⟩));exact⟨_,q7 _ aA ZFb,Yup,by
  rw[NQ hd];simp[rawInt]⟩
theorem PN{E:Y8}{it l:Addr}{items}{Q:Y8}(bJ:Zg)(hit:ZZA)(aE:Yon)(aq:YmA=none)(la:∀h' e,ZdD→YbH):
  Zdj:=by
 obtain⟨o,aA,ao,hd⟩:=Yll;obtain⟨ol,uF,O,nl,Ij⟩:=aE;refine bd (wpAny_callSpecial?_slot (name:=YD3) hit.typeIs NP
  Ze7)
 show Zdw;refine ZH1;show Ze3;refine ZJb;show Zdx;refine ZGz;show Ze5;refine ZH8;simp only [Int.toNat_natCast,aq];refine bd (wpAny_rule (bd (wpAny_setField aA hd Y3I ?_)));show wpAny _ _ (ZVj >>= _) _ _ _;exact Ih bJ λh' e k z=>la h' e ZSe z
theorem aeJ(bJ:Zg)(it l:Addr)(iA:l≠it)(items:Y1N):
  Draws prog w A it [it,l] items.size (λi v=>YmA=Ym) (λi h=>And (h.IsTupleIter it l i) (h.IsTuple l items)) where
 live:=λO O st=>Zaz λo z=>z.1
 frame:=λO O O st aR=>⟨YpR λo e=>aR it (b3) o e,st.2.at λo e=>aR l YGY o e⟩
 item:=λi s Q E af st dp=>by
  exact Ii Y0f Zb (x:=items[i]) ZIK λh' ji gB=>(dp _ h' s.toks ZIK ⟨ji,Zb5 λO z=>⟨(gB.2 l iA).trans z.1,z.2⟩⟩ gB)
 done:=λs Q E st la=>PN bJ Y0f Zb Y6K la
theorem aeK{f:List (Code×Pos)→Bool}{Q:Y1n}{E E':Y8}(h:∀b,Q b s):wpAny M A stack (λst s'=>wpAny M A (pure (f st)) Q E s') E' s:=wpAny_stack_any λst=>wpAny_pure (h _)
theorem aeL(l:Addr)(items:Y1N):
  Meets (Builtin.«enumerate.__new__» ⟨[YJs,Y77],[]⟩) (λO R s=>(∃n lb eB,s.heap.get? l=some {cls:=Y2i,dict:=lb,data:=Z27,slots:=eB})∧
   R (.ok (YS (Y0 Yyx)))
    {s with heap:=Yyy Yr7}):=
 .of_wp λprog w A R s h=>by
  obtain⟨⟨n,lb,eB,aE⟩,h⟩:=h;have qk:=sub_enumerate;have eW:ab0 ZDL l items:=⟨_,aE,rfl,n,rfl⟩
  refine Yg;intro aeM aeN aeO
  wp_walk using Yga
  refine aeK λb=>?_
  cases b
  ·wp_walk using Yga,ZeM
   exact Zn9
  ·wp_walk using Yga,ZeM
   exact Zn9
variable{items:Y1N}
theorem aeP{E:Y8}{l:Addr}{Q:Y8}(eW:Yon)(h:∀h',IsEnum h' Y1J s.heap.objs.size 0 Y7→h'.IsTupleIter s.heap.objs.size l 0→h'.objs.size=Yop→
   (∀b o,YBH)→Q Z1f Yx):
  wpAny YR A (call YJs [Y77]) Q E s:=by
 obtain⟨⟨c,lb,uj,eB⟩,aE,ao,n,hd⟩:=eW;replace ao:c=Y2i:=ao;replace hd:uj=Z27:=hd;subst ao hd;refine callType_new F.called_enumerate YC (F.typeCall_enumerate_1 _) (F.newCall_enumerate_1 _) (λobj=>F.args_object_init_2 obj _) F.entry_enumerate_new
  (aeL l items) ⟨⟨n,lb,eB,aE⟩,?_⟩
 have hz:Yyx=Y1J:=YBJ;show And _ _;rw[hz];have he:IsEnum (Yyy
   Yr7) Y1J s.heap.objs.size 0 Y7:=by
  have:=fM (s.heap.push YNw)
   (o:=Yr7) rfl
  replace this:=bN hz this;exact this
 refine⟨⟨_,he,rfl⟩,h _ he ⟨_,Yk5,rfl,rfl⟩ (by exact aj YBJ (congrArg _ hz)) λO O x=>eu _ (eu _ x)⟩
abbrev ql(I it:Nat):Yo:=λb=>b=I∨b=it
def pairAt(vs:Y3)(i:Nat):V:=YD [YJe,YED]
theorem aeQ{T:Nat}{i:Int}{tk:Tok}{m:V}(dJ:h.get? T=some (mM [YI i tk,x] 0))(bg:Yfy):uD true h YQ4 (YD [Y3T,m]):=⟨_,rfl,T,_,rfl,⟨0,dJ⟩,a9.cons (aK.ofInt i tk) (a9.cons bg a9.nil)⟩
variable{it:Nat}
theorem AM{i:Int}{old:Value}(he:IsEnum h I it i old)(yv:ZUk):mg YBE h:=λb ah=>ah.elim (uE he rfl YC YC b) (yv b)
variable{c6:Nat}{pos:Pos}
theorem PO{old:Value}{es:Ye}{U:Y49}{Z:YFK}{P:Y8}(D:Z3m)(yv:Zln)(up:∀i h h',Yf1→(∀o,h.get? it=YB→YlC=YB)→U i h')(he:IsEnum s.heap I it Y9o old)(bj:U i s.heap)(hz:Z98)(iV:YdU)(aeR:I≠a)(r:Y3B)(af:Y7p)(ae:YU)(w:ZTu)(ar:∀x s',uD true s'.heap x ZX3→Y4D→Step YBE s mh s' mh→(∃old,IsEnum s'.heap I it YIq old)→U (i+1) s'.heap→P x s'):
  WP g A YHb (λr s1=>∃x,r=YQ∧WP g A (letOwnedTupleGo YJX Y1C x) Zgv s1) s:=
 wpAny_pyNext_enum_itemD D he ZnF af iV (λq=>(dz q).elim iV λq=>aeR YG9) λx h' tk yw aA sM dJ AN aR=>⟨_,rfl,wpAny_letOwnedTupleGo_enum aA λav aeS qm=>by
  have El:∀b o,Zg4→Y9Y→YhA:=λb o nb e=>(qm.2 b ZkA).trans (aR b o ZkA ZkB e);have Em:U (i+1) av:=up _ _ _ sM.1 λO e=>(qm.2 it (q6 iV)).trans e;have PQ:IsEnum av I it YIq x:=aeS;have Ik:=sL (s':={s with heap:=av,toks:=tk+1}) ae w Z2n El (AM PQ (yv _ _ Em)) rfl rfl;exact ar _ _ (aeQ ((qm.2 _ (p8 (fE he):s.heap.objs.size≠I)).trans dJ) (Yax λO q=>c4 Yo9 yw▸Y82 Ik.2.4)) Ik.1 Ik.2 ⟨_,PQ⟩ Em⟩
theorem PR{i:Int}{old:Value}{U:Y49}{Z:YFK}{P:Y5N}(D:Z3m)(yv:Zln)(he:IsEnum s.heap I it i old)(bj:U vs.length s.heap)(hz:Z98)(ae:YU)(w:ZTu)(ar:∀s',Y4D→j4 YBE s s'→Z6W):Z8q:=
 wpAny_pyNext_enum_endD D he ZnF λh' yw=>
  have k:∀b o,Zg4→YBH:=λb o nb e=>yw b o ZkB e;have c7:j4 YBE s Yx:=⟨k,sJ Z2n k⟩
  YFz
theorem PS(bJ:Zg)(ne:a≠it)(r:Y0z):Draws g.prog g.w A.in1 it YfK vs.length Yrz (λi h=>And ZQ6 ZQ4):=
 Yws▸Draws.list (prog:=g.prog) (w:=g.w) (A:=A.in1) bJ it a ne Z1
theorem PT(bJ:Zg)(ne:a≠it)(r:Y0z):Draws g.prog g.w A.in1 it YfK vs.length Yrz (λi h=>And ZQA ZQ8):=
 Yws▸aeJ (prog:=g.prog) (w:=g.w) (A:=A.in1) bJ it a ne Z1
theorem Il{b:Nat}{c:Y1E}(e:YnD)(q:YB2):YCl:=λz=>g7 e (YwB q)
theorem ha.aeT(bJ:Zg){es:Ye}(iV:YdU):ha g A YJX I vs.length true Yo7 ZjZ YBE
  (λi h=>ZmV∧ZQ6):=
 ⟨λi h st=>YE5 λold he=>AM he (wx Zb),
  λi h h' st k O=>⟨Zb1,st.2.at Zjl⟩,
  λi s mh P af st ae az w ar=>az.elim λt e=>ae.list e λxs ep aq r=>YE5 λold he=>
  PO Z6f Zgd ZgK he Zb YGw iV (Il e (w I Zk).1).symm r af ae w λx s' a1 a2 dB eb g6=>ar x s' a1 a2 dB ⟨eb,g6⟩,
  λs mh P st ae az w ar=>az.elim λt e=>ae.list e λxs ep aq r=>YE5 λold he=>PR Z6f Zgd he Zb YGw ae w ar,
  ZgJ⟩
theorem En{b:Nat}{o o':Obj}{n m:String}(aD:YDJ)(ah:Y51=YXO)(c:YWB)(ft:o'.cls=YE m)(q:n≠m):YCl:=λz=>q (t8 (cA c ((congrArg Dj (c4 aD ((congrArg h.get? z).trans ah))).trans ft)))
theorem ha.aeU(bJ:Zg){es:Ye}(iV:YdU)(ok:Y7o):ha g A YJX I vs.length true Yo7 Y5o YBE
  (λi h=>ZmV∧ZQA∧Zmb):=
 ⟨λi h st=>YE5 λold he=>AM he (pw YE6),
  λi h h' st k kt=>⟨Zb1,Zb.1.at Zjl,Zb.2.imp Zgs⟩,
  λi s mh P af st ae O w ar=>YE5 λold he=>Zb3 λxs q=>YoK λn aA=>Zb2 λAO qn=>
  PO Z6g Zgc ZgK he YE6 ZSZ iV (En he aA rfl rfl YC) q.2 af ae w
   λx s' a1 a2 dB eb g6=>ar x s' a1 a2 dB ⟨eb,g6,xs,YWn dB.4 ZYs,Y82 dB.4⟩,
  λs mh P st ae O w ar=>YE5 λold he=>Zb3 λxs q=>YoK λn aA=>Zb2 λAO qn=>
  PR Z6g Zgc he YE6 ZSZ ae w ar,
  ZgJ⟩
abbrev uG(h:Heap)(z TI c2 dM dt l1 l2 k:Nat)(xs bf:Yn)(a b:Value):Y1:=Ak (IsZip h z TI c2 Y7) (IsPair h TI YcE YQ7) (IsPair h c2 a b) (h.IsTupleIter dM l1 k) (h.IsTupleIter dt l2 k) (h.IsTuple l1 Z1) (h.IsTuple l2 Y6H)
variable{dM:Nat}{z:Nat}{dt:Nat}{c2:Nat}
theorem aeV{TI l1 l2:Nat}{y a b:Value}{Q:Y8}{E:Y8}(D:YKX)(Z:YXf)(aq:Zf2)(bb:ZHG)(dp:∀h',Z4o→Z4l→ZPv→ZPw→Z4m→
   Zlh→Q Y2C Yx):
  wpAny Yu A Z3B (λfin s'=>∃v,And (fin=YPd) Yed) E s:=by
 show Zdy;refine ZGx;show Zdz;refine ZGy;show Zdu;refine ZGu;intro PU PV;refine ZH6;replace wy:Z4n:=wy;refine Y0K;intro azs azt;refine Y6I;show Ze2;refine cb Y4Q Yg;intro azu azv azw;refine Yhj;show Zdt;refine Yg;intro PW PX aeW;refine bd (Ii Z9B Z9C (pk aq) λah aeX hW=>Zm);have ob:IsPair ah c2 a b:=hW.extBut _ _ D.TOi1 (qo.extBut _ _ D.TOz Z.3);refine Yg;intro azx azy azz;refine bd (wpAny_seqItems ob rfl (bd (wpAny_updateSeq_pair ob λao hV sc=>?_)));replace hV:IsPair ao c2 x b:=hV;refine ZH3;show wpAny _ _ (forIn [((YQ7:Value),1)] _ _) _ _ _;refine cb Y4Q Yhj;show wpAny _ _ (He YQ7 >>= _) _ _ _;refine Yg;intro PY PZ P0;refine bd (Ii (((Z.5.extBut qo.extBut D.i2z).extBut hW.extBut D.i12.symm).extBut sc.extBut D.TOi2.symm) (((Z.7.extBut qo.extBut D.l2z).extBut hW.extBut D.l2i1).extBut sc.extBut D.l2TO) (pk bb) λhd aeY hA=>Zm);have iJ:IsPair hd c2 x b:=hA.extBut _ _ D.TOi2 hV;refine Yg;intro P1 P2 P4;refine bd (wpAny_seqItems iJ rfl (bd (wpAny_updateSeq_pair iJ λhe yx hX=>?_)));replace yx:IsPair he c2 x y:=yx;refine ZH3;show wpAny _ _ (forIn ([]:List Z8f) _ _) _ _ _;refine cb vW Yg;intro azA azB azC;refine wpAny_pure (bd (wpAny_seqItems yx rfl (bd (wpAny_newTuple ?_))));have AP:IsZip he z TI c2 YJb:=hX.extBut _ _ D.TOz.symm (hA.extBut _ _ D.i2z.symm (sc.extBut _ _ D.TOz.symm (hW.extBut _ _ D.i1z.symm wy)));show wpAny _ _ (Builtin.SmallTypes.ownedTupleHandOut Y3U Z1v >>= _) _ _ _;refine Y6I;have aeZ:IsZip (he.push (mM Y2F 0)) z TI c2 YJb:=eu _ AP;refine Yg;intro azD azE azF;refine bd (wpAny_setField_rec aeZ Y3I λcR Im P5=>?_);replace Im:IsZip cR z TI c2 (rawInt he.objs.size):=Im;refine Yg;intro azG azH azI;refine wpAny_setField_rec Im Y6K λbJ P6 yy=>?_;have up:∀c o,YTi→he.get? c=YB→ZGK:=λc o ne e=>yy.extBut _ _ ne (P5.extBut _ _ ne Y5a);have Eo:he.objs.size≠z:=p8 (fE AP);have tup:IsPair bJ he.objs.size x y:=yy.extBut _ _ Eo (P5.extBut _ _ Eo ZW);have old:∀c o,YTi→c≠c2→Yj1→c≠dt→YX6→ZGK:=λc o dn fI qp px e=>
  up c o dn (hX.extBut _ _ fI (hA.extBut _ _ px (sc.extBut _ _ fI (hW.extBut _ _ qp (qo.extBut _ _ dn e)))))
 refine wpAny_pure ⟨Z1v,rfl,?_⟩;rw[(hX.1.trans (hA.1.trans (sc.1.trans (hW.1.trans qo.1))):he.objs.size=s.heap.objs.size)]at P6 tup ⊢;exact dp bJ P6 (up _ _ D.TOz yx) ((((aeX.extBut sc.extBut D.TOi1.symm).extBut hA.extBut D.i12).extBut hX.extBut D.TOi1.symm).at λo e=>up _ o D.i1z e) ((aeY.extBut hX.extBut D.TOi2.symm).at λo e=>up _ o D.i2z e) tup old
theorem ae0{TI l1 l2:Nat}{a b:Value}{Q:Z6k}{E:Y8}(bJ:Zg)(D:YKX)(Z:YXf)(aq:Yvt)(la:∀h' e,Zli→YbH):
  wpAny Yu A Z3B Q E s:=by
 show Zdy;refine ZGx;show Zdz;refine Y0K;intro adO adP;refine ZGy;show Zdu;refine ZGu;intro aed aee;refine ZH6;replace wy:Z4n:=wy;refine Y6I;show Ze2;refine Yim;intro ae1 ae2;refine Yhj;show Zdt;refine Yg;intro azJ azK azL;refine bd (PN bJ Z9B Z9C aq λah e hW he=>he.elim λyx Ep=>?_);have P7:IsZip ah z TI c2 YJb:=hW _ _ D.i1z.symm wy;refine Yg;intro azM azN azO;refine wpAny_setField_rec P7 Y3I λao O sc=>la ao e (λO O dn qp q=>sc.extBut _ _ dn (hW _ _ qp (qo.extBut _ _ dn q))) ⟨yx,sc.extBut _ _ (En Ep.1 P7 Ep.2 rfl YC:e≠z) Ep.1,Ep.2⟩
theorem ae3{TI l1 l2:Nat}{y a b:Value}{Q:Y5N}(D:YKX)(Z:YXf)(aq:Zf2)(bb:ZHG)(dp:∀h',Z4o→Z4l→ZPv→ZPw→Z4m→
   Zlh→Q (some Y2C) Yx):Z8r:=by
 have dJ:ZZ8:=Zmu
 exact bd (wpAny_attempt (wpAny_callSpecial?_slot (name:=YD3) dJ NR (wpAny_call_entry NR dJ F.entry_zip_next
  (aeV D Z aq bb λh' a1 a2 dB eb g6 ia=>wpAny_pure (dp h' a1 a2 dB eb g6 ia)) Z45)))
theorem ae4{TI l1 l2:Nat}{a b:Value}{Q:Y5N}(bJ:Zg)(D:YKX)(Z:YXf)(aq:Yvt)(dp:∀h',Zli→Yea):Z8r:=by
 have dJ:ZZ8:=Zmu
 refine bd (wpAny_attempt (wpAny_callSpecial?_slot (name:=YD3) dJ NR (wpAny_call_entry NR dJ F.entry_zip_next (ae0 bJ D Z aq λh' e aR he=>?_) Z45)));exact he.elim λo q=>bd (wpAny_isInstance (T:="StopIteration") (b:=true) ⟨o,q.1,q.2⟩ isSubtype_stop (wpAny_pure (dp _ aR)))
noncomputable abbrev AQ (h:Heap) (l1:Nat):Heap:=h.push {cls:=YQN,data:=ZY #[YcF,YBw]}
noncomputable abbrev Er (h:Heap) (l1 l2:Nat):Heap:=(AQ h l1).push {cls:=YQN,data:=ZY #[YcG,YBw]}
noncomputable abbrev Es (h:Heap) (l1 l2:Nat):Heap:=(Er h l1 l2).push (mM [YC7,Y0 (AQ h l1).objs.size] 0)
noncomputable abbrev Et (h:Heap) (l1 l2:Nat):Heap:=(Es h l1 l2).push (mM Z9S 0)
noncomputable abbrev wz (h:Heap) (l1 l2:Nat):Heap:=(Et h l1 l2).push {cls:=YQO,data:=ZY #[Y7,Y1B,Y1B,Y0 (Er h l1 l2).objs.size,Y0 (Es h l1 l2).objs.size]}
theorem ae5(l1 l2:Nat)(xs bf:Y1N):Meets (Builtin.«zip.__new__» ⟨[YQO,YcF,YcG],[]⟩) (λO R s=>s.heap.IsTuple l1 xs∧s.heap.IsTuple l2 bf∧R (.ok (YS (Y0 YZq))) {s with heap:=ZeS}):=
 .of_wp λprog w A R s h=>by
  have qk:=sub_zip;have av:ab0 (ab1 ⟨AQ s.heap l1,s.gens,s.drawn,s.toks,s.os⟩) l2 bf:=h.2.1.at λo e=>Y5a;refine Yg;intro ae6 ae7 ae8
  wp_walk using wpAny_pyIter_tuple (h.1:ab0 ZDL l1 xs),wpAny_pyIter_tuple av
  exact⟨_,rfl,Y9D⟩
theorem nl{n:Nat}(h:a<n):a≠n+k:=Nat.ne_of_lt (ew h (cx n k))
theorem kN{n b:Nat}(h:YCl):n+a≠n+b:=λe=>h (ab3 e)
theorem ae9{n l1 l2:Nat}(ak:l1<n)(av:l2<n):ZipApart (n+4) (n+2) (n+3) (n+0) (n+1) l1 l2:=
 ⟨Y7t,Y7t,Y7t,Y7t,Y7t,Y7t,Y7t,Y7t,Y7t,Y7t,YW5,YW5,YW5,YW5,YW6,YW6,YW6,YW6⟩
theorem afa{l1 l2:Nat}{Q:Y8}(ak:TupAt s.heap l1 xs)(av:TupAt s.heap l2 bf)(h:∀h',uG h' Yoq Yop ZZJ (s.heap.objs.size+0) Y1J l1 l2 0 xs bf Y7 Y7→Y9E→Q (Y0 Yoq) Yx):
  WP g A (call YQO [YcF,YcG]) Q s:=by
 refine callType_new F.called_zip YC (F.typeCall_zip_2 _ _) (F.newCall_zip_2 _ _) (λobj=>F.args_object_init_3 obj _ _) F.entry_zip_new (ae5 l1 l2 Z1 Y6H) ⟨jx ak,jx av,?_⟩;have bx:YuO=Y1J:=YBJ;have cM:YuS=Yop:=Yb6 (congrArg Y3m bx);have mR:YuT=ZZJ:=Yb6 (congrArg Y3m cM);have iW:YZq=Yoq:=Yb6 (congrArg Y3m mR);have ge:YJT YZq=YHp:=ZW;have mS:YJT YuT=YHp:=Yk5;have P8:YJT YuS=YHp:=Yk4;have sN:YJT YuO=YHp:=ZNZ;have ga:YJT s.heap.objs.size=YHp:=eu _ ZNZ;have ro:hU s.heap ZeS:=λa o e=>eu _ (eu _ (eu _ YUM));show And _ _;rw[iW];rw[iW,cM,mR]at ge;replace mS:=bN mR mS;rw[cM,bx]at P8;rw[bx]at sN;exact⟨⟨_,ge,rfl⟩,h _ ⟨ge,P8,mS,⟨_,ga,rfl,rfl⟩,⟨_,sN,rfl,rfl⟩,(jx ak).at λo e=>ZYt,(jx av).at YrX⟩ ro⟩
def sO(v:V):Bool:=v.eM false λws=>ws.casesOn false λa O=>a.isStr
def wA(h:Heap)(a b:Value):Y1:=(a=Y7∧b=Y7)∨∃i t v,a=Y71∧aK h b v∧sO v=true
theorem afb{a b:Value}(x:YXu):¬kept h (mM Y1R 0):=λk=>k.elim (λq=>hn q.1 λe=>absurd e YC) λk=>k.elim λxs k=>k.elim λn k=>by
 have e:=congrArg abR (abS (congrArg ua k.1)).1;subst(e:Y1R=xs);rcases x with x | x
 ·(replace k:=HG x.1 k;rw[x.2]at k);exact k.2.1 rfl
 ·refine x.elim λi x=>x.elim λt x=>x.elim λv x=>(V.ph ZJ).elim λws q=>?_;have cP:=Y2L;replace cP:=bL q.1 cP;refine cP.gj.elim λp z=>z.elim λym z=>(k.2.2 i t p (aT x.1 (gS z.1 rfl))).elim λy c=>c.elim λbf c=>c.elim λn c=>z.2.1.elim YET
  cases ws with
  |nil=>exact nb q.2
  |cons w ws=>
   refine z.2.2.un λmP AB c1 gA O=>(V.kr (q.2:w.isStr=true)).elim λn fq=>?_;rw[fq,((g4 (cA c1 (congrArg abR (abS (congrArg ua (c4 hm c))).1:ym=YcJ))).1)]at gA;exact gA.elim λt u=>u.elim λs u=>hn u.2
theorem wA.keep{a b:Value}(k:Y2U)(x:YXu):wA h' a b:=x.imp id λx=>x.imp λi x=>x.imp λt x=>x.imp λv x=>⟨x.1,ZeY,ZJ⟩
noncomputable abbrev yz (z c2 dM dt:Nat):Yo:=λb=>b=z∨b=c2∨b=dM∨b=dt
theorem Eu{TI l1 l2:Nat}{a b:Value}(Z:uG h z TI c2 dM dt l1 l2 k xs bf a b)(x:YXu):mg Yqx h:=λc ao=>ao.elim (uE Z.1 rfl YC YC c) λao=>ao.elim (λe=>⟨_,aa e Z.3,afb x⟩) λao=>ao.elim (pw Z.4 c) (pw Z.5 c)
def Io(vs ws:Y3)(i:Nat):V:=YD [YED,ws.getD i Y7]
theorem V.int_at(h:YI9)(af:Y7p):∃n,YED=Y72:=V.jM (by
 have:=ZSU;exact Yum)
theorem afc(h:vs.all sO=true)(af:Y7p):sO YED=true:=by
 have:=ZSU;exact Yum
abbrev afd(vs ws:Y3)(z TI c2 dM dt l1 l2:Nat)(i:Nat)(h:Heap)(P:Y1):Y1:=∀(xs bf:Yn)(a b:Value),uG h z TI c2 dM dt l1 l2 i xs bf a b→YXu→TupAt h l1 xs→TupAt h l2 bf→Y0z→ZAk→P
abbrev afe(vs ws:Y3)(z TI c2 dM dt l1 l2:Nat)(i:Nat)(h:Heap):Y1:=∀P:Y1,afd vs ws z TI c2 dM dt l1 l2 i h P→P
theorem ha.zip(bJ:Zg){es:Ye}{TI l1 l2:Nat}(D:YKX)(P9:Y7o)(Qa:hv ws=true)(aE:ZeP)(aO:YI9)(hw:ZeN):
  ha g A YJX z vs.length true Z4k Y5o Yqx (afe vs ws z TI c2 dM dt l1 l2):=
 ⟨λi h st=>st _ λxs bf a b iX lg t1 cy b6 dv=>YdE,
  λi h h' st k kt=>st _ λxs bf a b iX lg t1 cy b6 dv=>
  have t1:=ZbS;have cy:=ZKL
  (λO bA=>bA xs bf a b (⟨k _ _ Zk iX.1,kt _ _ iX.2 (YJ ⟨_,_,rfl,HL h _ _⟩),k _ _ Yba iX.3,iX.4.at λo e=>k _ o (YJ Yba) e,iX.5.at λo e=>k _ o (YJ Z0e) e,jx t1,jx cy⟩) (lg.keep kt) t1 cy ZFu ZLh),
  λi s mh P af st ae O w ar=>st _ λxs bf a b iX lg t1 cy b6 dv=>(b6.at af).elim λx aq=>(dv.at (aE▸af)).elim λy bb=>
  ae3 D iX Y4H Y7b λh' aff afg a1 a2 at_ old=>⟨_,rfl,wpAny_letOwnedTupleGo_zip aff λav fz s2=>by
   have lv:=YdE;have El:∀c o,Zg5→YX6→av.get? c=YB:=λc o n e=>(YDz c YsD).trans (old c o YsD (λq=>n Z0b) Zk9 (λq=>n (YJ Z0d)) e);have kt:=sJ lv El;have t1:=ZbS;have cy:=ZKL;have c9:uG av z TI c2 dM dt l1 l2 (i+1) xs bf x y:=⟨fz,kt _ _ iX.2 (YJ ⟨_,_,rfl,HL s.heap _ _⟩),(YDz _ D.TOz).trans afg,a1.at λo e=>(YDz _ D.i1z).trans e,a2.at λO e=>(YDz _ D.i2z).trans e,jx t1,jx cy⟩
   have lg:wA av x y:=Yuy λn fq=>(aV fq Y6F:aK s.heap x Y72).elim λt jy=>YJ ⟨n,t,_,jy,ZGs,afc hw (aa aE af)⟩;have m:=sL (s':={s with heap:=av}) ae w lv El (Eu c9 lg) rfl rfl;exact ar _ _ ⟨_,rfl,_,_,rfl,⟨0,(YDz _ ((λe=>p8 YDB:∀{c o},YX6→s.heap.objs.size≠c) iX.1)).trans at_⟩,a9.cons Yh4 (a9.cons ZGs a9.nil)⟩ m.1 m.2 (λO bA=>bA xs bf x y c9 lg t1 cy ZFu ZLh)⟩,
  λs mh P st ae O w ar=>st _ λxs bf a b iX lg t1 cy b6 dv=>ae4 bJ D iX (Ig b6) λh' old=>
  have k:∀c o,Zg5→YN6:=λc o n e=>old c o YsD Zk9 e;have c7:j4 Yqx s Yx:=⟨k,sJ YdE k⟩
  YFz,
  λO O O st h=>st _ λO O O O iX O O O O O=>wpAny_pyIter_zip iX.1 h⟩
def isStar(e:aI):Bool:=PySem.Expr.casesOn e Y1j Y1j Y1Y Y1j Y1Y Y1Y Y1j Y1j Y1Y Y1Y ZgE Y1Y Y0P Y0P Y0P Y1Y Y1Y Y1Y Y0P Y1j Y1j Y1j Y0U Y0P Y0P Y1j Y1Y
theorem Qb{r:Ye}(e:aI):Ym7→starEach (e::r) env=Y8O::starEach r env:=p7 e ZR ZR ZA ZR ZA ZA ZR ZR ZA ZA Y1i ZA Y0n Y0n Y0n ZA ZA ZA Y0n ZR ZR ZR YEN Y0n Y0n ZR ZA
def isSet(e:aI):Bool:=PySem.Expr.casesOn e Y1j Y1j Y1Y Y1j Y1Y Y1Y Y1j Y0o Y1Y Y1Y ZgE Y1Y Y0P Y0P Y0P Y1Y Y1Y Y1Y Y0P Y1j Y1j Y1j Y0P Y0P Y0P Y1j Y1Y
theorem Qc(e:aI):YGx→∀x,foldedSetIterable e env x=YDq:=p7 e ZA ZA Y1i ZA Y1i Y1i ZA (λO O O h O=>Y0L) Y1i Y1i Y88 Y1i ZR ZR ZR Y1i Y1i Y1i ZR ZA ZA ZA ZR ZR ZR ZA Y1i
def noStar(es:Ye):Bool:=es.all λe=>!isStar e
theorem nJ{es:Ye}(h:Y5f)(pos:Pos):YSt=ZNL:=by
 induction es with
 |nil=>rfl
 |cons e es ai=>
  exact dG h λbD bC=>aX (Qb e Yxm) (congrArg (_::·) (ai bC))
theorem lh{es:Ye}:∀x∈es.map YYr,YqU:=λx aq=>Yww λe q=>aV q.2 rfl
theorem rp{c:bP}{mh:ag}{s:Shared}{es:Ye}{Q:Ys}(h:Ykl)(aG:Z5)(ae:YU)(aN:Y4J):fW g A cX s mh (spliced ZNL) (adH Q):=by
 induction es generalizing mh s Q with
 |nil=>exact NS ⟨mh,ae,Yy,[],a9.nil,h⟩
 |cons e es ai=>exact NT (Y0p λv s1 z=>z.elim λm1 z=>Y0g λx q=>(ai q.2 z.1 Y2H).mono λvs s2 y=>y.elim λaH y=>YIJ λxs p=>
   ⟨aH,y.1,YEI,Yqe,a9.cons YHc p.1,p.2⟩)
theorem rq{c:bP}{n:Str}(L:ZI)(h:YGF):Yjs:=(L.1 n _ h).elim id λq=>o8 q.1
theorem a5.afh(ae:YU):eU g.h₀ s.heap:=.of Y5U
theorem Ew{c:bP}{gl:YR6}(B:Z37){n:Str}{P:Y8}(ae:YU)(aN:Y4J)(aR:Yjs)(ah:Y5v)(e:YnZ=YXL)(h:P x s):WP g A ZNa P s:=
 YCG λp q=>q.elim λloose q=>q.elim λrn q=>q.elim λpq T=>
  have iY:=Z8F
  Name_function_global aN.1 aR (loadGlobal_global (env:=env) ZEP (mg_of Z2v iY.g e) h) ah
theorem AR{c:bP}{gl:YR6}(B:Z37){n:String}{P:Y8}(ae:YU)(aN:Y4J)(aR:env.kindOf YD4=Y27)(ah:(YD4==Y1l)=false)(az:n∈yu)(aq:bootBuiltins YD4=YQ)(iA:YD4≠"__name__")(h:P x s):WP g A (eval (Y09 YD4 pos) env) P s:=
 YCG λp q=>q.elim λloose q=>q.elim λrn q=>q.elim λpq T=>
  have iY:=Z8F
  Name_function_global aN.1 aR (loadGlobal_builtin (env:=env) ZEP (mg_none_of Z2v iY.g (B.5 n az)) (aj aN.3 iY.b) ((T.builtins _ iA).trans aq) h) ah
def yA(c:bP)(e:aI):Option YrD:=
 Yuq none λx=>(uC Y2b).elim none λn=>
  if h:And (noStar YEF=true) (And (ZIa=Y27) (ZVF=false))then some ⟨(n.1,YEF),YVx λp q=>⟨p,YXy,Zeb (congrArg (λf=>ab4 f YEF [] YXy) q)⟩,⟨h.1,YGq,Y9D⟩⟩else none
theorem uH{E:Y8}{f:Value}{P:Args→YP}{l:Ydp}(ar:∀x∈l,YqU)(h:wpAny M A (spliced l) (λvs s'=>P YtJ s') E s):wpAny M A (evalArgs f true l []) P E s:=by
 cases l with
 |nil=>
  show wpAny M A (spliced [] >>= _) P E s;exact bd (wpAny_mono h (λO O h'=>bd (wpAny_pure (wpAny_holding (bd (wpAny_pure (bd (wpAny_pure (wpAny_pure h')))))))) YrR)
 |cons x l=>
  (rw[YxQ]at h;refine aa YxQ ?_)
  exact evalArgs_plain h
theorem any_false{l:Ydp}(ar:∀x∈l,YqU):ZTc:=List.any_eq_false.mpr λx aq=>dS (ar x aq) h8
variable{need:Y6}{ey:Nat}
theorem ha.congr{n:Nat}{weak:Bool}{v ov:YKG}{St:Y49}(W:ZQi)(az:ey=n)(h:∀i,i<n→ov i=v i):ha g A tgt I ey weak ov need wr St:=
 ⟨W.1,W.2,λi s mh P af st ae iA w ar=>W.3 i s mh P ZFh st ae iA w λx s' bg=>ar x s' ((h i ZFh).symm▸bg),az▸W.4,W.5⟩
abbrev afi(g:G)(tgt:aI)(weak:Bool)(s:Shared)(mh:ag)(vals:Y3)(need:Y6)(sF:ag)(it:Value)(s2:Shared)(I:Nat)(wr:Yo)(St:Y49):Y1:=Ak (it=Y1C) (a5 g sF s2) (Step cX s mh s2 sF) (∀bl:Around,ZHM→ha g bl tgt I vals.length weak YYw need wr St) (St 0 s2.heap) (lI g wr sF) Ysl
abbrev afj(g:G)(tgt:aI)(weak:Bool)(s:Shared)(mh:ag)(Q:Y1D)(it:Value)(s2:Shared)(P:Y1):Y1:=∀(vals:Y3)(need:Y6)(sF:ag)(I:Nat)(wr:Yo)(St:Y49),afi g tgt weak s mh vals need sF it s2 I wr St→Q vals need sF→P
abbrev nK(g:G)(tgt:aI)(weak:Bool)(s:Shared)(mh:ag)(Q:Y1D)(it:Value)(s2:Shared):Y1:=∀P:Y1,afj g tgt weak s mh Q it s2 P→P
def ow(g:G)(k:Nat)(env:Env)(ns:YH)(r:bG)(mh:ag)(tgt:aI)(weak:Bool)(t:Y5P)(Q:Y1D):Y1:=
 ∀A s,Z5→YU→Y1d→WP g A t (λx s1=>WP g A YMp (nK g tgt weak s mh Q) s1) s
abbrev Src.pv(o:Src):Y1:=hR (∀{g H k env c r mh e es tgt Q},ZG→ZI→(o.weak=true→ZmO)→YMg→gH g k env c.ns r es mh (λvs m=>o.ij vs m Q)→ow g k env c.ns r mh tgt o.weak Y0s Q) (∀{H c e es},YMg→YGx)
@[reducible] def gq:Y4k:=Subtype Src.pv
noncomputable abbrev gq.o (x:gq):Src:=x.1
theorem gq.snd(x:gq):x.o.pv:=x.2
theorem yB(st:Y8g){b:Nat}(e:Y6Z):ZZP:=we λo q=>(st.3 b o q).elim λo' z=>g7 z e
theorem AS(ae:YU){b:Nat}(e:Y6Z):ZOu:=we λo q=>g7 (Y5U b o q) e
theorem Ex(ae:YU)(f:Ysl):YDc:=λb ah=>⟨ae.fresh ZNr,AS ae ZNr⟩
noncomputable abbrev ox (a:Nat) (vs:Y3):Y6:=λm=>∃t,YVk
abbrev jj:Y6:=Y5o
variable{vals:Y3}
theorem Ey{Q:Y1D}{o:Obj}{weak:Bool}{St:Y49}(ae:YU)(st:Y8g)(W:∀bl:Around,ZHM→ha g bl tgt s.heap.objs.size vals.length weak YYw need (·=s.heap.objs.size) St)(h0:St 0 ZZM)(h:Q vals need mh):nK g tgt weak s0 m0 Q Y2C Yr9:=
 have qq:∀b,YSj→Y6Z:=λb e=>e▸Y1f
 (λO bA=>bA vals need mh _ _ St ⟨rfl,ae.grow (s':=Yr9) Y52 rfl rfl,st.trans (Step.grow (s':=Yr9) Y52),W,h0,Ex ae qq,λb ah=>yB st (qq b ah)⟩ h)
theorem Qd{Q:Y1D}(ae:YU)(st:Y8g)(e:Y3w)(h:Q vs ZWZ mh):WP g A ZXe ZVV s:=
 ae.list e λxs ep aq bg=>wpAny_pyIter_list (items:=Z1) YGw (Ey ae st (λO bJ=>ha.list bJ) Y6l h)
theorem Qe{Q:Y1D}(ae:YU)(st:Y8g)(bz:Yg2)(h:Q vs jj mh):YKV:=
 bz.gj.elim λa q=>q.elim λxs q=>YHd▸wpAny_pyIter_tuple ZSa (Ey ae st (λO bJ=>ha.tuple bJ bz.1) ⟨Y6l,xs,YoL λO e=>YUy,YDt YF2⟩ h)
def nL(n:Nat):Y3:=Y8K λY9o=>V.int Y3l
theorem Ip{d x:α}(h:Ymr):l.getD i d=x:=(ho ..).trans (congrArg (Ha · d) h)
theorem afk{n:Nat}(h:i<n):(nL n).getD i Y7=YJe:=YdT
theorem Qf{n:Nat}:Builtin.Range.rangeSize 0 Y0q 1=n:=by
 refine aj (rangeSize_one ..) ?_
 split
 ·exact Int.sub_zero _
 ·next h=>exact(Int.le_antisymm (Int.not_lt.mp h) Yq9).symm
theorem afl{Q:Y1D}{n:Nat}(hz:YB5)(ae:YU)(st:Y8g)(bz:aK s.heap x YJf)(h:Z71):YKV:=
 bz.elim λa q=>YHe λt1 z=>z.elim λcy z=>z.elim λt3 aA=>YHd▸wpAny_pyIter_range (a:=0) (b:=n) (c:=1) aA (small_one YC YC Z5l (Hb (Dk.mpr hz) YC))
  (Ey ae st (λO bJ=>(ha.range (n:=n) bJ).congr YOg λO af=>afk af) (by
   have:=fM s.heap (o:={cls:=YE "range_iterator",data:=ZY #[YWw,rawInt (ab5 0 n 1),rawInt 1]}) rfl;have bo:ab5 0 Y0q 1=n:=Qf
   (rw[bo]at this;refine aa bo ?_)
   simpa using this) h)
def pairs(vs:Y3):Y3:=YaJ Yo7
theorem Qg(h:Y7p):(pairs vs).getD i Y7=ZX3:=YdT
theorem Ez(h:Heap):∀b,ql YGs h.objs.size b→ZQG:=λb e=>e.elim (λe=>e▸Yqv) λe=>e▸Y1f
theorem afm{Q:Y1D}{es:Ye}(ae:YU)(st:Y8g)(e:Y3w)(h:Q YWa ZWZ mh):
  WP g A (call YJs Y8l) YZ7 s:=
 ae.list e λxs ep aq bg=>call_enumerate_list (items:=Z1) YGw λh' he hit O b5=>wpAny_pyIter_enum he
  (λO bA=>bA YWa _ mh _ _ _ (⟨rfl,YCg,Zb6,λO bJ=>(ha.aeT (vs:=vs) bJ Ye9).congr YOg λO af=>Qg af,⟨Zn6,hit⟩,Z3z,Zhj⟩) h)
theorem afn{Q:Y1D}{es:Ye}(ae:YU)(st:Y8g)(bz:Yg2)(h:Q YWa jj mh):
  WP g A (call YJs [x]) YZ7 s:=
 bz.gj.elim λa q=>q.elim λxs q=>YHd▸aeP (items:=Z1) ZSa λh' he hit O b5=>wpAny_pyIter_enum he
  (λO bA=>bA YWa _ mh _ _ _ (⟨rfl,YCg,Zb6,λbl bJ=>(ha.aeU (vs:=vs) bJ Ye9 bz.1).congr YOg λi af=>Qg af,
   ⟨Zn6,hit,xs,YoL λO e=>YhI,YDt Y64⟩,Z3z,Zhj⟩) h)
def qr(vs ws:Y3):Y3:=YaJ Z4k
theorem afo(h:Y7p):(qr vs ws).getD i Y7=Io vs ws i:=YdT
theorem Qh(h:Heap):∀b,yz (h.objs.size+4) (h.objs.size+3) (h.objs.size+0) YGs b→ZQG:=λb e=>yo (e.elim YYs λe=>e.elim YYs λe=>e.elim YYs YYs)
theorem afp{Q:Y1D}{es:Ye}{y:Value}(ae:YU)(st:Y8g)(bg:Yg2)(gA:aK s.heap y Y8W)(aE:ZeP)(aO:YI9)(hw:ZeN)(h:Q ZYE jj mh):
  WP g A (call YQO Y2F) YZ7 s:=
 bg.gj.elim λa q=>q.elim λxs q=>gA.gj.elim λb bS=>bS.elim λbf bS=>by
  (refine Ax q.1 (aa Y3F ?_))
  refine afa YG YSs λh' Z ro=>wpAny_pyIter_zip Z.1 ?_;have lt:∀{a xs},Yez→ZAv:=λt=>t.elim λn e=>YDB;exact(λO bA=>bA ZYE _ mh _ _ _ (⟨rfl,ae.grow (s':=Yx) ro rfl rfl,st.trans (Step.grow (s':=Yx) ro),λbl bJ=>(ha.zip bJ (ae9 (lt YG) (lt YSs)) bg.1 gA.1 aE aO hw).congr YOg λi af=>afo af,
   (λO bA=>bA xs bf _ _ Z (YY Zn) (YoL YrX) (Y1p.1.imp YrX) (YDt Z0w) (Y1p.2.keep Z0w)),Ex ae (Qh _),λb ah=>yB st (Qh _ b ah)⟩) h)
theorem afq{c:bP}{Q:Y1D}{t:aI}{weak:Bool}(h:Ev g k env c.ns r mh YkA λv m=>∀A s0 m0 s x,Z5→Y4n→YFh→Y2m→WP g A YMp ZVW s):ow g k env c.ns r mh tgt weak YkA Q:=λA s aG ae aN=>
 Y0p λx s1 z=>z.elim λm1 z=>Y0g λv q=>q.2 A s mh s1 x aG z.1 z.2 q.1
variable{H:ih}
theorem afr{c:bP}{Q:Y1D}{e:aI}{nm:String}{T:String}{weak:Bool}{R:Ys}(K:ZG)(L:ZI){x:YrD}(aq:YqS)(az:YnV)(ah:ZHP)(iA:Yk1)(h:gH g k env c.ns r Y1K mh R)(go:∀A s0 m0 s m vs xs,Z5→Y4n→YFh→Y3B→R vs m→WP g A ZJP (λy s1=>WP g A YoI ZVW s1) s):ow g k env c.ns r mh tgt weak Y0s Q:=λA s aG ae aN=>by
 refine YIF λp q=>q.elim λpos q=>?_
 (refine jL q ZCx)
 exact wpAny_Call_NameR (AR K.1 ae aN (aq▸rq L YXz) (aq▸YY1) az ah iA (ix (nJ YIG ..) (ayc YAR (uH lh (YPI λxs s1 z=>z.elim λm1 z=>Y0g λvs y=>go A s mh s1 m1 vs xs aG z.1 z.2 y.1 y.2)))))
def Iq(e:aI):Y68:=if YGx then some [e]else none
theorem Qi{e:aI}{es:Ye}(h:Iq e=Y2K):es=[e]∧YGx:=by
 unfold Iq at h;by_cases q:YGx
 ·replace h:=YgC;exact⟨Y5s,q⟩
 ·replace h:=YgB;exact Y08
def one{α:YKO}(vs:Y3)(d:α)(f:V→α):α:=vs.casesOn d λv r=>r.casesOn (f v) YYZ
def two{α:YKO}(vs:Y3)(d:α)(f:V→V→α):α:=vs.casesOn d λv r=>one r d (f v)
inductive AU(m:ag)(a:Nat)(Q:YFT):Y1
 |mk (t:Nat) (vs:Y3) (h:YVk) (q:YRW):AU m a Q
def lst(v:V)(mh:ag)(Q:YFT):Y1:=v.oi False λa=>AU mh a Q
def V.EA{α:YKO}(v:V)(d:α)(f:YeG):α:=V.casesOn v d YId YId YId YId f YId
theorem Ev.mono{g k env ns r mh t}{Q':Yj}(h:Ev g k env ns r mh t Q)(m:YZB):Ev g k env ns r mh t Q':=λA s aG ae aN=>HM ZPh λO O O z=>z.3.imp λx q=>ZnY
theorem jN{v:V}{Q:YFT}{P:Y1}(h:lst v mh Q)(f:∀a t vs,YNW→Y3w→YRW→P):P:=by
 cases v with
 |ref a=>exact AU.casesOn h ZkU
 |_=>exact h.elim
theorem yC{v:V}{f:Yo}{P:Y1}(h:v.oi False f)(k:∀a,YNW→f a→P):P:=by
 cases v with
 |ref a=>exact YH5
 |_=>exact h.elim
theorem lJ{v:V}{f:Y7F}{P:Y1}(h:v.eM False f)(k:∀vs,YI6→f vs→P):P:=by cases v with | tup vs=>exact k vs rfl h | _=>exact h.elim
theorem afs{v:V}{f:Yo}{P:Y1}(h:v.EA False f)(k:∀n,v=YJf→YUV):P:=by cases v with | kM n=>exact YmP | _=>exact h.elim
def yD(P:V→YKr):Src:=⟨false,λO O e=>Iq e,λvs mh Q=>one vs False λv=>P v mh Q⟩
theorem AV{P:V→YKr}(go:∀{g:G}{A:Around}{s0 s:Shared}{m0 m:ag}{x:Value}{v:V}{tgt:aI}{Q:Y1D},Y4n→YFh→Y2m→P v m Q→YKV):(yD P).pv:=
 ⟨λ{g H k env c r mh e es tgt Q}K L O hm h=>by
  replace h:=lG Z7B.1 h;have h:Ev g k env c.ns r mh Y0s λv m=>P v m Q:=h;exact afq (h.mono λO O q O O O O O O ae st bz=>ZPU),
  λhm=>Z7B.2⟩
theorem aK.fP{v:V}(r:Y2G)(e:YNW):Y86:=(YUQ:aK h x YA)
def hb:gq:=⟨yD λv mh Q=>lst v mh λa t l=>Z74,AV λae st bz q=>jN q λO O O e hm q=>YJ2▸Qd ae st hm q⟩
def iK:gq:=⟨yD λv mh Q=>v.eM False ZjT,AV λae st bz q=>lJ q λO e q=>Qe ae st YUP q⟩
def nM:gq:=⟨yD λv mh Q=>v.EA False λn=>YB5∧Z71,AV λae st bz q=>afs q λO e q=>afl q.1 ae st YUP q.2⟩
def EB(nm:String)(P:Ydu):Src:=⟨true,λO c e=>YbD none λx=>if YqS then some Y1K else none,P⟩
theorem elim_some{o:Y7G}{f:YO2}{b:β}(h:ZW3):∃a,f a=Y6e:=by cases o with
 |none=>exact Y08
 |some a=>exact⟨a,h⟩
theorem aft{p:Y1}[Decidable p]{a b:β}(h:(if p then Y0l else none)=Y6e):p∧a=b:=by
 by_cases q:p
 ·replace h:=YgC;exact⟨q,Y4v⟩
 ·replace h:=YgB;exact Y08
theorem afu{a:aI}{b:Ye}{p:Pos}{e:aI}(h:ZM4):YGx:=h▸rfl
theorem Ir{nm T:String}{P:Ydu}(az:YnV)(ah:ZHP)(iA:Yk1)(go:∀{g:G}{A:Around}{s0 s:Shared}{m0 m:ag}{vs:Y3}{xs:Yn}{es:Ye}{c6:Nat}{pos:Pos}{Q:Y1D},Y4n→YFh→Y3B→P vs m Q→WP g A ZJP YZ7 s):(EB nm P).pv:=
 ⟨λK L bq hm h=>YaP λx q=>(bq rfl).elim λas z=>z.elim λc6 z=>z.elim λp z=>by
  have q:=aft q;replace h:=d9 q.2 h;subst z;exact afr K L q.1 az ah iA h λA s0 m0 s m vs xs aG ae st bz q=>ZPU,
  λhm=>YaP λx O=>YIF λO z=>z.elim λO z=>afu z⟩
theorem a9.one{v:V}(r:a9 h xs [v]):∃x,xs=[x]∧Y2G:=r.un λx bf e a b=>⟨x,aj e (congrArg _ b.jh),a⟩
theorem a9.two{v u:V}(r:a9 h xs [v,u]):∃x y,xs=Y2F∧Y2G∧Yfz:=r.un λx bf e a b=>b.one.elim λy q=>⟨x,y,ZEX,a,q.2⟩
theorem rr{f:Y5R}{P:Y1}(h:one vs False f)(k:∀v,vs=[v]→f v→P):P:=by
 cases vs with
 |nil=>exact h.elim
 |cons v r=>cases r with
  |nil=>exact k v rfl h
  |cons _ _=>exact h.elim
theorem uI{f:V→Y5R}{P:Y1}(h:two vs False f)(k:∀v u,vs=[v,u]→f v u→P):P:=by
 cases vs with
 |nil=>exact h.elim
 |cons v r=>exact rr h λu e q=>k v u YAn q
def yE:gq:=⟨EB "enumerate" λvs mh Q=>Mine.Internal.one vs False λv=>lst v mh λa t l=>Q YWZ YHW mh,
 Ir (T:="enumerate") YC Y1G ZL λae st bg q=>rr q λO e q=>jN q λO O O aC hm q=>YaR λO z=>YIM▸(z.2.fP aC).symm▸afm ae st hm q⟩
def It:gq:=⟨EB "enumerate" λvs mh Q=>Mine.Internal.one vs False λv=>v.eM False λl=>Q YWZ jj mh,
 Ir (T:="enumerate") YC Y1G ZL λae st bg q=>rr q λO e q=>lJ q λO aC q=>YaR λO z=>YIM▸afn ae st (aC▸z.2) q⟩
def Qj:gq:=⟨EB "zip" λvs mh Q=>Mine.Internal.two vs False λv u=>v.eM False λl=>u.eM False λm=>m.length=l.length∧Ymj∧m.all sO=true∧Q (qr l m) jj mh,
 Ir (T:="zip") YC Y1G ZL λae st bg q=>uI q λO O e q=>lJ q λO aJ q=>lJ q λO aC q=>(e▸bg).two.elim λO z=>z.elim λO z=>YIM▸afp ae st (aJ▸Z4) (aC▸Z3) q.1 YG Yq.1 Yq.2⟩
def mi(h:Heap)(D:Nat)(acc:Y3):Y1:=∃xs ep,h.get? D=Y85∧a9 h xs acc
def sP(g:G)(k:Nat)(env:Env)(ns:YH)(r:bG)(mh:ag)(ifs:Ye)(Q:Y0i):Y1:=
 ∀A s,Z5→YU→Y1d→fW g A cX s mh Yka Z6e
theorem Qk{Q:Y0i}(h:Z76):sP g k env ns r mh [] Q:=λA s aG ae aN=>wpAny_tests_nil ⟨mh,ae,Yy,h⟩
abbrev afv(g:G)(env:Env)(ns:YH)(s:Shared)(mh:ag)(Q:Y7Z)(s':Shared)(bI:bG):Y1:=hr Y4D YKQ (de g env ns bI mh s') (Q bI)
def sQ(g:G)(k:Nat)(env:Env)(ns:YH)(r:bG)(tgt:aI)(weak:Bool)(v:V)(Q:Y7Z):Y1:=
 ∀A s mh x,Z5→YU→Y1d→uD weak s.heap x v→WP g A YKu (λO s'=>∃bI,afv g env ns s mh Q s' bI) s
abbrev rt(g:G)(wr Y:Yo)(D:Nat)(s0:Shared)(m0:ag)(s:Shared)(m:ag)(acc:Y3):Y1:=iG Y4n (Step Y s0 m0 s m) Ymp YVr (m D=none)
variable{acc:Y3}{D:Nat}{ab:ag}
theorem rt.hc{X:Yo}(x:YWy)(lv:YnA)(ae:YAL)(st:Z81)(jO:∀b,X b→Y b)(afw:¬X D):rt g wr Y D s0 m0 s' ab acc:=
 ⟨ae,Zeb (st.weaken jO),x.3.step lv st,x.4.imp λxs q=>q.imp λep q=>⟨Y0f _ _ q.1 x.5 afw,Y82 Y5k⟩,x.4.elim λO q=>q.elim λO q=>st.out q.1 x.5⟩
theorem ha.sR{X:Yo}{n:Nat}{weak:Bool}{v:YKG}{St:Y49}(W:ZQi)(h:YKP)(w:Ymp)(st:Z81)(wB:∀b,Y3P→¬X b):St i s'.heap:=
 W.2 _ _ _ h (λb o ah e=>Y0f b o e (w b ah).1 ZdZ) Y5k
theorem mi.append{v:Value}{x:V}{Q:Y8}(y:YVr)(ae:YU)(iL:ZUq)(hz:Y8s)(bz:aK s.heap v x)(h:∀u s',Y4D→Step (·=D) s mh s' mh→mi s'.heap D Ygl→Q u s'):WP g A (call YPX [Y2g,v]) Q s:=
 y.elim λxs q=>q.elim λep q=>call_meets abV (ou q.1) F.entry_list_append ZFO (axZ D Z1 ep v (aj Y0D (aj q.2.length YGe))) ⟨q.1,by
  have cR:=Ea (f:=Ymn) (o':=jZ Zes (if(bT Zes).size==Y2N then ep else Y96)) q.1 (Pl Ygd) rfl;have a:=sL (wr:=(·=D)) (s':={s with heap:=s.heap.update D (Ymn)}) ae (λO e=>aa e iL) (λO e=>⟨_,aa e q.1,Az _ _⟩) (λb O nb e=>((km s.heap D (Ymn)).2 b nb).trans e) (λO e=>⟨_,YaC cR,Az _ _⟩) rfl rfl;exact h _ _ a.1 a.2 ⟨_,_,cR,(Y82 Y7K).append (a9.cons Yi9 a9.nil)⟩⟩
theorem de.apart(x:Y1d)(fr:Ysl)(a:Nat)(h:YMa):YrG:=λq=>h.elim
 (λe=>YY2 λO z=>(AI z.1).elim λO z=>z.elim λO z=>z.elim λO z=>g7 z.1 (aV e Ykb))
 λh=>h.elim λn e=>(x.8 n a e).2.elim λv z=>z.elim λo z=>g7 z.1 Ykb
theorem de.gone(x:Y1d)(c7:YMA)(h0:YIl):de g env ns r mh s':=
 ⟨x.1,
  x.2,
  x.3,
  x.4,
  Yqb λm q=>⟨AH q.1 λO e=>YGG _ _ ZQK e,λi n v ak av aP=>Yav λO z=>⟨z.1,ZfP⟩⟩,
  x.6,
  λi n v ak av aP=>YzW λc q=>q.imp λy q=>⟨q.1,uA YG λO e=>YGG _ _ ZQM e,YDt c7.2⟩,
  λn c h=>have q:=Zed;⟨q.1,YMr λO z=>uA z λO e=>YGG _ _ ZQL e⟩,
  x.9⟩
variable{elt:aI}{iter:aI}{ifs:Ye}{scope:Scope}{gens:YCO}
theorem afx{depth:Nat}{it acc:Value}(cR:ZPL)(aE:ZPK):
  compTurn YEr depth it acc env=(do
   standAt iter.pos
   match ←ZXg with
   |none=>ZXP
   |Ym=>
    letOwnedTupleGo tgt it v
    assign tgt env v
    let ok ←Yka
    if ok then
     (do let _ ←call YPX [acc,←Yk9])
    again (Y5z YEr depth it acc env)):=by
 dsimp only [compTurn];simp only [cR,aE];rfl
theorem drop_cons{v:V}(h:YEC=Y0O):ZRB∧ZdE=v∧vals.drop (i+1)=vs:=by
 have af:ZRB:=Dl λq=>gP _ _ (cA h (List.drop_of_length_le q));replace h:=aQ (NV af) h;exact⟨af,cA YRI YUk.1,YUk.2⟩
theorem Iu(h:YEC=[])(le:YmB):i=vals.length:=mG le (OE h)
theorem EC{n:Nat}(h:i<n):n - (i+1)<n - i:=ayd h YWF
def ED(g:G)(k:Nat)(env:Env)(ns:YH)(r:bG)(tgt:aI)(weak:Bool)(ifs:Ye)(elt:aI)(v:V)(acc:Y3)(m:ag)(N:Ys):Y1:=
 sQ g k env ns r tgt weak v λb6=>Ysg∧sP g k env ns b6 m ifs λok aH=>cond ok (Ev g k env ns b6 aH Yk9 λx bF=>Y8s∧N Ygl bF) (N acc aH)
abbrev Ql(g:G)(env:Env)(ns:YH)(r:bG)(wr Y:Yo)(D:Nat)(s0:Shared)(m0:ag)(vals:Y3)(St:Y49)(P:Y1O)(n:Nat)(s:Shared)(i:Nat)(m:ag)(acc:Y3):Y1:=yc ZVS YWy YLS YKP (P YEC acc m) YmB
theorem Qm{depth:Nat}{weak:Bool}{St:Y49}{K:Ys}{R:Y4A}{P:Y1O}(cR:ZPL)(aE:ZPK)(aG:Z5)(W:YlS)(iL:YNz)(AW:YrF)(ap:YIl)(uJ:Ysk)(Iv:YDG)(az:ZlU)(ao:∀v vs acc m,Z6S→Y3K∧ED g k env ns r tgt weak ifs elt v acc m ZiZ)(gI:Ysh)(cs:YWy)(aN:YLS)(h0:YRd)(h:Z6Z):codeAny Yu A (Y5z YEr depth Y1C Y2g env) R s:=by
 let J:YRK:=Zjb;refine codeAny_loop rfl J ?_ vals.length Zmi;intro n s1 aq;refine ZEm;show wpAny Yu A ((compTurn YEr depth Y1C Y2g env).onRaise Zl1) _ _ s1;refine wpAny_noted (cb (afx cR aE) ZeB);intro Ph Pj adQ;refine Yhp;have ak:=L.5
 cases hd:YEC with
 |nil=>
  replace ak:=YHE;have q:=ZFe;have e:=Z4q;refine Yg;intro azP azQ azR;refine Z8o
 |cons v vs=>
  replace ak:=YHE;have q:=ZEj;have d:=YjT;let Qo:YP:=λs'=>∃m,And (m<n) (J m s');let AX:Y8:=λx s2=>WP g A YKu (λO s3=>WP g A Yka (λok s4=>
    cond ok (WP g A Yk9 (λy s5=>WP g A (call YPX [Y2g,y]) (λO s'=>Qo s') s5) s4) (Qo s4)) s3) s2
  refine Yg;intro azS azT azU;refine Z8s
  ·have lj:=Z56;replace bg:=YhW;refine YyS;have afy:=Z8m;have iZ:=lj.hc afy z.1 z.2 Zho Yzk;have fJ:=W.sR wC lj.3 z.2 (Yrg:Ysn);refine Yzf λok s4 y=>y.elim λeK y=>?_;have nN:=iZ.hc Z8k y.1 y.2 Y34 id;have mT:=W.sR fJ iZ.3 y.2 YrT
   cases ok with
   |false=>exact⟨_,L.1▸Z3q,i+1,eK,EE,rfl,nN,(YYJ y.2).Ia z.4.1,mT,aa YTj y.3,d.1⟩
   |true=>
    refine(y.3 A s4 aG y.1 Yr1).mono λu s5 p=>p.elim λi0 p=>p.3.elim λazV uL=>?_;have pz:=nN.hc (W.1 _ _ mT) p.1 p.2 Y34 id;have ru:=W.sR mT nN.3 p.2 YrT;exact pz.4.append p.1 ⟨pz.5,Iv⟩ uL.2.1 uL.1 λu AY ia EF Iw=>⟨_,YgR,i+1,i0,_,rfl,⟨ia,pz.2.trans (EF.weaken λb h=>Zbs),(ZXh Z8l EF),Iw,pz.5⟩,(((YYJ y.2).ez p.2).step EF λO aD q=>AW (q▸aD)).Ia z.4.1,W.sR ru pz.3 EF λO ah q=>ZRH,aa YTj uL.2.2,d.1⟩
  ·have f3:=z.1;subst f3;refine Yg;intro azW azX azY;refine bd (YYI λO s3 gD=>bd (gD.mono λO s4 oy=>bd (oy.mono λok s5 qs=>?_)))
   cases ok with
   |false=>exact wpAny_pure ⟨rfl,qs⟩
   |true=>exact bd (bd (qs.mono λO O wD=>bd (wD.mono λO O EG=>wpAny_pure ZeL)))
def jz(P:Y1O)(need:Y6)(K:Ys)(T:YKU):Y1:=
 ZlU∧∀v vs acc m,Z6S→Y3K∧T v acc m ZiZ
def Qq(g:G)(k:Nat)(env:Env)(ns:YH)(r:bG)(t1:aI)(dD:Bool)(cy:aI)(w2:Bool)(dt elt:aI)(ifs:Ye)(v:V)(acc:Y3)(m:ag)(N:Ys):Y1:=
 sQ g k env ns r t1 dD v λb6=>Ysg∧ow g k env ns b6 m cy w2 Yk8 λvals2 Iy aH=>
  ∃P:Y1O,P vals2 acc aH∧jz P Iy N λv acc m N=>ED g k env ns b6 cy w2 ifs elt v acc m N
theorem afz{t1 dM cy dt:aI}{it acc:Value}:
  compTurn Y6u 0 it acc env=(do
   standAt dM.pos
   match ←ZXg with
   |none=>ZXP
   |Ym=>
    letOwnedTupleGo t1 it v
    assign t1 env v
    let x ←Yk8
    ZbA
    let x ←YkZ;let _ ←runOwn (YEv Y6u 1 (←holding [x] YMp) acc env) env
    again (Y5z Y6u 0 it acc env)):=by
 rfl
theorem afA{t1 dM cy dt:aI}{it acc:Value}{R:Y4A}(h0:codeAny Yu A (Y5z Y6u 1 it acc env) R s)(h:wpAny Yu A (pyIter it) (λuM s'=>codeAny Yu A (Y5z Y6u 1 uM acc env) R s') (notedBy Yu A env λx s'=>R (Y6y x) s') s):
  codeAny Yu A (YEv Y6u 1 it acc env) R s:=by
 refine YLK;show wpAny _ _ ((compStart Y6u 1 it acc env).onRaise (λx=>do ZVq;standAt theWindowsPlace)) _ _ s;refine wpAny_notedAt ?_;show wpAny _ _ (ask >>= _) _ _ s;refine Yg;intro azZ az0 az1;refine bd (wpAny_askSetting (wpAny_ite ?_))
 split
 ·first
  |exact bd (wpAny_pure ZeD)
  |exact ZeD
 ·first
  |exact bd (wpAny_rule ZHA)
  |(refine ZH7;show wpAny _ _ (ZbA >>= _) _ _ s;exact ZHA)
def afB(R:YP)(r:Result)(s':Shared):Y1:=match r with
 |.ok _=>R s'
 |Y6y _=>False
theorem afC{t1 dM cy dt:aI}{dD w2:Bool}{St:Y49}{K:Ys}{R:Y4A}{P:Y1O}(hs:ZmG)(aG:Z5)(W:ha g A t1 I vals.length dD YYw need wr St)(iL:YNz)(AW:YrF)(ap:YIl)(uJ:Ysk)(Iv:YDG)(T:ZSd)(gI:Ysh)(cs:YWy)(aN:YLS)(h0:YRd)(h:Z6Z):codeAny Yu A (Y5z Y6u 0 Y1C Y2g env) R s:=by
 have wB:Ysn:=Yrg;let EH:YRK:=Zjb;let ex:aI:=Y6u;refine codeAny_loop rfl EH ?_ vals.length Zmi;intro n s1 aq;refine ZEm;show wpAny Yu A ((compTurn ex 0 Y1C Y2g env).onRaise Zl1) _ _ s1;refine wpAny_noted (cb afz ZeB);intro ad9 aea aeb;refine Yhp;have ak:=L.5
 cases hd:YEC with
 |nil=>
  replace ak:=YHE;have q:=T.1 _ _ ak;have e:=Z4q;refine Yg;intro az2 az3 az4;refine Z8o
 |cons v vs=>
  replace ak:=YHE;have q:=T.2 _ _ _ _ ak;have d:=YjT;let eC:Y4A:=afB λs'=>∃m,And (m<n) (EH m s');let AX:Y8:=λx s2=>WP g A (assign t1 env x) (λO s3=>WP g A Yk8 (λy s4=>WP g A YoI (λIz s5=>codeAny Yu A (YEv ex 1 Iz Y2g env) eC s5) s4) s3) s2;refine Yg;intro ae1 ae2 az5;refine Z8s
  ·have lj:=Z56;replace bg:=YhW;refine YyS;have iZ:=lj.hc Z8m z.1 z.2 Zho Yzk;have fJ:=W.sR wC lj.3 z.2 wB;refine Yzf λy s4 oy=>oy.mono λIz s5 qs=>qs _ λvals2 Iy i0 afD wF az6 J qs=>qs.elim λAZ wD=>?_;have lK:=YdV;have Qs:=Z8k;have pz:=iZ.hc Qs J.2 J.3 Y34 id;have ru:=W.sR fJ iZ.3 J.3 YrT;have Qt:∀{b o},s3.heap.get? b=YB→¬wF b:=λe q=>g7 e (J.7 _ q);have nw:∀b,Y3P→¬ZGA:=λb ah q=>q.elim (λq=>ZRH) λq=>q.elim ZdZ λq=>(Qs b ah).elim λo y=>Qt y.1 q;have loop:codeAny Yu A (Y5z ex 1 (Y0 afD) Y2g env) eC s5:=by
    refine Qm (Y:=λb=>ZGA) (s0:=s5) (m0:=i0) rfl rfl aG lK (iZ.4.elim λO y=>y.elim λO y=>Qt y.1:¬wF D) AW (z.3.apart J.7:∀a,YMa→¬wF a) Y89 Iv wD.2.1 wD.2.2 ?_ ⟨J.2,Yy,J.6,pz.4,pz.5⟩ (YYJ J.3) J.5 wD.1;intro afE pA Qp AY EI c7 ia afF Iw ax;exact⟨_,YgR,i+1,pA,afE,rfl,⟨ia,iZ.2.trans (Step.unfresh (wr:=wF) (c7.step ((Z4t (Y:=λb=>Y b∨wF b) Y34).trans (EI.2.weaken λb h=>h.elim (λh=>YY Zbs) λh=>h.elim (λh=>YY Ypi) YJ)) J.7) J.7:Step Y s3 m1 AY pA),(ZXh Z8l EI.2),Iw,EI.5⟩,afF.Ia z.4.1,(W.2 _ _ AY.heap (W.sR ru pz.3 EI.2 nw) (λb o ah e=>YGG b o (λq=>nw b ah Z0d) e) c7.2),aa YTj ax,d.1⟩
   exact J.1.symm▸afA loop (wpAny_mono (lK.5 0 s5 (λuM s'=>codeAny Yu A (Y5z ex 1 uM Y2g env) eC s') J.5 loop) Y33 Y0E)
  ·have f3:=z.1;subst f3;refine Yg;intro afG afH az7;refine bd (YYI λO s3 gD=>bd (gD.mono λO s4 oy=>bd (oy.mono λy s5 qs=>bd (wpAny_standAt (bd (wpAny_of_eq (hs y) (bd (wpAny_holding (qs.mono λIz AY wD=>Yg)))))))));intro az8 az9 aAa;refine bd (wpAny_runOwn (codeAny_mono wD λr Qp EG=>?_))
   cases r with
   |ok f=>exact ZeL
   |error e=>exact EG.elim
abbrev Kinds:=Z5P
def mj(names:Kinds)(cells:Y7E):Y7E→Y7E:=names.rec id λx O ai cs=>cond YEG (ai YzV) ZDy
theorem Qu(n p:Str)(v:α)(r:YR7):YZZ=cond (n==p) Ym YoY:=by rw[nz];cases n==p <;> rfl
theorem oz{n p:Str}(v:α)(r:YR7)(h:n=p):YZZ=Ym:=Yus (by rw[h,beq_self_eq_true];rfl)
theorem oA{n p:Str}(v:α)(r:YR7)(h:n≠p):YZZ=YoY:=Yus (by refine dT (beq_eq_false_iff_ne.mpr h) ?_;rfl)
theorem nO{n:Str}{v:α}{r:YR7}(h:YoY=Ym):YEi∈r:=by
 induction r with
 |nil=>exact Y08
 |cons p r ai=>
  by_cases e:YMZ
  ·have:=cA ZWb h;exact xT.mpr (YY (iF e (cu this).symm))
  ·exact eI _ ZDu
abbrev A1(names:Kinds)(cells:Y7E):Y1:=∀x∈names,Yqa→(cells.lookup x.1).isSome=true
theorem some_of{o:Y7G}(h:o.isSome=true):∃a,YMh:=by cases o with
 |none=>exact Y0L
 |some a=>exact Yt8
variable{names:Kinds}
theorem afI(cs:Y7E)(h:A1 names env.cells):(forIn names cs λx r=>(if YEG then(do let a ←ZJh;pure (ub ((x.1,a)::r)))else ZXR):Sem Y7E)=pure (mj names env.cells cs):=by
 induction names generalizing cs with
 |nil=>rfl
 |cons x r ai=>
  refine aj Y4Q ?_;have ai:=λcs=>ai cs λy bb=>h y Yjf;have e:mj Yqd env.cells cs=cond YEG (mj r env.cells ((x.1,(env.cells.lookup x.1).getD 0)::cs)) (mj r env.cells cs):=rfl
  cases q:YEG with
  |false=>exact bW e (DF q (aT YDR ZDy))
  |true=>
   refine(some_of (h x b3 Y1e)).elim λa ao=>?_;have aC:ZJh=pure a:=dT ao rfl
   (refine bW e (DF q (aT Y0c (gz aC (aa ao ?_)))))
   exact ai _
theorem Qv(h:Z2l):closureFor scope env=pure YnK:=by
 have:=afI [] h;exact(congrArg (· >>= pure) this).trans ZI9
theorem afJ{cells cs:Y7E}{n:Str}{a:Addr}(hf:A1 names cells)(h:∀n c,cs.lookup n=Y0M→ZJi=Y0M)(e:Yxy n=Y0l):ZJi=Y0l:=by
 induction names generalizing cs with
 |nil=>exact h _ _ e
 |cons x r ai=>
  have yF:A1 r cells:=λy bb=>hf y Yjf;have e:Yw5 n=Y0l:=e
  cases q:YEG with
  |false=>replace e:=DH q e;exact ai yF h e
  |true=>
   replace e:=DH q e;refine ai yF (λm d bk=>?_) e;by_cases z:m=x.1
   ·refine(some_of (hf x b3 Y1e)).elim YOD;replace bk:=yj ah (aQ ZWa bk);exact(congrArg (λy=>cells.lookup y) z).trans (ah.trans bk)
   ·exact h _ _ (cA ZW8 bk)
theorem Qw{cells cs:Y7E}{n:Str}(h:(n,uc)∈names∨(cs.lookup n).isSome=true):(Yxy n).isSome=true:=by
 induction names generalizing cs with
 |nil=>exact h.elim Yru id
 |cons x r ai=>
  show(Yw5 n).isSome=true
  cases q:YEG with
  |false=>
   refine ai (h.imp (λh=>YBk Y6k id) id);have:Yqa:=(congrArg Prod.snd h).symm;replace q:=eT this q;exact nb q
  |true=>
   refine ai ?_;by_cases z:n=x.1
   ·exact YJ (by rw[ZWa];rfl)
   ·exact h.imp (λh=>YBk (λh=>absurd ZK9 z) id) λh=>aX ZW8 h
theorem Qx{x:Str}{dI:NameKind}(h:names.lookup x=some dI):Yy5=some dI∨
  (dI=Y6z∧Yy5=Y2y):=by
 induction names with
 |nil=>exact Y08
 |cons p r ai=>
  refine gT mF ?_;by_cases e:YY6
  ·have aR:=c4 ZWb h;by_cases q:YEj
   ·refine YJ ⟨cA aR (eq_of_beq (cL YAX.1).1),?_⟩;show YQx;exact gS ZU Ynv
   ·refine YY ?_;show YQx;exact gS ZN ((oz _ _ e).trans (congrArg some aR))
  ·have ai:=ZDu;show YQx∨(dI=Y6z∧YQx)
   by_cases q:YEj
   ·rw[ZU,YWG];exact ai
   ·rw[ZN,YWG];exact ai
def inR(n:Nat)(caps:YV)(r:bG):bG:=n.rec ZJW λO ai=>none::ai
def A2(own:YH)(caps:YV)(ns:YH):YH:=own++caps.map λj=>(ns[j]?).getD jc
def sS(scope:Scope)(own:YH)(caps:YV)(c:bP):bP:=⟨scope.names,A2 own caps c.ns⟩
def kindB(c:bP)(names:Kinds)(x:Yew):Bool:=x.2.casesOn (names.lookup x.1==Y2z) false (YLA==Y2y||YLA==Y6d) true true
def IA(c:bP)(scope:Scope)(own:YH)(caps:YV):Bool:=scope.kind==Y5K&&(scope.names.all (kindB c scope.names)&&(decide YuM&&caps.all λj=>(c.ns[j]?).elim false λm=>ZZa==Y6d))
abbrev Inner(c:bP)(scope:Scope)(own:YH)(caps:YV):Y1:=yc (∀x∈scope.names,Yqa→YLA=Y2y∨YLA=Y6d) (∀y∈scope.names,y.2≠YPY) (scope.kind=Y5K) (∀y∈scope.names,y.2=YPk→scope.names.lookup y.1=Y2z) YuM (∀j,j∈caps→∃m,YiG∧ZZa=Y6d)
variable{caps:YV}
theorem Qy{c:bP}{own:YH}(h:IA c scope own caps=true):Y7C:=by
 refine Zdf;have aR:∀x∈scope.names,kindB c scope.names x=true:=ju bC;refine⟨YsT,YsT,Y97,YsT,of_decide_eq_true d4,ZjH⟩
 ·have:=YgH;unfold kindB at this;replace this:=Yhb;exact(gG this).imp eq_of_beq eq_of_beq
 ·have:=YgH;unfold kindB at this;replace this:=Yhb;exact YnU
 ·have:=YgH;unfold kindB at this;replace this:=Yhb;exact ZNE
 ·have:=ju hJ j aM
  cases e:ZId with
  |none=>replace this:=ZPS;exact YnU
  |some m=>replace this:=ZPS;exact⟨m,rfl,ZNE⟩
theorem IB{n:Nat}{i:Nat}{v:V}(h:ZRo[i]?=Y0e):∃f5 j,i=n+f5∧ZJX∧ZYf:=by
 induction n generalizing i with
 |zero=>
  have h:ZJW[i]?=Y0e:=h;replace h:=ZBn;refine YZm λj q=>⟨i,j,(l8 i).symm,q.1,?_⟩
  cases z:r[j]? with
  |none=>replace q:=HH z q;exact cW q.2.symm
  |some o=>replace q:=HH z q;exact congrArg some q.2
 |succ n ai=>
  cases i with
  |zero=>exact ZDR
  |succ i=>exact(ai h).imp λf5 q=>q.imp λj q=>⟨(congrArg Y3m q.1).trans (Nat.succ_add n f5).symm,q.2⟩
theorem Qz{own:YH}{f5:Nat}{x m:Str}(h:(A2 own caps ns)[own.length+f5]?=YQ)(aM:ZJX)(hm:Yna):x=m:=by
 unfold A2 at h;replace h:=bN aM (aQ (gy) (bN (Nat.add_sub_cancel_left ..) (aQ (ra Yk) h)));exact cA Y4v (congrArg (λo:Option Str=>o.getD jc) hm)
noncomputable abbrev ml (scope:Scope) (env:Env) (C:Nat):Env:=compEnvC scope YnK C env
theorem Inner.has{c:bP}{own:YH}(N:Y7C)(L:ZI):Z2l:=λx aq hf=>(L.2 x.1 (N.1 x aq hf)).elim λa q=>by rw[q.1];rfl
theorem Inner.old{c:bP}{own:YH}(N:Y7C)(L:ZI){n:Str}{a:Addr}(e:Yxz):YUA:=afJ Ye6 ZgQ e
theorem Inner.QA{c:bP}{own:YH}(N:Y7C)(L:ZI):eO Y4P (sS scope own caps c):=
 ⟨λn k h=>Qx h,
  λO h=>h.elim (λh=>absurd rfl (N.2 _ ZVY)) λh=>(some_of (Qw (cells:=env.cells) (cs:=[]) (YY ZVY))).imp λO q=>⟨q,λh'=>absurd (c4 h h') YIk⟩⟩
theorem Inner.aN{c:bP}{own:YH}(N:Y7C)(L:ZI)(aN:Y4J)(QB:ZUo){m:YAG}(yG:de g env c.ns r mh s')(az:ZZ3):de g Y4P YJQ YM3 mh s':=
 ⟨N.3,
  aN.2,
  aN.3,
  N.5,
  ⟨m,az,λi n v ak av aP=>by
  refine Yub;have e:=Z7D;exact(Qx (env:=env) z.2).elim (λy=>absurd (c4 aP (YaC y)) YIk) λy=>absurd (c4 aP (YaC y.2)) YIk⟩,
  QB,
  λi n v ak av aP=>by
  refine Yub;have e:=Z7D;have aq:=nO z.2;refine(yG.7 j x v z.1 Yq ((N.1 _ aq rfl).elim (λw=>Yue YY λw=>o8 w.1) λw=>Yue YJ λw=>YY w.2:Yjt=Y2y∨Yjt=Y6d)).imp λa w=>w.imp λy w=>⟨(some_of (Qw (cells:=env.cells) (cs:=[]) Z0X)).elim λjf p=>YCa,w.2⟩
  exact p.trans (cA (N.old L p) w.1),
  λn a e=>yG.8 n a YRG,
  λn ey a e bk=>yG.9 n ey a YRG (N.old L bk)⟩
theorem adopt(ae:YU)(dl:YVr)(hm:ZUp)(bJ:YDG):a5 g ZcT s:=
 ⟨Y5U,
  λb o e x aq=>Y7R b o e x (cA (dE λq=>g7 e (YaD bJ)) aq),
  λb u o e=>by
  by_cases q:b=D
  ·subst q;have:=(gQ (c4 (bw mh b YPK) e)).2;exact aV this dl
  ·exact(Y7S b u o YiS).keep Y3V rfl λd om z=>⟨rfl,dE λbS=>g7 z ((congrArg mh bS).trans hm)⟩,
  YFv,
  YFw⟩
theorem QC{X:Yo}(st:Yeq)(iL:s0.heap.get? D=none):Step X s0 m0 s ZcT:=
 ⟨Y0f,λb e=>by
  by_cases q:b=D
  ·exact YJ (aa q iL)
  ·exact(Zb b e).imp (λz=>YBj z) id,st.3,Y5k⟩
theorem Step.mm(st:YRf):YRe:=st.weaken Y34
theorem afK{c:bP}{own:YH}{it:Value}{P:Z8h}{St:YFK}(N:Y7C)(L:ZI)(ae:YU)(aN:Y4J)(afL:Z7y)(afM:∀h',Z7y→Y9E→St h')(afN:∀b,Y3P→∃o,Y9Y)(ap:YIl)(loop:∀C D s1,C≠D→ZZD→ZZC→ZUq→ZUo→Yfd→Yes→de g Y4P YJQ YM3 mh s1→mi s1.heap D []→St s1.heap→
   (∀b,ZN7→b=C)→(∀b,nF Y4P b→YYU∧b≠D)→
   codeAny Yu A (YEv YEr 0 it Y2g Y4P) YeM s1):
  WP g A YW4 (λacc IC=>WP g A ZVl (λA3 ID=>
   codeAny Yu A (YEv YEr 0 it acc Zfl) Z6U ID) IC) s:=by
 refine Y0K;intro afO afP;refine wpAny_newObj_type (wpAny_newFunctionEnv N.2 (λO bb=>ZDV) (λqt IE EJ=>?_) N.3);dsimp only at IE EJ ⊢;generalize IF:s.heap.push {cls:=Y4e,dict:=none,data:=YcQ}=hK at IE EJ ⊢;have gE:hK.objs.size=Y1J:=k7 IF (YBJ);have le:s.heap.objs.size≤hK.objs.size:=aa gE Y1I;have old:hU s.heap qt:=λb o e=>
  EJ.extBut b o (ej (ew (YDB:ZG9) le)) (eu _ (aV IF Y5a))
 have qq:Zlf:=Zhm;have mU:Zle:=Zhn
 have IG:s.heap.objs.size≠hK.objs.size:=λe=>NU _ (cA gE e.symm);have QD:∀n a,Yxz→ZAv:=λn a e=>(aN.8 n a YRG).2.elim λv q=>q.elim λo q=>fE q.1;have dl:mi qt s.heap.objs.size []:=⟨[],0,EJ.extBut _ _ IG (eu _ (aV IF ZW)),rfl⟩
 have st:Step cX s mh YYQ mh:=Step.grow (s':=YYQ) old;refine loop hK.objs.size s.heap.objs.size YYQ (q6 IG) (qq _ YW) (qq _ le) ZUX ZUY (ae.grow (s':=YYQ) old rfl rfl) st
  (N.aN L aN ZUY YKm IE) dl (afM _ afL old) (λb ah=>ah.elim id λq=>q.elim λn q=>?_) (λb ah=>ah.elim Y5F λq=>q.elim YsA)
 ·exact absurd (ew (QD n b YG) le) (Nat.lt_asymm Yq)
 ·exact⟨λq=>(afN _ q).elim λO aA=>ye le (fF (dH (e:b=hK.objs.size).symm) YDA),λq=>IG (cA q e)⟩
 ·exact⟨ap b (YJ ⟨n,YRG⟩),ej (QD n b e)⟩
abbrev CompEnd(g:G)(s:Shared)(mh:ag)(C D:Nat)(acc:Y3)(aW:ag)(s':Shared):Y1:=yd Yfc Yer (∃m,ZZ3) YnJ (D≠C) (aW D=none∧YDG) (aW C=none∧Ykg) ZZD ZZC
theorem afQ{m:YAG}(az:h.Ns C m)(o:Obj)(e:YUq=YB):YNy:=(AI az).elim λo' q=>q.elim λes q=>q.elim λep q=>by
 have hd:=(congrArg ua (c4 e q.1)).trans q.2;exact λz=>z.elim (λz=>YIO λO z=>vX (cA hd z)) λz=>z.elim λO z=>z.elim λO z=>vX (cA hd ZKF)
theorem QE{oB:YAG}(az:s.heap.Ns C oB)(hs:mE C s.heap h'):j4 YbG s Yx:=
 ⟨λb o nb e=>YxP,
  λb o e t=>(Y17 b λq=>absurd t (afQ az o ZCQ)).trans e⟩
theorem mi.gone(x:YVr)(c7:YMA)(iL:YNz):YnJ:=x.imp λxs q=>q.imp λep q=>⟨YGG _ _ iL q.1,Y82 c7.2⟩
theorem CompEnd.gone(x:CompEnd g s mh C D acc ab s')(hs:mE C s'.heap h'):a5 g ab YYR∧Step cX s mh YYR ab∧mi h' D acc:=x.3.elim λoB az=>
 have c7:=QE az hs
 ⟨c7.abs x.1 (λb YIz=>aV ah.symm x.7) rfl rfl,c7.step x.2 λb YIz=>aV ah.symm x.9,mi.gone (s':=YYR) x.4 c7 x.5⟩
def yH(g:G)(k:Nat)(env:Env)(ns:YH)(r:bG)(e tgt:aI)(weak:Bool)(K:Ys)(vals:Y3)(need:Y6)(m:ag):Y1:=
 ∀(A:Around)(I:Nat)(wr Y:Yo)(St:Y49)(D:Nat)(R:Y4A)(s0 s:Shared)(m0:ag),Z5→YlS→
  YNz→YrF→YIl→Ysk→YDG→
  Ysh→
  rt g wr Y D s0 m0 s m []→YLS→YRd→codeAny Yu A (Y5z e 0 Y1C Y2g env) R s
theorem afR{weak:Bool}{K:Ys}{P:Y1O}(h:Z6Y)(T:jz P need K λv acc m N=>ED g k env ns r tgt weak ifs elt v acc m N):yH g k env ns r (YEq elt [YZR] scope pos) tgt weak K vals need m:=
 λA I wr Y St D R s0 s m0 aG W ak av aP da fG gI cs aN h0=>Qm rfl rfl aG W ak av aP da fG T.1 T.2 gI cs aN h0 h
theorem afS{t1 dM cy dt:aI}{dD w2:Bool}{K:Ys}{P:Y1O}(hs:ZmG)(h:Z6Y)(T:ZSd):
  yH g k env ns r Y6u t1 dD K vals need m:=
 λA I wr Y St D R s0 s m0 aG W ak av aP da fG gI cs aN h0=>afC hs aG W ak av aP da fG T gI cs aN h0 h
theorem QF{c:bP}{own:YH}{rest:YCO}{weak:Bool}{P:Z8h}{K:Ys}(N:Y7C)(L:ZI)(aG:Z5)(ae:YU)(aN:Y4J)(h:ow g k env c.ns r mh tgt weak YLe λvals need m=>∀C,yH g k Y4P YJQ YM3 Y5J tgt weak K vals need m)(dk:∀C D acc aW s',CompEnd g s mh C D acc aW s'→K acc aW→P Y2g C Z0x s'):
  WP g A YLe (λx hY=>WP g A YMp (λit yI=>WP g A YW4 (λacc IC=>WP g A ZVl (λA3 ID=>
   codeAny Yu A (YEv Y5J 0 it acc Zfl) Z6U ID) IC) yI) hY) s:=by
 refine Y0p λx s1 q=>q.mono λit s2 q=>q _ λvals need aH I wr St J q=>aa J.1 ?_;have W:=YdV;have wl:=W.1 0 s2.heap J.5;refine afK (wr:=wr) (St:=St 0) N L J.2 ZBi J.5 (λO qu b5=>W.2 0 _ _ qu (λb o O e=>YhJ) Y64) (λb ah=>(wl b ah).imp YYf) ZBh ?_;intro C D s3 afT iL gE IH QB dB fJ afU afV QG afW QH;have loop:codeAny Yu A (Y5z Y5J 0 Y1C Y2g Y4P) YeM s3:=by
  refine q C A I wr Zi3 St D _ s3 s3 aH aG W (λz=>(wl D z).elim λO y=>g7 y.1 iL:YNz) (λz=>(QH D z).2 rfl) (λa aD=>(QH a aD).1) Y89 IH.2 ?_ ⟨dB,Yy,J.6,afV,IH.1⟩ afU QG;intro acc ab s4 s' cs c7 jf yG afX ax;have QI:=yB J.3 iL;have QJ:=yB J.3 gE;exact dk C D acc _ s' ⟨jf,Step.unfresh ((c7.step (((J.3.trans fJ).weaken (Y:=Zi3) Y34).trans cs.2) J.7).weaken YO9) (λb z=>z.elim (λz=>aa z QI) λz=>z.elim (λz=>afW b z▸QJ) (J.7 b):∀b,YhP→Y6Z),yG.5.imp YYf,afX,q6 afT,⟨cs.5,IH.2⟩,yG.6,QI,QJ⟩ ax
 exact codeAny_compStart_list loop (wpAny_mono (W.5 0 s3 (λuM s'=>codeAny Yu A (Y5z Y5J 0 uM Y2g Y4P) YeM s') QG loop) Y33 Y0E)
theorem afY{c:bP}{own:YH}{rest:YCO}{weak:Bool}(hs:Yst)(N:Y7C)(L:ZI)(h:ZWY):
  Ev g k env c.ns r mh (eval Y5J env) Q:=λA s aG ae aN=>by
 refine aj (eval_ListComp ..) (wpAny_comprehension_free (use:=none) rfl hs Z7C N.3 N.4 (QF N L aG ae aN h λC D acc aW s' x ax=>x.3.imp λoB az=>⟨az,Zie⟩));have a:=x.gone gB;exact(ax D YY3).elim λt q=>⟨_,adopt (s:=YYR) a.1 a.2.2 YY3 x.6.2,QC a.2.1 x.8,_,Y7O,q⟩
abbrev II(g:G)(env:Env)(ns:YH)(s:Shared)(mh:ag)(Qn:Y5V)(Qr:Yj)(f:Flow)(s':Shared)(aW:ag):Y1:=jd Yfc (Step Y1V s mh s' aW) (f.casesOn (∃bI,de g env ns bI aW s'∧Qn bI aW) False False (λv=>∃m,ZBN∧Qr m aW))
def jk(g:G)(k:Nat)(env:Env)(ns:YH)(r:bG)(mh:ag)(t:Sem Flow)(Qn:Y5V)(Qr:Yj):Y1:=
 ∀A s,Z5→YU→Y1d→WP g A t (λf s'=>ZmN) s
variable{Qr:Yj}
theorem afZ{c:bP}{own:YH}{rest:YCO}{QK c5:Pos}{weak:Bool}{x:Str}{Qn:Y5V}(hs:Yst)(N:Y7C)(L:ZI)(A4:swapsWith Y5J (some YbM) QK.line env=YMn)(aq:Yjt=Y2z)(af:Y8y=YQ)(h:ow g k env c.ns r mh tgt weak YLe λvals need m=>∀C,yH g k Y4P YJQ YM3 Y5J tgt weak (λacc aH=>alloc aH Y4d λv bF=>Qn Y5g bF) vals need m):
  jk g k env c.ns r mh (exec (Y5x [YbM] Y5J QK) env) Qn Qr:=λA s aG ae aN=>by
 refine d9 (exec_Assign_Name_used _ _ _ _ A4) Yhp;show WP g A (do let _ ←comprehension Y5J scope env _ YW4 false YLe (some (assign YbM env))) _ s;refine Y0K;intro afG afH;refine bd (WP.mono (wpAny_comprehension_free (Q:=λO s'=>∃aW,II g env c.ns s mh Qn Qr Y8U s' aW) rfl hs Z7C N.3 N.4 (QF N L aG ae aN h λC D acc aW s' fY ax=>?_))
  λO O aF=>YqP)
 refine(ax D fY.6.1).elim YsL;have eX:Step cX s mh s' (upd aW D YPK):=QC fY.2 fY.8;have QL:upd aW D YPK C=none:=(dE fY.5.symm).trans fY.7.1;refine wpAny_assign_Name (Ib Yg9 (adopt (t:=t) fY.1 fY.4 fY.6.1 fY.6.2) (aK.oj D) af Z0X λs3 dB fJ c1=>fY.3.imp λoB az=>?_);have QM:s3.heap.Ns C oB:=AH az λo e=>fJ.1 _ _ e QL (λe=>aN.apart (wr:=YbG) (λO ah=>aa ah fY.9) C Yqw rfl:¬envX env C);refine⟨QM,Zie⟩;have c7:=QE QM gB;exact⟨_,c7.abs dB (λb YIz=>aV ah.symm (⟨QL,fY.7.2⟩)) rfl rfl,c7.step (eX.mm.trans fJ) λb YIz=>ah.symm▸fY.9,_,c1.gone c7 λa aD z=>aN.apart (wr:=YbG) (λb YIz=>aV ah.symm fY.9) a aD z,q⟩
def putAt(vs:Y3)(m:V):Nat→Y3:=vs.rec (λO=>[m]) λv r ai i=>i.casesOn (m::r) λi=>v::ai i
theorem key_is{e:DictEntry}{p:Str}(h:ZmX)(n:Str):YU2=ZWq:=h.elim λt h=>ZHr
theorem IJ{e:DictEntry}{p:Str}(h:ZmX):ZLv:=h.elim λt h=>dT h rfl
theorem ib.noRef{ns:YH}{xs:Z8}(r:YDO):xs.any Yzi=false:=by
 induction vs generalizing xs ns with
 |nil=>exact Yyd
 |cons v vs ai=>exact r.un λe e6 p nD aJ aC a b q=>by rw[aC,Ae,IJ a,ai q];rfl
theorem ib.length{ns:YH}{xs:Z8}(r:YDO):Yqj:=by
 induction vs generalizing xs ns with
 |nil=>exact Yiu
 |cons v vs ai=>exact r.un λe e6 p nD aJ aC a b q=>aa aC ZK5
theorem QN{n:Str}(e:DictEntry)(xs:Z8)(h:ZLv):getL n YjX=cond YU2 (some (some e.val)) Yku:=by
 refine dT (List.find?_cons) ?_
 cases YU2 with
 |true=>rfl
 |false=>(refine aa Ae (aa h (Ar (Bool.false_or ..) ?_)));rfl
theorem ib.none{ns:YH}{xs:Z8}{n:Str}(r:YDO)(az:n∉ns):Yku=Y3M:=by
 induction vs generalizing xs ns with
 |nil=>exact YSN
 |cons v vs ai=>
  exact r.un λe e6 p nD aJ aC a b q=>aX aC (aj Z7A (dT Ymd (dT (beq_eq_false_iff_ne.mpr λ(z:p=n)=>az (aa aJ (z▸b3))) (ai q λz=>az (aa aJ ZMV)))))
theorem ib.at{ns:YH}{xs:Z8}{n:Str}{i:Nat}(r:YDO)(bZ:ns.Nodup)(af:Y6Y){v:V}(aO:YIB):∃x,Yku=YXL∧Y2G:=by
 induction vs generalizing xs ns i with
 |nil=>exact g7 aO xV
 |cons u vs ai=>
  refine ZYQ;subst aJ;refine aa aC (aa Z7A ZCr)
  cases i with
  |zero=>
   have ar:p=n:=cu af;exact aa ar (aa Y3G (⟨_,rfl,cu aO▸b⟩))
  |succ i=>
   have bZ:=YE7;exact aa (beq_eq_false_iff_ne.mpr λ(z:p=n)=>YCq (z.symm▸ZNU)) (ai q YAV af aO)
theorem ib.put{ns:YH}{xs:Z8}{n:Str}{i:Nat}{m:V}{IK:Int}{tk:Tok}(r:YDO)(bz:Yfy)(bZ:ns.Nodup)(af:Y6Y)(aE:ZS5):ib h ns (putL n IK (Y4 n tk) x xs) ZXS:=by
 induction vs generalizing xs ns i with
 |nil=>
  have h0:i=0:=Am aE;subst h0;refine aX Y2O ?_
  cases ns with
  |nil=>exact cW af.symm
  |cons p nD=>exact ib.cons ⟨tk,congrArg (λz=>Value.str z tk) (cu af).symm⟩ bz rfl
 |cons u vs ai=>
  refine ZYQ;subst aJ;refine aX aC ?_;dsimp only [putL];refine ZCr
  cases i with
  |zero=>
   have ar:p=n:=cu af;exact aj (if_pos (aT ar Yht)) (ib.cons a bz q)
  |succ i=>
   have bZ:=YE7;exact aj (if_neg λ(z:ZWq=true)=>YCq ((eq_of_beq z).symm▸ZNU)) (ib.cons a b (ai q YAV af (NX aE)))
theorem af0{xs:Z8}{n:Str}(IK:Int)(key x:Value):(putL n IK key x xs).length≤xs.length+1:=by
 induction xs with
 |nil=>exact YW
 |cons e xs ai=>
  by_cases q:YU2=true
  ·exact aX ZU Y1I
  ·exact aX ZN YjK
theorem aK.handed{m:V}(r:Yfy):handedIn x=true:=by
 cases m with
 |none=>exact aa (r:x=Y7) rfl
 |bool b=>exact aa (r:x=Y1x) rfl
 |int i=>exact r.elim λt e=>YCd
 |str n=>exact r.elim λt e=>e.elim λy e=>aa e.2 rfl
 |ref a=>exact aa (r:Y86) rfl
 |kM n=>exact r.elim λa e=>e.1▸rfl
 |tup vs=>exact r.gj.elim λa e=>e.elim λO e=>ZD7
abbrev af1(K:Frag)(C:Nat)(l:YH):Y1:=yd (ZX8=true) (ZQj=true) (ZOW=YpC) (ZXB=true) (ZUc=true) (ZTF=true) l.Nodup ZTi (∀n∈l,(∃attr,YkV=some attr∧noGet K attr=true)∧Zbd=Y3M)
theorem EK{K:Frag}{l:YH}(h:classOk K C l=true):af1 K C l:=by
 refine OY h λbD bC d4 hJ i1 qv A5 u8 yJ=>⟨bD,bC,YLd,hJ,i1,qv,of_decide_eq_true A5,of_decide_eq_true u8,λn az=>?_⟩
 have q:=cL (ju yJ n az);refine⟨?_,ZNC⟩
 cases z:YkV with
 |none=>replace q:=OS z q;exact nb q.1
 |some attr=>replace q:=OS z q;exact⟨attr,rfl,q.1⟩
abbrev af2(g:G)(mh:ag)(s:Shared)(a C:Nat)(vs:Y3)(P:Y1):Y1:=∀(d u:Nat)(xs:Z8)(ep:Nat),InstAt s.heap a YNr C (some ZLX)→ib s.heap YGg xs vs→Y0u=YpH→ZUv→Y9Z→P
abbrev af3(g:G)(mh:ag)(s:Shared)(a C:Nat)(vs:Y3):Y1:=∀P:Y1,af2 g mh s a C vs P→P
theorem IL(ae:YU)(e:YHN):af3 g mh s a C vs:=
 (Y7S a t _ e).elim λd q=>q.elim λu q=>ZXm λxs z=>z.elim λep z=>(λO bA=>bA d u xs ep ⟨q.1,rfl,rfl,z.1⟩ z.2 q.1 YG z.1)
inductive IM(m:ag)(a C:Nat)(Q:YFT):Y1
 |mk (t:Nat) (vs:Y3) (h:m a=YBN) (q:YRW):IM m a C Q
def inst(v:V)(C:Nat)(mh:ag)(Q:YFT):Y1:=v.oi False λa=>IM mh a C Q
inductive EL(m:ag)(a C i:Nat)(Q:Yj):Y1
 |mk (t:Nat) (vs:Y3) (h:m a=YBN) (v:V) (aO:YIB) (q:Y39):EL m a C i Q
theorem IP{v:V}{Q:YFT}{P:Y1}(h:inst v C mh Q)(f:∀a t vs,YNW→YHN→YRW→P):P:=by
 cases v with
 |ref a=>exact IM.casesOn h ZkU
 |_=>exact h.elim
theorem af4{n:Str}{X:Yo}{l:YH}{v:V}{expr:Bool}(K:ZG)(hf:YFJ)(af:Ymq)(ae:YU)(e:YHN)(aO:YIB)(h:Y8e):fW g A X s mh (getAttr YA n expr) Zi:=
 YdP _ λd u xs ep I R j5 IQ A6=>by
  have kc:=YdZ;have c:=YQk;rw[kc.1]at R;exact(R.at c.7 af aO).elim λx z=>ZIZ.1.elim λattr w=>
   get_value YKA I YoB.1 (findObj_own c.2 w.1 w.2 ((lookIn_dict n xs ep).trans z.1)) z.2.handed (me _ ae z.2 h)
theorem af5{n:Str}{m:V}{Q:Y6}{l:YH}(K:ZG)(hf:YFJ)(af:Ymq)(ae:YU)(e:YHN)(aE:ZS5)(sT:vs.length≤100)(bg:aK s.heap x m)(h:Q (upd mh a (t,ZD C ZXS))):fW g A cX s mh (setAttr YA n x) YE8:=
 YdP _ λd u xs ep I R j5 IQ A6=>by
  have kc:=YdZ;have c:=YQk;have X:=YKA;refine(any_some c.2).elim λcd ao=>set_plain X I c.3 (osa_open (s:={s with toks:=YBI}) X I c.4 ZIZ.2 λb=>Yg);intro aAb aAc aAd;refine bd (wpAny_pure (bd (bd (wpAny_loadPart j5 (bd ((looks_clsIn (M:=Yu) X Y7U).at (aa ao.2 (wpAny_pure (a:=YNJ) (bd (wpAny_pure (bd (bd (bd (wpAny_askSetting (wpAny_pure (bd (wpAny_mkText (bd (wpAny_loadPart A6 ?_)))))))))))))))))));dsimp only;have af6:(! Yvo (·.key.isStr n)&&Yvo Yzi)=false:=by
   exact bN (Array.any_toList (as:=Z1) (p:=λe=>e.refKey)) (aX R.noRef (Ygb))
  have ar:(s.heap.update d (Obj.putName n Z6j Z2G x)).get? d=some (gU (putL n Z6j Z2G x xs) (putN n xs ep)):=Ea A6 (putName_dict ..) rfl;refine aa (aRefKeyMayBeTheName_at ..) (aa af6 (wpAny_updatePart A6 (bd (wpAny_lookBehind ar (pastItsLine_dict (aj Ac (au (af0 _ _ _) (dX (aa R.length (fZ (au sT Y2))))))) ?_))));have:=kc.1;exact wpAny_pure (adg (X:=cX) (R:=YE8) ae e j5 IQ YMJ ar (λkt=>this▸ib.put (this▸R.keep kt) (bg.keep kt) c.7 af aE) _ h)
theorem QO{n:Str}{f:Nat}{pl:YFf}{R:Z8e}{E:Y8}(K:ZG)(hm:YOT)(ae:YU)(e:YHN)(h:keepIn g.K Y2h=true→R (Y2h,Y8l) s):wpAny Yu A (getMethod YA n pl) R E s:=
 YdP _ λd u xs ep I R j5 IQ A6=>(K.4 C n f hm).elim λl z=>by
  have kc:=K.3 C l z.1;have c:=YQk;refine wj z.2 YYo;have az:n∉YGg:=aa kc.1 (λw=>absurd Yht (by have:=ju hJ n w;rw[jY]at this;exact dS this h8));exact method_fn YKA I YoB.1 YoB.2 Y97 YGb (by show(lookIn n ZLX).map _=_;rw[lookIn_dict,R.none az];rfl) (h d4)
def plainT(e:aI):Bool:=PySem.Expr.casesOn e Y1j Y0o Y19 Y1j Y19 Y1Y Y0o Y0o Y19 Y19 YrL Y19 Y0U Y0U Y0U Y1Y Y19 Y19 Y0U Y0o Y0o Y0o Y0U Y0U Y0U Y0o Y19
theorem QP{w:Y5P}(e:aI):YBA→isTrue e env w=(do let v ←w;standAt e.pos;holding [v] (truthy v)):=p7 e YIa ZR ZA YIa ZA YIY ZR ZR ZA ZA Y1i ZA Y0n Y0n Y0n YIY ZA ZA Y0n ZR ZR ZR Y0n Y0n Y0n ZR ZA
def oC(e:aI):Bool:=PySem.Expr.casesOn e Y0o Y0o Y19 Y0o Y19 Y19 Y0o Y0o Y19 Y19 YrL Y19 Y0U Y0U Y0U Y19 Y1Y Y19 Y0U Y0o Y0o Y0o Y0U Y0U Y0U Y0o Y19
theorem EM{n:Str}{w:Y5P}(e:aI):oC e=true→attributeBase e n env w=w:=p7 e ZR ZR ZA ZR ZA ZA ZR ZR ZA ZA Y1i ZA Y0n Y0n Y0n ZA YIY ZA Y0n ZR ZR ZR Y0n Y0n Y0n ZR ZA
theorem IS{Q:Y0i}{v:V}{P:Y1}(h:YmK)(f:∀b,v=Y1x→Q b mh→P):P:=by
 cases v with
 |bool b=>exact f b rfl h
 |_=>exact h.elim
theorem IT{Q:Y0i}{v:V}{E:Y8}{R:Y1n}(bz:Y2m)(h:YmK)(f:∀b,Q b mh→R b s):wpAny YR A (truthy x) R E s:=
 IS h λb e q=>by
  have aC:x=Y1x:=(aV e bz:aK s.heap x Y1x)
  exact jg aC (wpAny_truthy_bool (f b q))
theorem IU{e:aI}{Q:Y0i}(he:YBA)(h:Ev g k env ns r mh Y0s Y9L):kP g k env ns r mh YVF Q:=λA s aG ae aN=>
 wpAny_isTrue_value (Y0p ZgW) (QP e he)
theorem gH.mono{mh:ag}{es:Ye}{Q Q':Ys}(h:ZP2)(f:∀vs m,Q vs m→Q' vs m):gH g k env ns r es mh Q':=by
 induction es generalizing mh Q Q' with
 |nil=>exact f _ _ h
 |cons e es ai=>exact Ev.mono h λv m q=>ai q λvs m q=>f _ _ q
def lL(o:Op)(ar:∀{H c e es},YMg→YBA)(ev:ZmM):dj:=
 ⟨o,ev,λK L hm h=>IU (ar hm) (ev K L hm h)⟩
variable{args:Y3}
theorem aU.run{f:Nat}(h:YSK){vs:Yn}(aG:Z5)(ae:YU)(bz:YS4):fW g A cX s mh (call Y2h vs) Zi:=
 wpAny_call (codeAny_mono Yl6 λr s' z=>by
  rcases r with e | (v | _ | _ | _) <;> exact z)
theorem aU.mono{f:Nat}{Q':Yj}(h:YSK)(m:YZB):aU g k f args mh Q':=λA s vs aG ae bz=>
 codeAny_mono Yl6 λr s' z=>by
  rcases r with e | (v | _ | _ | _) <;> first | exact z.elim | exact z.imp λm1 z=>⟨z.1,z.2,z.3.imp λO q=>ZnY⟩
theorem aU.le{f:Nat}(h:aU g j f args mh Q)(l:YmM):YSK:=λA s vs aG ae bz=>h A s vs (aG.le l) ae bz
variable{fs:Y3}
theorem QQ{c:bP}{f:Value}{first:Yn}{es:Ye}{T:ag→Y7F}(K:ZG)(aR:keepIn g.K f=true)(hs:Y5f)(aG:Z5)(ae:YU)(aN:Y4J)(EN:a9 s.heap first fs)(h:gH g k env c.ns r es mh λvs m=>T m (fs++vs))(tg:∀m vs xs s,T m vs→Y4n→Y3B→fW g A cX s m (call f xs) Zi):fW g A cX s mh (callWith pos f first YSt []) Zi:=by
 exact aT YDk (callWith_of (P:=Yrw) Yi4 ZTH (uH lh (YPI λO s1 z=>z.elim λm1 z=>Y0g λO y=>⟨Y4g Y5E,nE z.2 (tg m1 _ _ s1 y.2 z.1 ((EN.keep YIN).append y.1))⟩)))
theorem af7{c:bP}{n:Str}{v:V}(K:ZG)(L:ZI)(aR:YGF)(ah:Y5v)(hm:YdM=Ym)(h:Y8e):Z3w:=λA s aG ae aN=>
 (K.1.4 n v hm).elim λx z=>Ew K.1 ae aN YN1 ah z.1 (qj ae (Y9e ae.afh) h)
theorem af8{c:bP}{n:Str}{hL:Nat}{p:Pos}{es:Ye}(K:ZG)(L:ZI)(aR:YGF)(ah:Y5v)(hm:YdM=some Z1u)(hs:Y5f)(h:gH g k env c.ns r es mh λvs m=>ZCH):Z3v:=λA s aG ae aN=>
 (K.1.4 n _ hm).elim λx z=>wpAny_Call_NameR (Ew K.1 ae aN YN1 ah z.1 ((z.2:x=Z1u).symm▸QQ (fs:=[]) (T:=λm vs=>ZCH) K (K.2 n hL hm) hs aG ae aN a9.nil h λO O O O q a1 bg=>q.run aG a1 bg))
variable{apos:Pos}
theorem QR{c:bP}{o:aI}{n:Str}{es:Ye}(ah:YB8)(sU:Y8F)(hs:Y5f)(hlen:YUI)(h:Ev g k env c.ns r mh Y7j λa m=>∀A s x pl s0 m0,Z5→Y4n→de g env c.ns r m s→ZBT→YFh→WP g A (getMethod x n pl) (λkQ s'=>WP g A (callWith pos kQ.1 kQ.2 YSt []) (hy g cX s0 m0 Zi) s') s):
  Z3u:=λA s aG ae aN=>by
 refine aj YSY (aT YQl (bd (Y0p λcF s1 z=>z.elim λm1 z=>Y0g λx q=>YL7)));have IV:ZUi:=by
  refine ZC5;unfold methodCallForm;have ak:Yx1:=ZbI
  exact gz ak ZLP
 have qw:ZUj:=YT6
 dsimp only [methodCall];exact aa IV (bd (wpAny_holding ((q.2 A s1 cF _ s mh aG z.1 Y2H q.1 z.2).mono λO O y=>bd (wpAny_of_eq qw y))))
theorem af9{c:bP}{o:aI}{n:Str}{es:Ye}{f:Nat}(K:ZG)(hm:YOT)(ah:YB8)(sU:Y8F)(hs:Y5f)(hlen:YUI)(h:Ev g k env c.ns r mh Y7j λa m=>inst a C m λO O O=>gH g k env c.ns r es m λvs aH=>aU g k f (a::vs) aH Q):Z3u:=
 QR ah sU hs hlen (h.mono λa m q A s x pl s0 m0 aG ae aN bg st=>IP q λp t vs e ar q=>by
  subst e;exact rk ((bg:x=Y0V)) (QO K hm ae ar λaR=>nE st (QQ (fs:=[Y0V]) (T:=λm vs=>aU g k f vs m Q) K aR hs aG ae aN (a9.cons ZBU a9.nil) q λO O O O q a2 bg=>q.run aG a2 bg)))
theorem aga{c:bP}{o:aI}{n:Str}{l:YH}(K:ZG)(hf:YFJ)(af:Ymq)(ah:YB8)(h:Ev g k env c.ns r mh Y7j λa m=>ZAP):Ev g k env c.ns r mh (eval (Y2f o n pos) env) Q:=λA s aG ae aN=>by
 refine aj (arm_eval_Attribute ..) (aT YQl (bd (Y0p λcF s1 z=>z.elim λm1 z=>Y0g λx q=>bd (wpAny_standAt (bd (wpAny_holding (yC q.2 λp e ck=>EL.casesOn ck λt vs ar v IW IX=>?_)))))));have aC:YiW:=(ZCM:aK s1.heap cF Y0V)
 exact iy aC ((nE (R:=Zi) z.2 (af4 K hf af z.1 ar IW IX)).mono λO O bo=>bd (wpAny_letTemporaryGo (wpAny_pure bo)))
theorem agb(args:Args):(Code.builtin "type.__call__" args).cUnits=1:=rfl
theorem agc(args:Args):(Code.builtin "type.__call__" args).weight≤1:=by
 have ak:(x2 "type.__call__" args).frames=0:=rfl;have av:(x2 "type.__call__" args).isGuard=false:=by show guardIds.contains "type.__call__"=false;decide +kernel
 have aP:(x2 "type.__call__" args).isCaller=false:=rfl;unfold Code.weight;refine aX ak (aa av (aa aP ?_));show 0+(if YzZ then 1 else 0)+0+0≤1;by_cases q:YzZ
 ·refine YgP;decide
 ·refine YSM;decide
theorem hJ{w:Nat}(h:a+2*(k+1)+2<1000)(av:w≤1):a+w+2*k+2<1000:=yp h ZF8
theorem i1(h:a+20*(k+1)+60<9900):a+1+20*k+60<9900:=ZfD
theorem dd.create(aG:YTt)(args:Args):dd (A.under (ZK "type.__call__" args)) k:=
 ⟨hJ aG.1 (agc args),by show A.units+(x2 "type.__call__" args).cUnits+20*k+60<9900;refine aa (agb ..) ?_;exact i1 aG.2,Y2l⟩
def IY(mh:ag)(a d t C:Nat):ag:=upd (upd mh d (0,YQ2)) a (t,Ybk)
theorem agd{f:Nat}{l:YH}(K:ZG)(hf:YFJ)(hm:(C,er "__init__",f)∈H.mt)(h:∀a d,Y9Q→Y6W=none→a≠d→∃t,aU g k f Z1p (IY mh a d t C) λr m=>r=Y7∧Q YA m):ZCA:=λA s vs aG ae bz=>by
 have kc:=YdZ;have c:=YQk;have X:=YKA;refine(K.4 C _ f hm).elim λl' z=>pg z.2 λbD bC d4=>make_core (makes_of X c.5) (looks_findIn X Y97) (λself=>bind_fn X self YGb) Zk ?_;have dn:YnI:=ae.fresh YUz;have gone:ZZB:=Yqv;have fI:mh Y1J=none:=ae.fresh gone;have ne:Y1J≠s.heap.objs.size:=Ye9;refine(h Y1J s.heap.objs.size fI dn ne).elim λt ao=>?_;have dC:=hH s.heap emptyDict;have du:=hH ZZL Ym4;have QS:Yyt s.heap.objs.size=Yp9:=ZW;have a1:a5 g Yq1 YOQ:=a5.new (o:=Z1e) (s':=YOQ) ae dC YUz rfl rfl ⟨[],0,QS⟩;have jA:Step cX YZQ mh YOQ Yq1:=Step.new (s':=YOQ) dC YUz;have AN:(s.heap.push emptyDict).objs.size=Y1J:=YBJ;have aC:(Yyu Ym4).get? Y1J=some (yl C s.heap.objs.size):=aV AN ZW;have g2:Yyt Y1J=none:=aV AN Y1f;have a2:a5 g Z4h YZF:=
  a5.new (o:=Ybk) (s':=YZF) a1 du g2 rfl rfl ⟨s.heap.objs.size,0,aC,(dE ne.symm).trans Yc,[],0,du _ _ QS,rfl⟩
 have eX:Step cX YOQ Yq1 YZF Z4h:=
  Step.new (s':=YZF) du g2
 refine codeAny_mono (ao (A.under (ZK "type.__call__" ⟨Yw::vs,[]⟩)) _ (Z1f::vs) ZBD a2 (a9.cons Y7O (bz.keep ZSF.4))) YsJ;rcases r with e | (_ | _ | _ | v)
 ·exact z.elim
 ·exact z.elim
 ·exact z.elim
 ·exact z.elim
 ·exact z.elim λbF z=>Y0g λx q=>⟨(aV YG q.1:aK s'.heap v Y7),bF,z.1,(jA.trans eX).trans z.2,_,Y7O,Yq⟩
def cI(r:bG)(i:Nat):Yp:=(r[i]?).getD none
def IZ(c:bP)(n:Str):Bool:=ZIc||ZIb
def nameAt(c:bP)(i:Nat)(e:aI):Bool:=YzJ false λn=>YiF&&IZ c n.1
def l2(l:ZC)(d:β)(f:α→YIV):β:=l.casesOn d λa r=>r.casesOn d λb r=>r.casesOn (f a b) YYZ
theorem sV{f:α→YIT}{P:Y1}(h:l2 l false f=true)(k:∀a b,l=Y1R→f a b=true→P):P:=by
 cases l with
 |nil=>exact Y0L
 |cons a r=>cases r with
  |nil=>exact Y0L
  |cons b r=>cases r with
   |nil=>exact k a b rfl h
   |cons _ _=>exact Y0L
theorem eP{o:Y7G}{f:YIT}{P:Y1}(h:o.elim false f=true)(k:∀a,YMh→ZNq):P:=by
 cases o with
 |none=>exact Y0L
 |some a=>exact YH5
def qx(c:bP)(t:dY)(e:aI):Bool:=t.casesOn (λi=>ZVg) (λi j=>Yay false λl=>l2 l.1 false λa b=>ZVf&&ZVh)
 λi j k=>Yay false λl=>l.1.casesOn false λa r=>l2 r false λb d=>ZVf&&(ZVh&&nameAt c k d)
def I0(t:dY):Bool:=t.casesOn Y1k Y0U Y0o
theorem eO.stores{c:bP}{n:Str}(L:ZI)(h:IZ c n=true):Y8h:=Y8P (λh=>YY Yuf) λh=>
 YJ ⟨Yuf,(L.2 n (YY Y15)).imp λO q=>⟨q.1,q.2 Y15⟩⟩
theorem pB{c:bP}{e:aI}{P:Y1}(L:ZI)(h:ZVg=true)(f:∀n p,e=Y44→YTC→Y8h→P):P:=
 eP h λn O q=>have q:=YAX;YVx λp e=>f n.1 p e ZNB (L.stores q.2)
theorem rv{n:Str}{p:Pos}{v:V}{R:Y5Q}(aN:Y1d)(ae:YU)(af:Y6Y)(hs:Y8h)(bg:Y2m)(h:∀s',Y4D→YKQ→de g env ns Y5g mh s'→Yef):WP g A (assign Y44 env x) R s:=wpAny_assign_Name (Ib aN ae bg af hs h)
theorem age{n m:Str}{p q:Pos}{a b:V}{R:Y5Q}(bJ:Zg)(aN:Y1d)(ae:YU)(af:Y6Y)(hs:Y8h)(aM:Yna)(gB:YRh)(bg:iz s.heap x Y1R)(h:∀s',Y4D→YKQ→de g env ns Y5w mh s'→Yef):WP g A (assign Z03 env x) R s:=bg.elim λt z=>z.elim λitems z=>by
 refine mK z.1 (z.2.2.two.elim λeg w=>w.elim λd1 w=>Ze6);have b5:Y9E:=YYn;have st:YRg:=YCT;have sW:=YCg;exact jg abP (jg w.1 (bd (wpAny_holding (rv YKm sW af hs ZdT λO a2 eX aC=>bd (wpAny_holding (rv aC a2 aM gB ((ZdV Y5k).keep YGZ) λs3 dB fJ c1=>wpAny_pure (h s3 dB (Yz5 fJ) c1)))))))
theorem a9.three{v u w:V}(r:a9 h xs [v,u,w]):∃x y z,xs=[x,y,z]∧Y2G∧Yfz∧aK h z w:=r.un λx bf e a b=>b.two.elim λy q=>q.elim λz q=>⟨x,y,z,ZEX,a,q.2⟩
theorem agf{l:Nat}{n m o:Str}{p q u:Pos}{a b d:V}{R:Y5Q}(bJ:Zg)(aN:Y1d)(ae:YU)(af:Y6Y)(hs:Y8h)(aM:Yna)(gB:YRh)(aE:ns[l]?=YB)(qm:Stores env o)(bg:iz s.heap x [a,b,d])(h:∀s',Y4D→YKQ→de g env ns YZc mh s'→Yef):WP g A (assign (Y1A [Y44,YbL,Y09 o u] c6 pos) env x) R s:=bg.elim λt z=>z.elim λitems z=>by
 refine mK z.1 (z.2.2.three.elim λeg w=>w.elim λd1 w=>w.elim λhx w=>Ze6);have b5:Y9E:=YYn;have st:YRg:=YCT;have sW:=YCg;exact jg abP (jg w.1 (bd (wpAny_holding (rv YKm sW af hs ZdT λO a2 eX aC=>bd (wpAny_holding (rv aC a2 aM gB ((Y3O.1.keep Y5k).keep YGZ) λO dB fJ c1=>bd (wpAny_holding (rv c1 dB aE qm (((Y3O.2.keep Y5k).keep YGZ).keep fJ.4) λs4 eb mT qe=>wpAny_pure (h s4 eb ((Yz5 fJ).trans mT) qe)))))))))
theorem uD.tup{weak:Bool}{v:V}(bg:uD weak h x v)(e:YI6):YVG:=by
 subst e
 cases weak with
 |false=>exact aK.gj bg
 |true=>exact bg.elim λfX z=>V.noConfusion z.1 λe=>aa e z.2
theorem agg{c:bP}{e:aI}{P:Y1}(L:ZI)(ah:qx c YA5 e=true)(k:∀n m p q c6 pos,e=Z03→YTC→Y8h→YiG→YRh→P):P:=
 eP ah λl O ah=>sV ah λp q aC ah=>pB L ZJ9.1 λn yK fq af hs=>pB L ZJ9.2 λm pm em aM gB=>ZTb λc6 z=>z.elim λpos z=>
  k n m yK pm c6 pos (z.trans (congrArg ZjS (aC.trans (fq▸em▸rfl)))) af hs aM gB
theorem agh{c:bP}{o:Nat}{e:aI}{P:Y1}(L:ZI)(ah:qx c (YcZ i j o) e=true)(k:∀n m l p q u c6 pos,e=Y1A [Y44,YbL,Y09 l u] c6 pos→YTC→Y8h→YiG→YRh→c.ns[o]?=YE3→Stores env l→P):P:=
 eP ah λl O ah=>by
  cases fa:l.1 with
  |nil=>replace ah:=ZGf;exact nb ah
  |cons rx aAe=>
   replace ah:=ZGf;refine sV ah λp q aC ah=>pg ah YIf;exact pB L bD λn yK fq af hs=>pB L bC λm pm em aM gB=>pB L d4 λaH agi A7 H0 qm=>ZTb λc6 z=>z.elim λpos z=>
    k n m aH yK pm agi c6 pos (z.trans (congrArg ZjS (fa.trans (fq▸congrArg _ (aC.trans (em▸A7▸rfl)))))) af hs aM gB H0 qm
theorem QT{f:V→V→Y5R}{P:Y1}(h:(vs.casesOn False λa t=>t.casesOn False λb u=>u.casesOn False λd w=>w.casesOn (f a b d) Y28:Y1))(k:∀v u w,vs=[v,u,w]→f v u w→P):P:=by
 cases vs with
 |nil=>exact h.elim
 |cons a t=>exact uI (f:=f a) h λu w e z=>k a u w ZCN z
theorem QU{c:bP}{t:dY}{e:aI}{weak:Bool}{v:V}{Q:Y7Z}(L:ZI)(ah:ZYF)(h:YmD):sQ g k env c.ns r e weak v Q:=λA s mh x aG ae aN bg=>by
 cases t with
 |one i=>
  refine pB L ah λn p e af hs=>rk e ?_
  cases weak with
  |false=>exact rv aN ae af hs bg ZkJ
  |true=>exact bg.elim λvs z=>rv aN ae af hs (z.1▸z.2.HK (aV z.1 h.1:PL ZZ=true)) λs' a1 jA aJ=>⟨_,a1,jA,aJ,h.2⟩
 |two i j=>exact agg L ah λn m p q c6 pos e3 af hs aM gB=>lJ YOz λvs ev h=>uI h λa b es h=>aa e3 (age Y2l aN ae af hs aM gB ZNT λO a1 jA aJ=>Zn1)
 |three i j o=>exact agh L ah λn m l p q u c6 pos e3 af hs aM gB aE qm=>lJ YOz λvs ev h=>QT h λa b d es h=>e3▸agf Y2l aN ae af hs aM gB aE qm ZNT ZkJ
theorem agj:(forIn ifs false λc r=>YVC:YFf)=YoE:=by
 induction ifs with
 |nil=>rfl
 |cons e es ai=>exact aj Y4Q (aT YDR ai)
theorem agk{e:aI}{es:Ye}{Q:Y0i}(h:kP g k env ns r mh YVF λb m=>cond b (sP g k env ns r m es Q) YRX):sP g k env ns r mh YGW Q:=λA s aG ae aN=>by
 refine aj Y4Q (aT Y0c (bd (bd (Y0p λb s1 z=>z.elim λm1 z=>Zm))))
 cases b with
 |false=>exact cb agj (wpAny_pure YtE)
 |true=>exact YnO
structure Met where
 nH:ih→bP→aI→Option (aI×Ye)
 pre:Yj
 ij:Calls→V→YRA
abbrev Met.pv(o:Met):Y1:=hR (∀{g H k env c r mh e x es Q},ZG→ZI→Yng=Zaf→Ev g k env c.ns r mh YAm (λv m=>o.pre v m∧gH g k env c.ns r es m λvs aH=>o.ij ZH v vs aH Q)→YK5) (∀{H c e y},Yng=Y06→YBA)
@[reducible] def kR:Y4k:=Subtype Met.pv
noncomputable abbrev kR.o (x:kR):Met:=x.1
theorem kR.snd(x:kR):x.o.pv:=x.2
inductive E where
 |var (i:Nat)
 |op (o:dj) (as:Yv)
 |met (o:kR) (a:E) (as:Yv)
 |not (a:E)
 |and (a b:E)
 |or (a b:E)
 |cV (t a b:E)
 |comp (s:gq) (as:Yv) (t:dY) (own:Nat) (caps:YV) (ifs:Yv) (elt:E)
 |sX (s1:gq) (a1:Yv) (t1:dY) (s2:gq) (a2:Yv) (cy:dY) (own:Nat) (caps:YV) (elt:E)
 |chain (a b d:E)
abbrev wG:=bG→YCh
abbrev A8:=bG→ag→Y0i→Y1
abbrev QV:=bG→Ygr
def qy(o:Y7G)(f:YIU):Y1:=o.casesOn False f
def mV(t:dY)(weak:Bool)(r:bG)(ifs:A8)(elt:wG)(v:V)(acc:Y3)(m:ag)(N:Ys):Y1:=
 j3 t weak v r λb6=>ifs b6 m λok ab=>cond ok (elt b6 ab λx Ed=>Y8s∧N Ygl Ed) Ye5
def I1(t1:dY)(dD:Bool)(cy:dY)(s2:gq)(a2:QV)(r:bG)(elt:wG)(v:V)(acc:Y3)(m:ag)(N:Ys):Y1:=
 j3 t1 dD v r λb6=>a2 b6 m λvs m1=>s2.o.ij vs m1 λvals need aH=>∃P:Y1O,P vals acc aH∧jz P need N λv acc m N=>mV cy s2.o.weak b6 (λO m Q=>Yeb) elt v acc m N
abbrev jP:=wG×A8
abbrev ry:=QV×A8
def QW(i:Nat):jP:=(λr mh Q=>qy Y1H YsQ,λr mh Q=>qy Y1H λv=>YmK)
def QX(cl:Calls)(o:dj)(_:Yv)(ai:ry):jP:=(λr mh Q=>Y7T r mh λvs m=>o.o.ij cl vs m Q,λr mh Q=>Y7T r mh λvs m=>o.o.ij cl vs m Y9L)
def QY(cl:Calls)(o:kR)(_:E)(_:Yv)(a:jP)(as:ry):jP:=(λr mh Q=>a.1 r mh λv m=>ZW4∧as.1 r m Zkl,λr mh Q=>a.1 r mh λv m=>ZW4∧as.1 r m λvs aH=>o.o.ij cl v vs aH Y9L)
def QZ(_:E)(a:jP):jP:=(λr mh Q=>a.1 r mh ZSW,λr mh Q=>a.2 r mh Zhq)
def Q0(_ _:E)(a b:jP):jP:=(λr mh Q=>a.1 r mh (jw λx m=>cond x YhF YRU),λr mh Q=>a.2 r mh λx m=>cond x ZFk YRX)
def Q2(_ _:E)(a b:jP):jP:=(λr mh Q=>a.1 r mh (jw λx m=>cond x Z6s YhF),λr mh Q=>a.2 r mh λx m=>cond x Yeb ZFk)
def Q3(_ _ _:E)(t a b:jP):jP:=(λr mh Q=>t.2 r mh λx m=>cond x (a.1 r m Q) YhF,YYW)
def Q4(s:gq)(_:Yv)(t:dY)(own:Nat)(caps:YV)(_:Yv)(_:E)(as ifs:ry)(elt:jP):jP:=
 (λr mh Q=>as.1 r mh λvs m=>s.o.ij vs m λvals need aH=>∃P:Y1O,YeO∧jz P need Y8B (mV t s.o.weak YM2 ifs.2 elt.1),YYW)
def Q5(s1:gq)(_:Yv)(t1:dY)(s2:gq)(_:Yv)(cy:dY)(own:Nat)(caps:YV)(_:E)(a1 a2:ry)(elt:jP):jP:=
 (λr mh Q=>a1.1 r mh λvs m=>s1.o.ij vs m λvals need aH=>∃P:Y1O,YeO∧jz P need Y8B (I1 t1 s1.o.weak cy s2 a2.1 YM2 elt.1),YYW)
def Q6(_ _ _:E)(a b d:jP):jP:=(YYW,λr mh Q=>a.1 r mh λcF m1=>b.1 r m1 λdF aH=>cF.mb False λx=>dF.mb False λy=>x≤y∧d.1 r aH λQ7 bF=>Q7.mb False λz=>Q (decide (y<z)) bF)
def Q8:ry:=(λO mh Q=>Q [] mh,λO mh Q=>Z76)
def Q9(_:E)(_:Yv)(a:jP)(as:ry):ry:=(λr mh Q=>a.1 r mh λv m=>as.1 r m YsR,λr mh Q=>a.2 r mh λb m=>cond b (as.2 r m Q) YRX)
def bH(cl:Calls)(e:E):jP:=E.rec (motive_1:=Zh2) (motive_2:=Zh3) Ziw Zjm Zjj ZiH ZiJ ZiK ZiL ZkH ZkI ZiM Zh7 ZiI e cl
def e7(cl:Calls)(e:Yv):ry:=E.rec_1 (motive_1:=Zh2) (motive_2:=Zh3) Ziw Zjm Zjj ZiH ZiJ ZiK ZiL ZkH ZkI ZiM Zh7 ZiI e cl
def I2(c:bP)(n:Str):Bool:=ZIc||(ZIb||Y3H==Y6d)
def agl(c:bP)(i:Nat)(x:aI):Bool:=YzK false λn=>YiF&&(I2 c n.1&&(!(n.1==YIo)&&! ZVF))
def nP(e:aI):YH:=YzJ (Yay [] λl=>l.1.filterMap Zky) λn=>[n.1]
def A9(t:dY)(n:Nat):Bool:=t.casesOn (λi=>YjM) (λi j=>YjM&&ZLM) λi j l=>YjM&&(ZLM&&decide (l<n))
def ku(t:dY)(i:Nat):Bool:=t.casesOn ZjM (λj k=>i==j||i==k) λj k l=>i==j||(i==k||i==l)
def Ra(t u:dY):Bool:=u.casesOn (λi=>! YHC) (λi j=>! YHC&&!ku t j) λi j l=>! YHC&&(!ku t j&&!ku t l)
def Rb(o:UnaryOp):Bool:=o.casesOn false true false false
def I3(o:BoolOp):Bool:=o.casesOn true false
def l1(l:ZC)(d:β)(f:YIV):β:=l.casesOn d λa r=>r.casesOn (f a) YYZ
def Ba(H:ih)(c:bP)(s:gq)(t:dY)(n:Nat)(agm:ZRl)(iter:aI):Bool:=(s.o.nH H c iter).elim false λes=>agm H c es&&((!s.o.weak||I0 t)&&A9 t n)
abbrev Ch:=ih→bP→aI→Bool
abbrev oD:=ZRl
def Rc(i:Nat):Ch:=λO c x=>agl c i x
def Rd(o:dj)(_:Yv)(ai:oD):Ch:=λH c x=>YyC false λes=>ai H c es
def Rf(o:kR)(_:E)(_:Yv)(a:Ch)(as:oD):Ch:=λH c x=>YyC false λy=>a H c y.1&&as H c y.2
def Rg(_:E)(a:Ch):Ch:=λH c x=>(PE x).elim false λy=>Rb Y1v&&a H c Zj
def EO(w:Bool)(_ _:E)(a b:Ch):Ch:=λH c x=>(aeF x).elim false λy=>(I3 Y1v==w)&&l2 Zj false λp q=>a H c p&&b H c q
def Rh(_ _ _:E)(t a b:Ch):Ch:=λH c x=>(aeG x).elim false λy=>t H c Y1v&&ZAH
def agn(ft:bP)(H:ih)(t:dY)(c7:Comprehension)(ifs:oD)(elt:Ch)(x:aI):Bool:=qx ft t c7.target&&(ifs H ft c7.ifs&&ZMx)
def ago(ft:bP)(H:ih)(t1:dY)(g1:Comprehension)(cy:dY)(g2:Comprehension)(s2:gq)(a2:oD)(own:Nat)(elt:Ch)(x:aI):Bool:=qx ft t1 g1.target&&(qx ft cy g2.target&&(Ba H ft s2 cy own a2 g2.iter&&(Ra t1 cy&&ZMx)))
def Ri(s:gq)(_:Yv)(t:dY)(own:Nat)(caps:YV)(_:Yv)(_:E)(as ifs:oD)(elt:Ch):Ch:=λH c x=>Yur false λy=>l1 Y5C false λc7=>ZIw&&(Ba H c s t own as c7.iter&&
  (Yy4==own&&(IA c YNo ZVZ caps&&agn (sS YNo ZVZ caps c) H t c7 ifs elt Y1v)))
def Rj(s1:gq)(_:Yv)(t1:dY)(s2:gq)(_:Yv)(cy:dY)(own:Nat)(caps:YV)(_:E)(a1 a2:oD)(elt:Ch):Ch:=λH c x=>Yur false λy=>l2 Y5C false λg1 g2=>g1.is_async==0&&(g2.is_async==0&&(g1.ifs.isEmpty&&(g2.ifs.isEmpty&&(Ba H c s1 t1 own a1 g1.iter&&
  (Yam==own&&(IA c YNo ZVb caps&&ago (sS YNo ZVb caps c) H t1 g1 cy g2 s2 a2 own elt Y1v))))))
def Rk(_ _ _:E)(a b d:Ch):Ch:=λH c x=>(PF x).elim false λy=>decide (Y5C=Z9P)&&l2 Y4T false λp q=>!(lastMarks Z9P [p,q])&&(a H c Y1v&&(b H c p&&d H c q))
def Rl:oD:=YrQ
def Rm(_:E)(_:Yv)(a:Ch)(as:oD):oD:=λH c l=>l.casesOn false λx xs=>a H c x&&as H c xs
def hZ(e:E):Ch:=E.rec (motive_1:=λO=>Ch) (motive_2:=λO=>oD) Rc Rd Rf Rg Z3s Z3r Rh Ri Rj Rk Rl Rm e
def qz(es:Yv):oD:=E.rec_1 (motive_1:=λO=>Ch) (motive_2:=λO=>oD) Rc Rd Rf Rg Z3s Z3r Rh Ri Rj Rk Rl Rm es
variable{Q':Y0i}
theorem kP.mono{t:YFf}{Q:Y0i}(h:kP g k env ns r mh t Q)(m:YZB):kP g k env ns r mh t Q':=ZgA
theorem sP.mono{Q:Y0i}(h:sP g k env ns r mh ifs Q)(m:YZB):sP g k env ns r mh ifs Q':=ZgA
theorem ow.mono{t:Y5P}{weak:Bool}{Q Q':Y1D}(h:ow g k env ns r mh tgt weak t Q)(m:∀v n aW,Q v n aW→Q' v n aW):ow g k env ns r mh tgt weak t Q':=λA s aG ae aN=>
 Y0p λx s1 z=>z.mono λit s2 z=>z _ λvals need aH I wr St a q=>(λO bA=>bA vals need aH I wr St a (m _ _ _ q))
theorem sQ.mono{weak:Bool}{v:V}{Q Q':Y7Z}(h:sQ g k env ns r tgt weak v Q)(m:∀bI,Q bI→Q' bI):sQ g k env ns r tgt weak v Q':=λA s mh x aG ae aN bg=>(h A s mh x aG ae aN bg).mono λO s' z=>z.imp λbI z=>⟨z.1,z.2,z.3,m _ z.4⟩
theorem jz.mono{P:Y1O}{K:Ys}{T iY:YKU}(h:YVN)(m:∀v acc mh N,T v acc mh N→iY v acc mh N):jz P need K iY:=⟨h.1,λv vs acc mh q=>⟨ZQ1.1,m _ _ _ _ ZQ1.2⟩⟩
abbrev Sub(r b6:bG):Y1:=Ysg
def Bb(t:dY)(r:bG):Y1:=∀i,YHC=true→Yss
theorem aAf{x:Yp}(h:Yss):Sub r (r.set i x):=λj v e=>by
 refine aj (NY λ(q:i=j)=>h v (q▸e)) ?_;exact e
noncomputable abbrev I4 (T:Z9) (r b6:bG):Y1:=Z8A∧∀i v,T i=false→ZFv
theorem yL{T:Z9}{b6:bG}{x:Yp}(dJ:T i=true)(hf:I4 T r b6)(af:Yss):I4 T r (b6.set i x):=
 ⟨λn v e=>(NY λ(q:i=n)=>af v (aa q e)).trans (hf.1 n v e),λn v az e=>hf.2 n v az (cA (NY λ(q:i=n)=>vV (cA dJ ZDF)) e)⟩
theorem agp{t:dY}{weak:Bool}{v:V}{Q:Y7Z}(hf:Yd1)(h:YmD):j3 t weak v r Zi1:=by
 have s0:I4 (ku t) r r:=⟨YEM,ZgH⟩
 cases t with
 |one i=>
  have s1:=yL (T:=ku YJh) (x:=Ym) YSy s0 (hf i YSy)
  cases weak with
  |false=>exact YtI
  |true=>exact⟨h.1,s1.1,s1.2,h.2⟩
 |two i j=>
  refine lJ YOz λvs ev h=>uI h λa b es h=>?_;have af:ku YA5 i=true:=Zde;have aM:ku YA5 j=true:=wg (YJ ZHF);have s1:=yL (T:=ku YA5) (x:=Y6e) aM Zf8 ZQp;subst ev es;exact YtI
 |three i j l=>
  refine lJ YOz λvs ev h=>QT h λa b d es h=>?_;have af:ku YJq i=true:=Zde;have aM:ku YJq j=true:=wg (YJ (wg (YY ZHF)));have aE:ku YJq l=true:=wg (YJ (wg (YJ (beq_self_eq_true l))));have s1:=yL (T:=ku YJq) (x:=YNJ) aE (yL (x:=Y6e) aM Zf8 ZQp) (hf l aE);subst ev es;exact YtI
theorem I5{t:dY}{n:Nat}(h:Z2m):Bb t ZRo:=λi af v e=>(IB e).elim λf5 q=>q.elim λj q=>by
 have lt:i<n:=by
  cases t with
  |one j=>exact aa Ywy ZWR
  |two j l=>exact YOv (λq=>YOr▸ZWN) λq=>aa YOs ZWO
  |three j l o=>exact YOv (λq=>aa YOr ZWN) λq=>YaT (λq=>aa YOs (of_decide_eq_true YTR.1)) λq=>aa Ywz (of_decide_eq_true YTR.2)
 exact ye (cx n f5) (aV q.1 lt)
theorem agq{t u:dY}(h:Ra t u=true)(i:Nat)(af:ku u i=true):ZTV:=by
 cases u with
 |one j=>exact aa Ywy (Y2B h)
 |two j l=>exact YOv (λq=>YOr▸Yxj) λq=>aa YOs Yxk
 |three j l o=>exact YOv (λq=>aa YOr Yxj) λq=>YaT (λq=>YOs▸Y2B YTR.1) λq=>Ywz▸Y2B YTR.2
abbrev hB(e:E):Y1:=hR (∀{g:G}{H:ih}{k:Nat}{env:Env}{c:bP}{r:bG}{mh:ag}{x:aI}{Q:Yj},ZG→ZI→YLw→Ya6→YQo) (∀{g:G}{H:ih}{k:Nat}{env:Env}{c:bP}{r:bG}{mh:ag}{x:aI}{Q:Y0i},ZG→ZI→YLw→YhS.2 r mh Q→kP g k env c.ns r mh Ym9 Q)
abbrev lM(es:Yv):Y1:=hR (∀{g:G}{H:ih}{k:Nat}{env:Env}{c:bP}{r:bG}{mh:ag}{xs:Ye}{Q:Ys},ZG→ZI→YoU→ZM1.1 r mh Q→gH g k env c.ns r xs mh Q) (∀{g:G}{H:ih}{k:Nat}{env:Env}{c:bP}{r:bG}{mh:ag}{xs:Ye}{Q:Y0i},ZG→ZI→YoU→ZM1.2 r mh Q→ZZY)
theorem Rn{c:bP}{n:Str}{v:V}(L:ZI)(af:YTC)(bo:YBG)(aR:I2 c n=true)(hd:Yy3)(ah:Y5v)(h:Y8e):Z3w:=λA s aG ae aN=>by
 have ax:ZN4:=(gG aR).elim Zk4 λq=>YJ (YaT
  Zk4 λq=>(Yug YJ λz=>YY z.2))
 exact wpAny_Name (aep aN af bo ax hd λO bz=>qj ae bz h) ah
theorem agr{o:Y7G}{f:YIU}{P:Y1}(h:qy o f)(k:∀a,YMh→f a→P):P:=by
 cases o with
 |none=>exact h.elim
 |some a=>exact YH5
theorem ags{v:V}(h:Y1H=Ym):YBG:=by
 unfold cI at h
 cases q:YMz with
 |none=>replace h:=Yji;exact Y08
 |some o=>replace h:=Yji;exact ZKE
theorem Ro(i:Nat):hB Y8X:=by
 have aO:∀{g:G}{H:ih}{k:Nat}{env:Env}{c:bP}{r:bG}{mh:ag}{x:aI}{Q:Yj},ZG→ZI→hZ Y8X H c x=true→qy Y1H YsQ→Z3x:=λ{g H k env c r mh x Q}K L ao h=>
  eP ao λn O q=>YVx λp e=>by
   refine wj q YYo;rw[e];exact⟨agr h λO aO h=>Rn L Y97 (ags aO) bC (Y2B d4) (Y2B hJ) h,rfl⟩
 exact⟨ZlJ,λ{g H k env c r mh x Q}K L ao h=>IU YSE.2 YSE.1⟩
theorem Rp(o:dj)(as:Yv)(ai:YHG):hB (.op o as):=
 ⟨λK L ao h=>eP ao λes hm q=>o.snd.1 K L hm ZE6,λK L ao h=>eP ao λO hm q=>o.snd.2 K L hm ZE6⟩
theorem Rq(o:kR)(a:E)(as:Yv)(aD:YDL)(ai:YHG):hB Ybh:=by
 have aO:∀{g:G}{H:ih}{k:Nat}{env:Env}{c:bP}{r:bG}{mh:ag}{x:aI}{Q:Yj},ZG→ZI→hZ Ybh H c x=true→(bH ZH Ybh).1 r mh Q→Z3x:=λ{g H k env c r mh x Q}K L ao h=>
  eP ao λy hm q=>by
   exact dG q λbD bC=>⟨o.snd.1 (x:=y.1) (es:=y.2) K L hm (YvI λO O z=>⟨z.1,Y7T K L bC z.2⟩),o.snd.2 hm⟩
 exact⟨ZlJ,λ{g H k env c r mh x Q}K L ao h=>IU ZBk.2 ZBk.1⟩
theorem Rr{o:UnaryOp}(h:Rb o=true):o=.Not:=by cases o with
 |Not=>rfl
 |_=>exact Y0L
theorem EP{o:BoolOp}{w:Bool}(h:(I3 o==w)=true):o=cond w .And .Or:=by
 have h:I3 o=w:=Y15;subst h;clear h
 cases o <;> rfl
theorem agt{e:aI}(h:Ev g k env ns r mh Y0s ZSW):Ev g k env ns r mh (eval Z08 env) Q:=λA s aG ae aN=>
 wpAny_UnaryOp (Y0p λO O z=>z.elim λm1 z=>Y0g λO q=>not_value (IT q.1 q.2 λO q=>⟨m1,z.1,z.2,_,YFr,q⟩))
variable{whole:Y5P}
theorem agu{e:aI}{Q:Y0i}(h:kP g k env ns r mh YVF Zhq):kP g k env ns r mh (isTrue Z08 env whole) Q:=λA s aG ae aN=>
 wpAny_isTrue_Not (Y0p λO O z=>z.imp λO z=>⟨z.1,z.2,z.3⟩)
theorem Rt(a:E)(ai:YDL):hB Z0t:=by
 refine YtK
 ·exact dG q λbD bC=>aT e (yk Z7Q (agt (Y7T K L bC h)))
 ·exact dG q λbD bC=>dT e (DI Z7Q (agu (YCi K L bC h)))
theorem agv{x y:aI}(h:Ev g k env ns r mh YAm (jw λb m=>cond b Z3y YRU)):Ev g k env ns r mh (eval Yzr env) Q:=λA s aG ae aN=>
 wpAny_And2 (Y0p λcF s1 z=>z.elim λm1 z=>Y0g λx q=>by
  refine Z4g;have aC:cF=Y1x:=Yx5
  rw[aC];refine YNh
  cases b with
  |false=>exact ZnV
  |true=>exact ZVT)
theorem agw{x y:aI}(h:Ev g k env ns r mh YAm (jw λb m=>cond b Z6s Z3y)):Ev g k env ns r mh (eval Yzs env) Q:=λA s aG ae aN=>
 wpAny_Or2 (Y0p λcF s1 z=>z.elim λm1 z=>Y0g λx q=>by
  refine Z4g;have aC:cF=Y1x:=Yx5
  rw[aC];refine YNh
  cases b with
  |true=>exact ZnV
  |false=>exact ZVT)
theorem agx{x y:aI}{Q:Y0i}(h:kP g k env ns r mh Ym9 λb m=>cond b ZT6 YRX):kP g k env ns r mh (isTrue Yzr env whole) Q:=λA s aG ae aN=>
 wpAny_isTrue_BoolOp (wpAny_allTrue_And_cons (Y0p λb s1 z=>z.elim λm1 z=>by
  cases b with
  |false=>exact YtE
  |true=>exact wpAny_allTrue_And_cons (Yze λb s2 y=>y.elim λaH y=>by
    cases b with
    |false=>exact YZI
    |true=>exact wpAny_allTrue_And_nil YZI)))
theorem agy{x y:aI}{Q:Y0i}(h:kP g k env ns r mh Ym9 λb m=>cond b Yeb ZT6):kP g k env ns r mh (isTrue Yzs env whole) Q:=λA s aG ae aN=>
 wpAny_isTrue_BoolOp (wpAny_allTrue_Or_cons (Y0p λb s1 z=>z.elim λm1 z=>by
  cases b with
  |true=>exact YtE
  |false=>exact wpAny_allTrue_Or_cons (Yze λb s2 y=>y.elim λaH y=>by
    cases b with
    |true=>exact YZI
    |false=>exact wpAny_allTrue_Or_nil YZI)))
theorem agz{t a b:aI}(h:kP g k env ns r mh Ym8 λc m=>cond c (Ev g k env ns r m (eval a env) Q) (Ev g k env ns r m (eval b env) Q)):Ev g k env ns r mh (eval (YbK t a b pos) env) Q:=λA s aG ae aN=>
 wpAny_IfExp (Y0p λc s1 z=>z.elim λm1 z=>by
  have q:=z.3;clear q
  cases c with
  |true=>exact YnO
  |false=>exact YnO)
theorem sY{b:Bool}{p q bS:Y1}(h:cond b p q)(f:p→dV)(g:q→bS):cond b dV bS:=by cases b with
 |true=>exact f h
 |false=>exact g h
theorem Ru{Q:Y0i}{v:V}(h:jw Q v m)(f:∀b,Q b m→Q' b m):jw Q' v m:=by cases v with
 |bool b=>exact f b h
 |_=>exact h.elim
theorem snd_and(a b:E)(aD:YDL)(ah:hB b):hB Z0B:=by
 refine YtK
 ·exact dG q λbD bC=>sV bC λc6 cT aC ck=>dG ck λeg d1=>aT e (yk YQm (gS aC (agv (YvJ λO O z=>Ru z λO z=>sY z ZDr id))))
 ·exact dG q λbD bC=>sV bC λc6 cT aC ck=>dG ck λeg d1=>dT e (DI YQm (wi aC (agx (YvK λO O z=>sY z ZDs id))))
theorem Rv(a b:E)(aD:YDL)(ah:hB b):hB Z1d:=by
 refine YtK
 ·exact dG q λbD bC=>sV bC λc6 cT aC ck=>dG ck λeg d1=>aT e (yk YQm (gS aC (agw (YvJ λO O z=>Ru z λO z=>sY z id ZDr))))
 ·exact dG q λbD bC=>sV bC λc6 cT aC ck=>dG ck λeg d1=>dT e (DI YQm (wi aC (agy (YvK λO O z=>sY z id ZDs))))
theorem Rw(t a b:E)(bq:hB t)(aD:YDL)(ah:hB b):hB Z0L:=
 ⟨λK L ao h=>eP ao λy O q=>Y5D λp e=>by
  refine pg q λbD bC d4=>YCa;exact agz ((bq.2 K L bD h).mono λO O z=>sY z (aD.1 K L bC) (Y2S K L d4)),YrM⟩
theorem I6{v:V}{f:YR1}{P:Y1}(bz:Y2G)(z:Zcw)(k:∀n t,x=YI n t→Zd4):P:=by
 cases v with
 |int n=>exact bz.elim λt e=>k n t e rfl z
 |_=>exact z.elim
theorem Rx(a b d:E)(aD:YDL)(ah:hB b)(hd:hB d):hB (.chain a b d):=
 ⟨λK L ao h=>h.elim,λ{g H k env c r mh x Q}K L ao h=>eP ao λy O q=>Y5D λpos e=>by
  refine dG q λbD bC=>sV bC λp dV fa ck=>wj ck λeg d1 hx mW=>?_;refine dT e (DI Ynr (wi fa ?_));intro A s aG ae aN;refine isTrue_chain (ops:=[]) (rs:=[]) (WP.mono (aD.1 K L d1 h A s aG ae aN) λcF s1 f3=>f3.elim λm1 f3=>ZO9 λu dD=>test_link (ops:=[]) (rs:=[]) (WP.mono (Y2S K L hx dD.2 A s1 aG f3.1 ZBj) λdF s2 fz=>fz.elim λaH fz=>ZOo λv w2=>I6 (ZKi fz.2.4) Y5m λi t ex O kx=>I6 YEE kx λj dg fy O mX=>?_)) (Y2B eg);rw[ex,fy];refine le_int YNh;refine aa (decide_eq_true mX.1) ZCq;have eX:=ZO8;refine test_last (WP.mono (hd.1 K L mW mX.2 A s2 aG fz.1 Yg9) λQ7 s3 mY=>mY.elim λbF mY=>ZUZ λw yM=>I6 yM.1 yM.2 λl aAg qA O agA=>?_);refine jg qA ?_;exact lt_int (wpAny_truthy_bool ⟨bF,mY.1,ZMn,agA⟩)⟩
theorem Ry:lM []:=by
 refine Znm
 ·cases xs with
  |nil=>exact h
  |cons _ _=>exact Y6X
 ·cases xs with
  |nil=>exact Qk h
  |cons _ _=>exact Y6X
theorem Rz(a:E)(as:Yv)(aD:YDL)(has:YHG):lM Yfi:=by
 refine Znm
 ·cases xs with
  |nil=>exact Y6X
  |cons x xs=>
   exact dG ao λbD bC=>YvI λv m z=>has.1 K L bC z
 ·cases xs with
  |nil=>exact Y6X
  |cons x xs=>
   exact dG ao λbD bC=>agk ((aD.2 K L bD h).mono λO O z=>sY z (has.2 K L bC) id)
theorem agB{f:YIT}{P:Y1}(h:l1 l false f=true)(k:∀a,l=[a]→ZNq):P:=by
 cases l with
 |nil=>exact Y0L
 |cons a r=>cases r with
  |nil=>exact YH5
  |cons _ _=>exact Y0L
theorem ER{c:bP}{t:dY}{e:aI}(h:Z4d)(ah:ZYF):∃as x p,e=Z04:=by
 cases t with
 |one i=>exact Y0L
 |two i j=>exact ZMX
 |three i j k=>exact ZMX
theorem ES{c:bP}{d5:gq}{t:dY}{n:Nat}{as:Yv}{it:aI}{Q:Y1D}(ai:YHG)(K:ZG)(L:ZI)(ao:Ba H c d5 t n ZYJ it=true)(ah:Z4d→ZmO)(h:(e7 ZH as).1 r mh λvs m=>d5.o.ij vs m Q):
  ow g k env c.ns r mh tgt d5.o.weak ZNc Q∧ZmH∧Z2m:=
 eP ao λes hm q=>by
  exact pg q λbD bC d4=>⟨d5.snd.1 K L (λhw=>ah ((gG bC).elim (λz=>absurd (cA hw (Y2B z)) nb) id)) hm (Y7T K L bD h),Qc _ (d5.snd.2 hm),d4⟩
theorem RA{c:bP}{t:dY}{weak:Bool}{v:V}{Q:Y7Z}(L:ZI)(hf:Yd1)(ah:ZYG)(h:YmD):sQ g k env c.ns r tgt weak v Zi1:=QU L ah (agp hf h)
theorem RB{c:bP}{t:dY}{weak:Bool}{ifs:A8}{xs:Ye}{elt:E}{x:aI}{v:V}{N:Ys}(sZ:YLu)(K:ZG)(L:ZI)(hf:Yd1)(ah:ZYG)(aq:hZ elt H c x=true)(af:∀{r:bG}{mh:ag}{Q:Y0i},ifs r mh Q→ZZY)(h:mV t weak r ifs (bH ZH elt).1 v acc mh N):ED g k env c.ns r tgt weak xs x v acc mh N:=
 (RA L hf ah h).mono λb6 z=>⟨z.1,(af Z3).mono λO O w=>sY w (λw=>sZ.1 K L aq w) id⟩
theorem I7{c7:Comprehension}(h:ZIw=true):c7=⟨c7.target,c7.iter,c7.ifs,0⟩:=by
 cases c7 with
 |mk a b c d=>exact congrArg (Comprehension.mk a b c) Y15
abbrev agC(g:G)(k:Nat)(env:Env)(c:bP)(r:bG)(mh:ag)(e:aI)(Q:Yj)(P:Y1):Y1:=∀(elt tgt iter:aI)(ifs:Ye)(rest:YCO)(scope:Scope)(own:YH)(caps:YV)(pos:Pos)(weak:Bool),e=Y5J→Yst→Y7C→ZWY→P
abbrev yN(g:G)(k:Nat)(env:Env)(c:bP)(r:bG)(mh:ag)(e:aI)(Q:Yj):Y1:=∀P:Y1,agC g k env c r mh e Q P→P
theorem yN.ev{c:bP}{e:aI}(L:ZI)(D:yN g k env c r mh e Q):YK5:=D _ λO O O O O O O O O O e3 hs N h=>aT e3 (afY hs N L h)
theorem yN.yO{c:bP}{e:aI}{nm:Str}{c5:Pos}{Qn:Y5V}(L:ZI)(A4:swapsWith e (some Z01) pos.line env=YMn)(aR:env.kindOf nm=Y2z)(az:Y8y=some nm)(D:yN g k env c r mh e λv m=>Qn Y5g m):jk g k env c.ns r mh (exec (Y5x [Z01] e pos) env) Qn Qr:=D _ λO O O O O O O O O O e3 hs N h=>by
 (replace A4:=DC e3 A4;refine Ax e3 ?_)
 exact afZ hs N L A4 aR az h
theorem RC{c:bP}(d5:gq)(as:Yv)(t:dY)(own:Nat)(caps:YV)(ifs:Yv)(elt:E)(eh:YHG)(I8:lM ifs)(sZ:YLu){x:aI}(K:ZG)(L:ZI)(ao:hZ YPZ H c x=true)(h:(bH ZH YPZ).1 r mh Q):Zf9:=
 eP ao λy O q=>agB q λc7 oE q=>by
  refine OX q λbD bC d4 hJ i1 qv A5=>?_;have N:=Qy hJ;have fx:Yy4=own:=YLd;have S:=ES (k:=k) (r:=r) (mh:=mh) (tgt:=c7.target) eh K L bC (λz=>ER z i1) h;refine(λO bA=>bA _ _ _ _ _ _ _ _ _ _ (Yqr (dT oE (wi Z4f rfl))) S.2.1 N Z7S);have fA:=Z5f;rw[←fx]at z;exact afR z.1 (YYI λO O O O w=>RB sZ K fA Z4e i1 A5 (λw=>I8.2 K fA qv w) w)
theorem RD(d5:gq)(as:Yv)(t:dY)(own:Nat)(caps:YV)(ifs:Yv)(elt:E)(eh:YHG)(I8:lM ifs)(sZ:YLu):hB YPZ:=
 ⟨λK L ao h=>(RC d5 as t own caps ifs elt eh I8 sZ K L ao h).ev L,YrM⟩
theorem RE{c:bP}(s1:gq)(wH:Yv)(t1:dY)(s2:gq)(wI:Yv)(cy:dY)(own:Nat)(caps:YV)(elt:E)(I9:lM wH)(Ja:lM wI)(sZ:YLu){x:aI}(K:ZG)(L:ZI)(ao:hZ YcP H c x=true)(h:(bH ZH YcP).1 r mh Q):Zf9:=
 eP ao λy O q=>sV q λg1 g2 oE q=>by
  refine ac5 q λbD bC d4 hJ i1 qv A5 u8 yJ Bc ET EU=>?_;have N:=Qy A5;have fx:Yam=own:=ZND;have S:=ES (k:=k) (r:=r) (mh:=mh) (tgt:=g1.target) I9 K L i1 (λz=>ER z u8) h;have hf:∀C,∀x,foldedSetIterable g2.iter (ml YNo env C) x=YDq:=λC=>eP Bc λes hm O=>Qc _ (s2.snd.2 hm);have agD:A9 cy own=true:=eP Bc λes hm w=>(cL (cL w).2).2;refine(λO bA=>bA _ _ _ _ _ _ _ _ _ _ (Yqr (dT oE (wi Z4f (aa (I7 bC) (aa (sA d4) (aa (sA hJ) rfl)))))) S.2.1 N Z7S);have fA:=Z5f;rw[←fx]at z;refine afS (w2:=s2.o.weak) (hf C) z.1 (YYI λv acc mh gr w=>(RA fA Z4e u8 w).mono λb6 w=>⟨w.1,?_⟩);have cK:=ES (k:=k) (r:=b6) (mh:=mh) (tgt:=g2.target) Ja K fA Bc (λz=>ER z yJ) Y3O;have fr:Bb cy b6:=λi af v e=>I5 (r:=r) (caps:=caps) (aV fx.symm agD:A9 cy Yam=true) i af v (Y3j i v (agq ET i af) e);exact cK.1.mono λvals2 Iy aH u=>u.imp λAZ u=>⟨u.1,u.2.mono λO O O O w=>RB sZ K fA fr yJ EU (λw=>Qk w) w⟩
theorem RF(s1:gq)(wH:Yv)(t1:dY)(s2:gq)(wI:Yv)(cy:dY)(own:Nat)(caps:YV)(elt:E)(I9:lM wH)(Ja:lM wI)(sZ:YLu):hB YcP:=
 ⟨λK L ao h=>(RE s1 wH t1 s2 wI cy own caps elt I9 Ja sZ K L ao h).ev L,YrM⟩
theorem oF(e:E):hB e:=E.rec (motive_1:=hB) (motive_2:=lM) Ro Rp Rq Rt snd_and Rv Rw RD RF Rx Ry Rz e
theorem qB(e:Yv):lM e:=E.rec_1 (motive_1:=hB) (motive_2:=lM) Ro Rp Rq Rt snd_and Rv Rw RD RF Rx Ry Rz e
abbrev St:=PySem.Stmt
def yP{α:St→Y4k}(e:St)(d:Zlm)(agE:∀v p,α (YEs v p))(agF:∀t v p,α (Y5x t v p))(agG:∀t i b o p,α (.For t i b o p))(agH:∀t b o p,α (YPU t b o p))(agI:∀t a b p,α (.If t a b p))(agJ:∀v p,α (YJV v p))(agK:∀e c p,α (.Raise e c p))(agL:∀b h o f p,α (.Try b h o f p)):α e:=PySem.Stmt.casesOn e ZgC ZgC (λO O O O O O O O O O O=>d _) agE Y9h agF (λO O O O O O O=>d _) YEL YYV agG YYV agH agI YIZ YIZ YIZ agK agL YYV YIZ Y9h YEL Y9h Y9h agJ Yrd Yrd Yrd
def agM(e:St):Z6C:=yP (α:=λe=>Z6C) e ZP (λv p=>Option.casesOn (motive:=λv=>Option {x:aI // ∃q,PySem.Stmt.Return v p=YEs YQ q}) v none λx=>some ⟨x,p,rfl⟩) YX Y4U Yl Yl Yz YX Y4U
def agN(e:St):Z6N:=yP (α:=λe=>Z6N) e ZP Yz (λt v p=>NZ (motive:=λt=>Option {x:Yfu // aye t v p=YPQ}) t none λa r=>NZ (motive:=λr=>Option {x:Yfu // aye (a::r) v p=YPQ}) r (some ⟨(a,v,p),rfl⟩) Yz) Y4U Yl Yl Yz YX Y4U
def agO(e:St):Z6M:=yP (α:=λe=>Z6M) e ZP Yz YX (λt i b o p=>NZ (motive:=λo=>Option {x:aI×YS8 // ∃q,PySem.Stmt.For t i b o p=.For x.1 Y2L ZJ [] q}) o (some ⟨(t,i,b),p,rfl⟩) Yz) Yl Yl Yz YX Y4U
def agP(e:St):Z6F:=yP (α:=λe=>Z6F) e ZP Yz YX Y4U (λt b o p=>NZ (motive:=λo=>Option {x:YS8 // ∃q,PySem.Stmt.While t b o p=YPU x.1 x.2 [] q}) o (some ⟨(t,b),p,rfl⟩) Yz) Yl Yz YX Y4U
def agQ(e:St):Z6G:=yP (α:=λe=>Z6G) e ZP Yz YX Y4U Yl ZkM Yz YX Y4U
def agR(e:St):Z6J:=yP (α:=λe=>Z6J) e ZP Yz YX Y4U Yl Yl (λv p=>some ⟨(v,p),rfl⟩) YX Y4U
def pureOf(t:Y7I):Z62:=Sem.casesOn (motive:=λt=>Z62) t (λa=>some Yt8) ZP ZP ZP Yz Yz YX Yl Yz Yz Yz Yz ZP ZP YX YX Y4U Yz Yz Yz Yl Yl ZP Yz ZP Y4U
def nQ(cN:Kinds):Env:={scope:=⟨Y5K,cN,false,false,[]⟩,locals:=0,globals:=0,cells:=[]}
abbrev j6(env:Env)(c:bP):Y1:=jd ZI (∀n,Y25=Y3H) Yju
theorem j6.fb{c:bP}(F:Y3e):env.blockKind=Y5K:=by unfold Env.blockKind;rw[F.3];rfl
theorem RG(cN:Kinds)(n:Str):(nQ cN).kindOf n=cN.lookup n:=rfl
theorem RH(cN:Kinds):(nQ cN).blockKind=Y5K:=rfl
theorem Jb{c:bP}(F:Y3e)(v:aI)(t:aI)(l:Nat):swapsWithSole [t] v l env=swapsWithSole [t] v l YW2:=by
 show swapsWith v YNK l env=swapsWith v YNK l YW2;dsimp only [swapsWith];refine aa F.fb (aa Z7M (aa YxC ZCt));rfl
theorem RI{c:bP}(F:Y3e)(v:aI)(t:aI):YpV=swappedStores [t] v YW2:=by
 unfold swappedStores;exact aa F.fb (aa Z7M (aa YxC rfl))
theorem agS{c:bP}(F:Y3e)(v:aI)(l:Nat):swapsWith v none l env=swapsWith v none l YW2:=by
 dsimp only [swapsWith];refine ZCt;rfl
theorem j6.inter{c:bP}(F:Y3e):interactive env=false:=by refine gz F.3 ?_;rfl
def yQ(cN:Kinds)(t v:aI)(p:Pos):Bool:=YyL&&(YyK false λo=>o.1.isNone)
def RJ(cN:Kinds)(t v:aI)(p:Pos):Bool:=Yar false λb=>b.1
def Jc(cN:Kinds)(t v:aI)(p:Pos)(names:YH):Bool:=YyL&&(YyK false λo=>o.1==Zao)
def Jd(cN:Kinds)(v:aI)(p:Pos):Bool:=(pureOf (swapsWith v none p.line YnP)).elim false Zi2
theorem RK{c:bP}(F:Y3e){t v:aI}{p:Pos}(h:yQ c.cN t v p=true):ZbG∧YpV=YMm:=by
 have h:=Y1q;refine ZnL
 ·exact ZE8
 ·exact aj Z7N (aj b.2 (congrArg _ (An q)))
theorem agT{c:bP}(F:Y3e){t v:aI}{p:Pos}(h:RJ c.cN t v p=true):swapsWith v YNK p.line env=YMn:=eP h λb O q=>((Jb F v t p.line).trans b.2).trans (congrArg pure q)
theorem agU{c:bP}(F:Y3e){t v:aI}{p:Pos}{names:YH}(h:Jc c.cN t v p names=true):ZbG∧YpV=pure Zao:=by
 have h:=Y1q;refine ZnL
 ·exact ZE8
 ·exact aj Z7N (aj b.2 (congrArg _ Y1e))
theorem agV{c:bP}(F:Y3e){v:aI}{p:Pos}(h:Jd c.cN v p=true):swapsWith v none p.line env=YoE:=eP h λb O q=>((agS F v p.line).trans b.2).trans (congrArg pure Yxn)
inductive T where
 |nm (i:Nat) |fd (C i:Nat) (o:E) |eB (o i:E) |hA (o i:E)
inductive S where
 |nil
 |ret (e:E)
 |exp (e:E) (s:S)
 |asg (t:T) (e:E) (s:S)
 |yR (i:Nat) (e:E) (s:S)
 |wJ (is:YV) (es:Yv) (s:S)
 |Bd (ts:Y8b) (es:Yv) (s:S)
 |wK (l:Bool) (i j:Nat) (e:E) (s:S)
 |cV (t:E) (a b s:S)
 |Be (t:E) (b s:S)
 |for (d5:gq) (as:Yv) (t:dY) (b s:S)
 |bad
inductive Je(m:ag)(a:Nat)(Q:YeE):Y1
 |mk (t c:Nat) (es:dm) (h:Ymv) (q:Z73):Je m a Q
def lb(v:V)(mh:ag)(Q:YeE):Y1:=v.oi False λa=>Je mh a Q
abbrev hg:=Y5V
abbrev yS(p dV:Y1)(r:bG)(m:ag)(Q:hg):Y1:=jd p dV YKJ
theorem yS.un{p:Y1}{Q:hg}(h:yS p dV r m Q):p∧dV∧YKJ:=ZQC
def Bf(cl:Calls)(t:T)(v:V)(r:bG)(m:ag)(Q:hg):Y1:=t.casesOn (λi=>Q Y5g m)
 (λC i o=>YEa r m λa m1=>inst a C m1 λp t fs=>yS YDT YDF r ZcP Q)
 (λo i=>YEa r m λa m1=>YOe r m1 λb aH=>lst a aH λp t vs=>Y2a∧b.iU False λn=>ZVP∧Q r ZcA)
 (λo i=>YEa r m λa m1=>YOe r m1 λb aH=>lb a aH λp t c es=>yS Ykq Y6N r Zc9 Q)
def Bg(cl:Calls)(ts:Y8b):Y3→bG→ag→hg→Y1:=ts.rec (λvs r m Q=>vs.casesOn YKJ Y28) λt O ai vs r m Q=>vs.casesOn False λv vs=>Bf cl t v r m λbI ab=>ai vs bI ab Q
def Bh(is:YV)(r:bG):Z5W:=is.rec (λO=>r) λi O ai vs=>vs.casesOn r λv vs=>(ai vs).set i Ym
abbrev iM:=YhR
def agW(t:A8)(b s:iM):iM:=λr m Qn Qr=>∃J:YRL,∃n,YFM∧∀n r m,YFM→t r m λx m1=>cond x (b r m1 YOF Qr) (s r m1 Qn Qr)
def RL(P:Y2j)(need:Y6)(t:dY)(weak:Bool)(b s:iM)(Qn:hg)(Qr:Yj):Y1:=
 (∀r m,Y69→Y3K∧s r m Qn Qr)∧∀v vs r m,Y7H→Y3K∧j3 t weak v r λb6=>b b6 m YKI Qr
def agX:iM:=λr m Qn O=>YCQ
def agY(cl:Calls)(e:E):iM:=λr m O Qr=>Yve
def agZ(cl:Calls)(e:E)(_:S)(s:iM):iM:=λr m Qn Qr=>Zd r m λO ab=>s r ab Qn Qr
def ag0(cl:Calls)(t:T)(e:E)(_:S)(s:iM):iM:=λr m Qn Qr=>Zd r m λv ab=>Bf cl t v r ab YYp
def RM(e:E):Bool:=E.casesOn e Y1k Y0P Y1j Y1k Y0P Y0P Y1j (λO O O O O O O=>true) (λO O O O O O O O O=>true) Y1j
def ag1(cl:Calls)(i:Nat)(e:E)(_:S)(s:iM):iM:=λr m Qn Qr=>Zd r m λv ab=>s Y5g ab Qn Qr
def ag2(cl:Calls)(is:YV)(es:Yv)(_:S)(s:iM):iM:=λr m Qn Qr=>Y2d r m λvs ab=>s Yd2 ab Qn Qr
def ag3(cl:Calls)(ts:Y8b)(es:Yv)(_:S)(s:iM):iM:=λr m Qn Qr=>Y2d r m λvs ab=>Bg cl ts vs r ab YYp
def ag4(cl:Calls)(l:Bool)(i j:Nat)(e:E)(_:S)(s:iM):iM:=λr m Qn Qr=>Zd r m λv ab=>cond l (lst v ab λO O vs=>Zbl) (v.eM False λvs=>Zbl)
def ag5(cl:Calls)(t:E)(_ _ _:S)(a b s:iM):iM:=λr m Qn Qr=>YBg r m λx ab=>cond x (a r ab YYp Qr) (b r ab YYp Qr)
def ag6(cl:Calls)(t:E)(_ _:S)(b s:iM):iM:=agW YBg b s
def ag7(cl:Calls)(d5:gq)(as:Yv)(t:dY)(_ _:S)(b s:iM):iM:=λr m Qn Qr=>YaL r m λvs ab=>d5.o.ij vs ab λvals need aH=>∃P:Y2j,YeP∧RL P need t d5.o.weak b s Qn Qr
def ag8:iM:=ZgG
def a6(cl:Calls)(s:S):iM:=S.rec (motive:=λO=>iM) agX (agY cl) (agZ cl) (ag0 cl) (ag1 cl) (ag2 cl) (ag3 cl) (ag4 cl) (ag5 cl) (ag6 cl) (ag7 cl) ag8 s
def Jf(t:T):Ch:=λH c x=>t.casesOn (λi=>YnT)
 (λC i o=>(Ie x).elim false λy=>(YuX false λl=>Y54==some Y5C)&&ZQg)
 Zjn
 Zjn
def Jg(ts:Y8b):oD:=ts.rec YrQ λt O ai H c l=>l.casesOn false λx xs=>Jf t H c x&&(!isStar x&&ai H c xs)
def Jh(is:YV)(c:bP):Z5X:=is.rec Ys7 λi O ai l=>l.casesOn false λx xs=>YnT&&ai xs
def namesOf(xs:Ye):YH:=xs.filterMap Zky
abbrev jB:=ih→YSp
def pC(l:Ze)(f:Z89):Bool:=l.casesOn false f
def ag9:jB:=YrQ
def aha(e:E):jB:=λH c l=>pC l λst O=>(agM st).elim false λy=>hZ e H c y.1
def yT(st:St)(f:ZBE):Bool:=(agN st).elim false λy=>f Y1v Y5C Y4T
def ahb(e:E)(_:S)(s:jB):jB:=λH c l=>pC l λst r=>((agR st).elim false λy=>hZ e H c Y1v&&Jd c.cN Y1v Zj)&&Y9X
def ahc(t:T)(e:E)(_:S)(s:jB):jB:=λH c l=>pC l λst r=>(yT st λtg x p=>Yqu&&(!isStar tg&&(YAs&&Jf t H c tg)))&&Y9X
def ahd(i:Nat)(e:E)(_:S)(s:jB):jB:=λH c l=>pC l λst r=>(yT st λtg x p=>(uC tg).elim false λn=>RJ c.cN tg x p&&((ZIa==Y2z)&&(YiF&&(RM e&&YAs))))&&Y9X
def ahe(is:YV)(es:Yv)(_:S)(s:jB):jB:=λH c l=>pC l λst r=>(yT st λtg x p=>Yaz false λts=>Yb1 false λvs=>Jc c.cN tg x p (namesOf ts.1)&&(Jh is c ts.1&&(ZVp&&(ZYK&&(is.length==es.length&&decide ZRt)))))&&Y9X
def ahf(ts:Y8b)(es:Yv)(_:S)(s:jB):jB:=λH c l=>pC l λst r=>(yT st λtg x p=>Yaz false λxs=>Yb1 false λvs=>Yqu&&(Jg ts H c xs.1&&(ZVp&&(ZYK&&(ts.length==es.length&&decide (es.length≤10))))))&&Y9X
def ahg(_:Bool)(i j:Nat)(e:E)(_:S)(s:jB):jB:=λH c l=>pC l λst r=>(yT st λtg x p=>Yqu&&(qx c YA5 tg&&YAs))&&Y9X
def ahh(t:E)(_ _ _:S)(a b s:jB):jB:=λH c l=>pC l λst r=>((agQ st).elim false λy=>ZQh&&ZAH)&&Y9X
def ahi(t:E)(_ _:S)(b s:jB):jB:=λH c l=>pC l λst r=>((agP st).elim false λy=>ZQh&&b H c Zj)&&Y9X
def ahj(d5:gq)(as:Yv)(t:dY)(_ _:S)(b s:jB):jB:=λH c l=>pC l λst r=>((agO st).elim false λy=>Ba H c d5 t c.ns.length ZYJ Y5C&&(qx c t Y1v&&ZFj))&&Y9X
def ahk:jB:=Y0o
def rz(s:S):jB:=S.rec (motive:=λO=>jB) ag9 aha ahb ahc ahd ahe ahf ahg ahh ahi ahj ahk s
theorem ahl{E:Y8}{s:Shared}{it t:Addr}(iA:t≠it)(bq:ZZI){n i:Nat}{Q:YR9}(hit:s.heap.IsListIter it t i)(le:i+n≤xs.length)(dp:∀h',h'.IsListIter it t (i+n)→YMQ→Q ((xs.drop i).take n) Yx):wpAny YR A (draw Y46 n) Q E s:=by
 induction n generalizing i s Q with
 |zero=>exact wpAny_pure (dp s.heap hit (ayf ..))
 |succ n ai=>
  have fQ:ZRC:=ew (ab7 ZSI) le;show wpAny _ _ (ZXf >>= _) Q E s;refine bd (wpAny_pyNext_list_item (items:=Z1) hit ZRu (pk (dy fQ)) ZkC);have e:i+(n+1)=i+1+n:=(fO i n 1)
  refine bd (wpAny_holding (ai (s:={s with heap:=qt}) ((Bi.2 t iA).trans bq) Ji (aV e le) λJj ahm ahn=>Zm));have:=dp Jj (aa e ahm) (Bi.trans ahn);replace this:=aQ List.take_succ_cons (bN (NV fQ) this);exact this
theorem aho{E:Y8}{t:Addr}{Q:YR9}(bJ:Zg)(bq:ZZI)(dp:∀h',Y9E→Q xs Yx):wpAny YR A (unpackItems YQB xs.length none) Q E s:=by
 have fQ:t≠s.heap.objs.size:=ej (fE bq);refine bd (bd (wpAny_specialOf (ou bq) slot_list_iter.lookup Yg));intro aAh aAi aAj;refine wpAny_pure (bd (wpAny_holding (wpAny_pyIter_list (items:=Z1) ZRu ?_)));have EV:=hH s.heap {cls:=Z2T,data:=ZY #[YQB,YBw]} _ _ bq;refine Yg;intro aAk aAl aAm;refine bd (wpAny_holding (ahl (i:=0) (xs:=xs) (ep:=ep) fQ EV Y6l YjE ZkC));have ahp:List.take xs.length (G8 0 xs)=xs:=aL List.drop_zero (N0)
 (refine aa ahp (cb (if_neg (t9 _)) ?_))
 refine bd (wpAny_holding (wpAny_pyNext_list_end (items:=Z1) bJ Ji (isList ((Bi.2 t fQ).trans EV)) (by exact aX YDb (YPF Yo2)) λJj ahq=>?_));exact wpAny_pure (dp Jj λb o e=>ahq b o Y6M ((Bi.2 b Y6M).trans YUy))
abbrev RN(g:G)(env:Env)(ns:YH)(s:Shared)(mh:ag)(Q:hg)(s':Shared)(bI:bG)(ab:ag):Y1:=hr YAL YRe ZLE (Q bI ab)
abbrev oG(g:G)(env:Env)(ns:YH)(s:Shared)(mh:ag)(Q:hg)(s':Shared):Y1:=∃bI ab,RN g env ns s mh Q s' bI ab
def wL(g:G)(k:Nat)(env:Env)(ns:YH)(r:bG)(mh:ag)(tgt:aI)(v:V)(Q:hg):Y1:=∀A s x,Z5→YU→Y1d→Y2m→WP g A YKu YYe s
def uN(g:G)(k:Nat)(env:Env)(ns:YH)(r:bG)(mh:ag)(ts:Ydq)(vs:Y3)(Q:hg):Y1:=∀A s xs,Z5→YU→Y1d→Y3B→WP g A (assignInOrder ts xs) YYe s
theorem oG.go{Q:hg}(st:Z7z)(h:ZWA):oG g env ns s0 m0 Q s':=h.imp λbI z=>z.imp λab z=>⟨z.1,Zb8,z.3,z.4⟩
theorem ahr{n:Str}{v:V}{Q:hg}{p:Pos}(af:Y6Y)(hs:Y8h)(h:Q Y5g mh):wL g k env ns r mh Y44 v Q:=λA s x aG ae aN bg=>rv aN ae af hs bg λs' a1 jA aJ=>⟨_,_,a1,jA,aJ,h⟩
theorem Bj{v:V}{f:Yo}{P:Y1}(h:v.iU False f)(k:∀n:Nat,v=Ybc→YUV):P:=by
 cases v with
 |int z=>cases z with
  |ofNat n=>exact YmP
  |negSucc n=>exact h.elim
 |_=>exact h.elim
theorem s6{v:V}{Q:YeE}{P:Y1}(h:lb v mh Q)(f:∀a t c es,YNW→YVp→Z73→P):P:=by
 cases v with
 |ref a=>exact Je.casesOn h λt c es h q=>f a t c es rfl h q
 |_=>exact h.elim
theorem RO{o i:aI}{v:V}{Q:hg}(h:Ev g k env ns r mh Y7j λa m1=>Ev g k env ns r m1 (eval i env) λb aH=>∀A s x y z,Z5→a5 g aH s→ZBT→aK s.heap y b→aK s.heap z v→fW g A cX s aH (setItem x y z) (uw λbF=>Q r bF)):wL g k env ns r mh (Y6v o i pos) v Q:=λA s x aG ae aN bg=>by
 refine d9 (arm_assign_Subscript ..) (bd (wpAny_holding (Y0p λEW s1 z=>z.elim λm1 z=>Y0g λa q=>Yg)));intro ahs aht ahu;refine bd (wpAny_holding (YJO λJk s2 y=>y.elim λaH y=>YIJ λb p=>YL7));have st:=YEI;exact bd (wpAny_holding ((p.2 A s2 EW Jk x aG y.1 YHc p.1 ZHH).mono λO O w=>w.elim λbF w=>wpAny_release (⟨r,bF,w.1,(st.trans w.2).mm,aN.ez Zb7,w.3⟩)))
theorem RP{c:bP}(t:T){v:V}{Q:hg}(K:ZG)(L:ZI)(ao:Jf t H c tgt=true)(h:Bf ZH t v r mh Q):wL g k env c.ns r mh tgt v Q:=by
 cases t with
 |nm i=>exact pB L ao λn p e af hs=>aa e (ahr af hs h)
 |fd C i o=>
  refine eP ao λy O q=>dG q λbD bC=>d9 y.2 (eP bD λl aE af=>λA s x aG ae aN bg=>d9 (arm_assign_Attribute ..) Yg);intro RQ RR RS;refine bd (wpAny_holding ((YyF K L bC h A s aG ae aN).mono λEW s1 z=>z.elim λm1 z=>Y0g λa p=>bd (wpAny_standAt (IP p.2 λd u fs bx ar cO=>?_))));have aC:EW=Y35:=(aV bx p.1:aK s1.heap EW Y35)
  exact aa aC (bd (wpAny_holding ((af5 (A:=A) K aE YUE z.1 ar cO.1 cO.2 (bg.keep YIN) cO.3).mono λO O y=>y.elim λaH y=>wpAny_release (⟨r,aH,y.1,(Y0m y.2).mm,aN.ez YEI,y.3⟩))))
 |eB o i=>
  refine eP ao λy O q=>Y5D λp e=>dG q λbD bC=>d9 e (RO (Ytm λa m1 z=>Ytl λb aH z A s x y w aG ae cG cP bz=>jN z λd u vs bx hd z=>Bj z.2 λn cM fz=>?_));have aC:x=Y35:=Yvx
  exact dT aC ((YTV:aK s.heap y Ybc).elim λO c1=>aT c1 (ad4 ae hd z.1 fz.1 bz fz.2))
 |hA o i=>
  refine eP ao λy O q=>Y5D λp e=>dG q λbD bC=>d9 e (RO (Ytm λa m1 z=>Ytl λb aH z A s x y w aG ae cG cP bz=>s6 z λd u c es bx hd z=>?_));have aC:x=Y35:=Yvx
  exact dT aC (aec ae aG hd z.1 cP bz z.2 z.3)
theorem Jl{x:aI}{xs:Ye}:isStar x=false→assignEach Yqe env=(false,ZEo)::assignEach xs env:=p7 x ZR ZR ZA ZR ZA ZA ZR ZR ZA ZA Y1i ZA Y0n Y0n Y0n ZA ZA ZA Y0n ZR ZR ZR YEN Y0n Y0n ZR ZA
theorem ahv{c:bP}(ts:Y8b){xs:Ye}(ao:Z4w):(assignEach xs env).length=ts.length∧(assignEach xs env).findIdx? Yh=none:=by
 induction ts generalizing xs with
 |nil=>
  cases xs with
  |cons _ _=>exact Y6X
  |nil=>exact Zn
 |cons t ts ai=>
  cases xs with
  |nil=>exact Y6X
  |cons x xs=>
   refine dG YTS.2 YEQ;rw[Jl Yxm];have ai:=ai bC;exact⟨ZK6,by refine ZEB;exact congrArg (λo:Y0X=>o.map Y3m) YCi⟩
theorem ahw{c:bP}{r:bG}{mh:ag}(ts:Y8b){xs:Ye}{vs:Y3}{Q:hg}(K:ZG)(L:ZI)(ao:Z4w)(h:Bg ZH ts vs r mh Q):uN g k env c.ns r mh ((assignEach xs env).map Y1w) vs Q:=by
 induction ts generalizing xs vs r mh with
 |nil=>
  cases xs with
  |cons _ _=>exact Y6X
  |nil=>cases vs with
   |nil=>exact λA s bf aG ae aN bz=>mK bz.jh (wpAny_pure ⟨r,mh,ae,Yy,aN,h⟩)
   |cons _ _=>exact h.elim
 |cons t ts ai=>
  cases xs with
  |nil=>exact Y6X
  |cons x xs=>cases vs with
   |nil=>exact h.elim
   |cons v vs=>
    refine pg ao YIf;have h:Bf ZH t v r mh λbI ab=>Bg ZH ts vs bI ab Q:=h;refine mK (Jl Yxl) (λA s bf aG ae aN bz=>bz.un λy AB e gA yU=>mK e Y0K);intro aei aej;exact bd (wpAny_holding ((RP t K L bD h A s y aG ae aN gA).mono λO s1 z=>z.elim λO z=>z.elim λO z=>(ai d4 z.4 A s1 AB aG z.1 z.3 (yU.keep YIN)).mono λO O w=>oG.go z.2 w))
theorem gH.len{mh:ag}{es:Ye}{Q:Ys}(h:ZP2):gH g k env ns r es mh Zkm:=by
 induction es generalizing mh Q with
 |nil=>exact YEX
 |cons e es ai=>exact Ev.mono h λv m q=>(ai q).mono λvs m q=>⟨congrArg Ab q.1,q.2⟩
abbrev ahx(g:G)(s:Shared)(mh:ag)(Q:Ys)(x:Value)(s':Shared)(ab:ag)(vs:Y3):Y1:=hr YAL YRf (iz s'.heap x vs) (Q vs ab)
theorem RT{c:bP}{es:Ye}{n:Nat}{Q:Ys}(hs:Y5f)(aE:YUJ)(h:Ykl)(aG:Z5)(ae:YU)(aN:Y4J):WP g A (eval (Y1A es n pos) env) (λx s'=>∃ab vs,ahx g s mh Zkm x s' ab vs) s:=
 wpAny_Tuple (nJ hs pos▸Yb3 λxs s1 z=>z.elim λm1 z=>Y0g λvs q=>⟨by refine ZEc;exact fZ aE,m1,vs,YEH (s':=Zfz) Y52 rfl rfl,Y0m (Step.grow (s':=Zfz) Y52),
  ⟨_,_,rfl,Zmh,YWn YF2⟩,q.2⟩)
abbrev rA(g:G)(env:Env)(ns:YH)(s:Shared)(mh:ag)(Qn:hg)(Qr:Yj)(f:Flow)(s':Shared):Y1:=ZmN
variable{Qn:hg}
theorem rA.go{f:Flow}(st:Z7z)(h:rA g env ns s mh Qn Qr f s'):ZYY:=h.imp λab z=>Zni
theorem yV{bI:bG}(ae:YAL)(st:YRe)(aN:ZLE)(q:YKK):rA g env ns s mh Qn Qr Y8U s':=⟨ab,ae,st,bI,aN,q⟩
theorem ahy(h:Qn r mh):jk g k env ns r mh (execs [] env) Qn Qr:=λA s aG ae aN=>wpAny_execs_nil (yV ae Yy aN h)
theorem ahz{e:aI}(h:Ev g k env ns r mh Y0s Qr):jk g k env ns r mh (exec (YEs Y5A pos) env) Qn Qr:=λA s aG ae aN=>
 wpAny_Return_some (Y0p λO O z=>z.elim λm1 z=>⟨m1,z.1,YIP,z.3⟩)
theorem ahA{c:bP}{e:aI}(F:Y3e)(hs:Jd c.cN e pos=true)(h:Ev g k env ns r mh Y0s λO m=>YCQ):jk g k env ns r mh (exec (YJV e pos) env) Qn Qr:=λA s aG ae aN=>
 wpAny_Expr_any (Y0p λO O z=>z.elim λO z=>Y0g λO q=>yV z.1 YIP Y2H q.2) F.inter (agV F hs)
theorem ahB{t:aI}{a b:Ze}(h:kP g k env ns r mh Ym8 λx m=>cond x (jk g k env ns r m YUN Qn Qr) (jk g k env ns r m YUO Qn Qr)):jk g k env ns r mh (exec (.If t a b pos) env) Qn Qr:=λA s aG ae aN=>
 wpAny_If (Y0p λx s1 z=>z.elim λm1 z=>by
  cases x with
  |true=>exact((z.3:jk g k env ns r m1 YUN Qn Qr) A s1 aG z.1 Y2H).mono λf s' y=>ZYZ
  |false=>exact((z.3:jk g k env ns r m1 YUO Qn Qr) A s1 aG z.1 Y2H).mono λO O y=>ZYZ)
theorem RU{c:bP}{value:aI}(F:Y3e)(ar:yQ c.cN tgt value pos=true)(qu:ZRw)(h:∀A s,Z5→YU→Y1d→WP g A (eval value env) (λx s1=>WP g A YKu (λO s'=>oG g env ns s mh Qn s') s1) s):jk g k env ns r mh (exec (Y5x [tgt] value pos) env) Qn Qr:=λA s aG ae aN=>
 wpAny_Assign_stores (Y0p λv s1 z=>by
  exact aa (Jl qu) (z.mono λO O y=>y.elim λO y=>y.elim λO y=>yV y.1 y.2 y.3 y.4)) Z7O.1 Z7O.2
variable{is:YV}
theorem ahC{c:bP}{ts:Ye}{ws:Y3}(L:ZI)(az:Z4x)(aE:ZeO):(namesOf ts).length=is.length∧∀(r:bG)(s:Shared)(xs:Yn)(cy:Ydq)(bC:Yn)(R:Y5Q),a5 g m1 s→de g env c.ns r m1 s→a9 s.heap xs ws→
  (∀s',a5 g m1 s'→Step Y1V s m1 s' m1→de g env c.ns Z38 m1 s'→WP g A (assignInOrder cy bC) R s')→WP g A (assignInOrder (((namesOf ts).reverse.map Zje)++cy) (xs.reverse++bC)) R s:=by
 induction is generalizing ts ws with
 |nil=>
  cases ts with
  |cons _ _=>exact nb az
  |nil=>cases ws with
   |cons _ _=>exact absurd aE Y7s
   |nil=>exact⟨rfl,λO s O O O O ae aN bz h=>aa bz.jh (h s ae Yy aN)⟩
 |cons i is ai=>
  cases ts with
  |nil=>exact nb az
  |cons e ts=>cases ws with
   |nil=>exact Ygg
   |cons w ws=>
    have q:=cL az;refine pB L q.1 λn p fq af hs=>?_;have ai:=ai (ts:=ts) (ws:=ws) q.2 YWJ;subst fq;refine⟨ZK6,λr s xs cy bC R ae aN bz h=>bz.un λy bf e gA yU=>Y4o⟩;show WP g A (assignInOrder (((n::ZVi).reverse.map Zje)++cy) ((y::bf).reverse++bC)) R s
    (refine oh ayg (aa ayg (Ax dK (mK Y0k (jL Y0k ?_)))))
    exact YCi r s bf _ _ R ae aN yU λs1 a1 jA aJ=>bd (wpAny_holding (wpAny_bindName (Ib aJ a1 (gA.keep jA.4) af hs λs2 a2 eX aC=>h s2 a2 ZSF aC)))
variable{cO:Pos}
theorem ahD{c:bP}{ts vs:Ye}{cT:Nat}{ek:Pos}(F:Y3e)(ar:Jc c.cN Z06 Z07 pos ZVi=true)(az:Z4x)(hs:noStar vs=true)(aE:ZRt)(aO:vs.length=is.length)(h:gH g k env c.ns r vs mh λws m=>Qn Z38 m):jk g k env c.ns r mh (exec (Y5x [Z06] Z07 pos) env) Qn Qr:=λA s aG ae aN=>by
 have nm:=agU F ar;refine d9 (exec_Assign_arm ..) (bd (wpAny_standAt (ix nm.1 (bd (wpAny_pure ZJa)))));intro ahE ahF ahG;refine bd ((RT hs (aa aO Y7W) h aG ae aN).mono λx s1 z=>z.elim λm1 z=>z.elim λws z=>ix nm.2 Yhm);intro RQ RR RS;refine bd (wpAny_rule (bd (Y0g λt y=>y.elim λxs y=>?_)));have hlen:ZeO:=z.4.1.trans aO;have ax:=ahC (g:=g) (A:=A) (m1:=m1) F.1 az hlen;rw[y.1,ax.1,show is.length=Y2N by rw[eN,y.2.2.length,hlen]];refine wpAny_unpackItems_tuple Y2l (jx y.2.1) Yrt;have b5:YlR:=YYn;have eX:Step cX s1 m1 YEK m1:=Step.grow (s':=YEK) b5;have fin:=ax.2 r YEK xs [] [] (λO s3=>rA g env c.ns s mh Qn Qr Y8U s3) (YEH (s':=YEK) b5 rfl rfl) (aN.ez (Y0m eX)) (y.2.2.keep YGZ) λs3 dB fJ c1=>wpAny_pure (yV dB ((Y0m eX).mm.trans fJ) c1 z.4.2);replace fin:=acU Y1U (acT Y1U fin);exact bd (fin.mono λO O w=>wpAny_pure w)
theorem RV{ts:Z5M}{Q:hg}(bJ:Z5)(ae:YU)(aN:Y1d)(ahH:iz s.heap x vs)(aE:Zbg)(hs:Zbe)(h:Zbt):WP g A (unpack x ts) YYe s:=
 ahH.elim λa z=>z.elim λxs z=>by
  refine jL z.1 (wpAny_unpack_tuple bJ.3 ZSc (aL Y0D (aL z.2.2.length (aE))) hs Yrt);have b5:Y9E:=YYn;have st:YRg:=YCT;exact(h A Yx xs bJ YCg YKm (YYH Y5k)).mono Zgu
theorem ahI{ts:Z5M}{Q:hg}(bJ:Z5)(ae:YU)(aN:Y1d)(e:Y3w)(aE:Zbg)(hs:Zbe)(h:Zbt):WP g A (unpack YA ts) YYe s:=
 ae.list e λxs ep aq bg=>by
  unfold unpack;refine aa hs (aa aE (aV bg.length (bd (wpAny_holding (aho bJ.3 aq λh' b5=>?_)))));have st:YRg:=YCT;exact(h A Yx xs bJ YCg YKm ZHH).mono Zgu
theorem ahJ{c:bP}{x y:aI}{a b:V}{Q:hg}(L:ZI)(aq:YnT=true)(bb:nameAt c j y=true)(h:Q Y5w mh):uN g k env c.ns r mh [ZEo,assign y env] Y1R Q:=λA s xs aG ae aN bz=>by
 refine pB L aq λn p fq af hs=>pB L bb λm q em aM gB=>?_;clear aq bb;subst fq;subst em;exact bz.two.elim λu z=>z.elim λv z=>mK z.1 (bd (wpAny_holding (rv aN ae af hs Z4 λO a2 eX aC=>bd (wpAny_holding (rv aC a2 aM gB (YYH YGZ) λO dB fJ c1=>wpAny_pure ⟨_,_,dB,eX.trans fJ,c1,h⟩)))))
theorem uN.mono{ts:Ydq}{Q Q':hg}(h:uN g k env ns r mh ts vs Q)(f:Zm5):uN g k env ns r mh ts vs Q':=λA s xs aG ae aN bz=>(h A s xs aG ae aN bz).mono Zgt
theorem ahK{t:aI}{body:Ze}{J:YRL}{n:Nat}(h0:Z4s)(turn:∀n r mh,Z4s→kP g k env ns r mh Ym8 λx m=>cond x (jk g k env ns r m YD8 YOF Qr) YCQ):jk g k env ns r mh (exec (YPU t body [] pos) env) Qn Qr:=λA s aG ae aN=>by
 refine Yg;intro RW RX RY;refine wpAny_While (codeAny_whileLoop (λn s'=>∃bI aW,RN g env ns s mh (J n) s' bI aW) ?_ n ⟨r,mh,ae,Yy,aN,h0⟩);intro n s' z;refine z.elim λb6 z=>z.elim λm1 z=>Yg;intro aAn aAo aAp;refine wpAny_mono (E:=lH) (turn n b6 m1 z.4 A s' aG z.1 z.3) (λx s2 y=>y.elim λaH y=>?_) Y0E;have q:=y.3
 cases x with
 |false=>exact wpAny_execs_nil (yV y.1 (Y0m y.2.mm) Yr1 q)
 |true=>
  have q:jk g k env ns b6 aH YD8 YOF Qr:=q;refine Yg;intro aAq aAr aAs;refine wpAny_mono (E:=lH) (q A s2 aG y.1 Yr1) (λf s3 w=>w.elim λbF w=>?_) Y0E;have uO:=(Y0m y.2.mm).trans w.2;have EX:=w.3
  cases f with
  |next=>exact EX.elim λuK p=>p.2.elim λey cO=>⟨ey,cO.1,uK,bF,w.1,uO,p.1,cO.2⟩
  |ret u=>exact⟨bF,w.1,uO,EX⟩
  |brk=>exact EX.elim
  |cont=>exact EX.elim
abbrev ahL(g:G)(env:Env)(ns:YH)(wr:Yo)(s0:Shared)(m0:ag)(vals:Y3)(St:Y49)(P:Y2j)(n:Nat)(s:Shared)(i:Nat)(r:bG)(m:ag):Y1:=OA ZVS Y4n YLS (Step YYk s0 m0 s m) YKP Ymp (P YEC r m) YmB
theorem ahM{body:Ze}{weak:Bool}{St:Y49}{R:Y4A}{P:Y2j}(aG:Z5)(W:YlS)(fr:Ysm)(ap:YIl)(gI:∀f s',ZYY→Z7G)(az:Zm3)(ao:ZmB)(ae:YU)(aN:Y1d)(st:Step YYk s0 m0 s mh)(h0:YRd)(w:YDc)(h:P vals r mh):
  codeAny Yu A (.forLoop tgt Y1C body [] env) R s:=by
 have wB:Ysn:=Yrg;let EH:YRK:=λn s'=>∃i bI ab,ahL g env ns wr s0 m0 vals St P n s' i bI ab;refine codeAny_forLoop_any EH ?_ vals.length ⟨0,r,mh,rfl,ae,aN,st,h0,w,h,Z0⟩;intro n s1 z;refine z.elim λi z=>z.elim λb6 z=>z.elim λm1 L=>?_;have ak:=L.7
 cases hd:YEC with
 |nil=>
  replace ak:=YHE;have q:=ZFe;have e:=Iu hd L.8;exact wpAny_mono (E:=lH) (W.4 s1 m1 _ (aV e L.5) L.2 q.1 L.6 λO a2 c7=>wpAny_execs_nil (gI _ _ (yV a2 ((c7.step L.4 fr).unfresh fr) Z58 q.2))) Y33 Y0E
 |cons v vs=>
  replace ak:=YHE;have q:=ZEj;have d:=YjT;let AX:Y8:=λx s2=>WP g A YKu (λO s3=>WP g A YD8 (λf s4=>rA g env ns s3 m1 YKI Qr f s4∧∃EY,St (i+1) EY.heap∧lI g wr m1∧Step Y1V EY m1 s3 m1∧Step YYk s0 m0 EY m1) s3) s2;refine Yg;intro Jm Jn RZ;refine wpAny_mono (E:=lH) (W.3 i s1 m1 AX d.1 L.5 L.2 q.1 L.6 Zkw) Zju Y0E
  ·replace bg:=YhW;refine Yau λO s3 y=>y.elim λuK y=>(y.4 A s3 aG y.1 y.3).mono λf s4 w=>⟨w,s2,wC,L.6.step (W.1 _ _ L.5) eX,y.2,L.4.trans ZMo⟩
  ·have f3:=z.1;subst f3;refine wpAny_mono (E:=lH) z.2 (λO s3 gD=>wpAny_mono (E:=lH) gD (λO s4 oy=>wpAny_mono (E:=lH) oy (λf s5 qs=>qs.1.elim λi0 p=>qs.2.elim λEY u=>?_) Y0E) Y0E) Y0E;have kx:=u.2.1.step (W.1 _ _ u.1) YI1.1;have R0:=W.sR u.1 u.2.1 YI1.1 wB;have uO:Step YYk s0 m0 s5 i0:=(YI1.2.trans (YI1.1.weaken Zgo)).trans (p.2.weaken Zgo);have uL:=p.3
   cases f with
   |next=>exact uL.elim λJo lN=>⟨_,YgR,i+1,Jo,i0,rfl,p.1,lN.1,uO,(W.sR R0 kx p.2 wB),(kx.step (W.1 _ _ R0) p.2),aa YTj lN.2,d.1⟩
   |ret v=>exact gI _ _ ⟨i0,p.1,uO.unfresh fr,uL⟩
   |brk=>exact uL.elim
   |cont=>exact uL.elim
theorem ahN{it:aI}{body:Ze}{weak:Bool}(hs:ZmH)(h:ow g k env ns r mh tgt weak ZNc λvals need m=>∃P:Y2j,P vals r m∧Zm3∧
  ZmB):jk g k env ns r mh (exec (.For tgt it body [] pos) env) Qn Qr:=λA s aG ae aN=>
 wpAny_For (Y0p λx s1 q=>wpAny_mono (E:=lH) q (λi s2 q=>q _ λvals need aH I wr St J q=>q.elim λP p=>by
  exact acV J.1 (ahM (s0:=s) (m0:=mh) aG YdV J.7 ZBh Y33 YWR p.2.2 J.2 ZBi (Z4t Y34) J.5 J.6 p.1)) Y33) hs
def ik(s:S):Y1:=∀{g:G}{H:ih}{k:Nat}{env:Env}{c:bP}{r:bG}{mh:ag}{l:Ze}{Qn:hg}{Qr:Yj},ZG→Y3e→rz s H c l=true→a6 ZH s r mh Qn Qr→jk g k env c.ns r mh (execs l env) Qn Qr
theorem R1{l:Ze}{f:Z89}{P:Y1}(h:pC l f=true)(k:∀a r,l=a::r→f a r=true→P):P:=by
 cases l with
 |nil=>exact Y0L
 |cons a r=>exact k a r rfl h
theorem R2{st:St}{rest:Ze}{Q1:hg}(h:jk g k env ns r mh ZNh Q1 Qr)(f:∀r m,Q1 r m→jk g k env ns r m (execs rest env) Qn Qr):jk g k env ns r mh (execs (st::rest) env) Qn Qr:=λA s aG ae aN=>
 wpAny_execs_cons (Y0p λeA s1 z=>z.elim λm1 z=>by
  have q:=z.3
  cases eA with
  |next=>exact q.elim λb6 q=>(f _ _ q.2 A s1 aG z.1 q.1).mono λeA s' y=>rA.go z.2 y
  |ret v=>exact ZnW
  |brk=>exact q.elim
  |cont=>exact q.elim)
theorem Jp{c:bP}{e:E}{x:aI}(K:ZG)(F:Y3e)(ao:YLw)(h:Ya6):YQo:=(oF e).1 K F.1 ao h
theorem R3{c:bP}{e:E}{x:aI}{Q1:hg}(K:ZG)(F:Y3e)(ar:yQ c.cN tgt x pos=true)(qu:ZRw)(ao:YLw)(h:Ya6)(f:∀v m,Y39→wL g k env c.ns r m tgt v Q1):jk g k env c.ns r mh (exec (Y5x [tgt] x pos) env) Q1 Qr:=
 RU F ar qu λA s aG ae aN=>(Jp K F ao h A s aG ae aN).mono λx s1 z=>z.elim λm1 z=>Y0g λv q=>(f v m1 q.2 A s1 x aG z.1 Y2H q.1).mono λO s' y=>ZWB
theorem wL.mono{v:V}{Q Q':hg}(h:wL g k env ns r mh tgt v Q)(f:Zm5):wL g k env ns r mh tgt v Q':=λA s x aG ae aN bg=>(h A s x aG ae aN bg).mono Zgt
theorem ahO{e:aI}{xs:Ye}{n:Nat}{p:Pos}(h:e=Y1A xs n p):Ym7:=YSQ
theorem Bk{st:St}{f:ZBE}{P:Y1}(h:yT st f=true)(k:∀tg x p,Zb9→f tg x p=true→P):P:=eP h λy O q=>k _ _ _ y.2 q
theorem R4{c:bP}(es:Yv){xs:Ye}(ao:YoU):Zev:=by
 induction es generalizing xs with
 |nil=>cases xs with
  |nil=>rfl
  |cons _ _=>exact Y6X
 |cons e es ai=>cases xs with
  |nil=>exact Y6X
  |cons x xs=>exact congrArg Ab (ai YTS.2)
theorem ahP:ik YO:=λ{g H k env c r mh l Qn Qr}K F ao h=>by
 cases l with
 |nil=>exact ahy h
 |cons _ _=>exact Y6X
theorem ahQ(e:E):ik Z24:=λK F ao h=>R1 ao λst rs fa ao=>eP ao λy O q=>Y5D λp bk=>by
 exact jL fa (Ax bk (R2 (Q1:=Y28) (ahz (Jp K F q h)) Y0E))
def ahR(f:ZRm)(R:Z3K):Y1:=∀{g:G}{H:ih}{k:Nat}{env:Env}{c:bP}{r:bG}{mh:ag}{st:St}{Q1:hg}{Qr:Yj},ZG→Y3e→ZNm=true→R ZH r mh Q1 Qr→jk g k env c.ns r mh ZNh Q1 Qr
theorem s7{f:ZRm}{R:Z3K}{s pD:S}(ai:Y5d)(mR:∀{H c l},rz pD H c l=true→pC l (λst rs=>ZNm&&rz s H c rs)=true)(es:∀{cl r m Qn Qr},a6 cl pD r m Qn Qr→R cl r m (λb6 m1=>a6 cl s b6 m1 Qn Qr) Qr)(t:ahR f R):ik pD:=λK F ao h=>
 R1 (mR ao) λst rs fa ao=>jL fa (R2 (t K F YTS.1 (es h)) λO O z=>ai K F YTS.2 z)
theorem R5{tg x:aI}{f:{l:Ye // ∃k p,tg=Z05}→{l:Ye // ∃k p,x=Z05}→Bool}{P:Y1}(h:(Yaz false λts=>Yb1 false λvs=>f ts vs)=true)(k:∀ts vs dn ek fI cO,tg=Y1A ts.1 dn ek→x=Y1A vs.1 fI cO→f ts vs=true→P):P:=
 eP h λts O q=>eP q λvs O q=>ts.2.elim λdn z=>z.elim λek aJ=>vs.2.elim λfI z=>z.elim λcO aC=>k _ _ _ _ _ _ aJ aC q
theorem R6{st:St}{tg x y z:aI}{p:Pos}(h:Zb9)(aJ:tg=y)(aC:x=z):st=Y5x [y] z p:=aV aJ (aC▸h)
theorem ahS(e:E)(s:S)(ai:Y5d):ik Z0S:=s7 (R:=λcl r m Q O=>Zd r m λO=>Q r) ai id id λK F ao h=>eP ao λy O q=>jL y.2 (ahA F YAX.2 (Jp K F YAX.1 h))
theorem ahT(t:T)(e:E)(s:S)(ai:Y5d):ik (Yi t e s):=s7 (R:=λcl r m Q O=>Zd r m λv m=>Bf cl t v r m Q) ai id id λK F ao h=>Bk ao λtg x p fy q=>by
 exact wj q λbD bC d4 hJ=>jL fy (R3 K F bD Yxl d4 h λO O z=>RP t K F.1 hJ z)
theorem comp_elim{P:E→Y1}{e:E}(h:RM e=true)(a:∀d5 as t own caps ifs elt,P YPZ)(b:∀s1 a1 t1 s2 a2 cy own caps elt,P (.sX s1 a1 t1 s2 a2 cy own caps elt)):P e:=by
 cases e with
 |comp=>exact a _ _ _ _ _ _ _
 |sX=>exact b _ _ _ _ _ _ _ _ _
 |_=>exact Y0L
theorem ahU(i:Nat)(e:E)(s:S)(ai:Y5d):ik Z2X:=s7 (R:=λcl r m Q O=>Zd r m λv=>YeZ) ai id id λ{g H k env c r mh st Q1 Qr}K F ao=>Bk ao λtg x p fy q=>eP q λn O q=>YVx λc5 fq=>by
 refine DJ q Zi4;have hs:=agT F bD
 (replace hs:=Av fq hs;replace fy:=acZ fq fy)
 subst fy;exact comp_elim (P:=λe=>YLw→YhS.1 r mh (λv=>Q1 Y5g)→_) hJ
  (λd5 as t own caps ifs elt ak h=>(RC d5 as t own caps ifs elt ZXp (qB ifs) ZW9 K F.1 ak h).yO F.1 hs YuU YLd)
  (λs1 a1 t1 s2 a2 cy own caps elt ak h=>(RE s1 a1 t1 s2 a2 cy own caps elt (qB a1) (qB a2) ZW9 K F.1 ak h).yO F.1 hs YuU YLd) i1
theorem ahV(is:YV)(es:Yv)(s:S)(ai:Y5d):ik Z2W:=s7 (R:=λcl r m Q O=>Y2d r m λvs=>Q Yd2) ai id id λK F ao h=>by
 exact Bk ao λtg x p fy q=>R5 q λts vs dn ek fI cO aJ aC q=>DK q λbD bC d4 hJ i1 qv=>jL Z7L (ahD F (DC aJ (gn aC bD)) bC d4 ZWS ((R4 es hJ).trans (eq_of_beq i1).symm) YyT)
theorem ahW(ts:Y8b)(es:Yv)(s:S)(ai:Y5d):ik Yzp:=s7 (R:=λcl r m Q O=>Y2d r m λvs m=>Bg cl ts vs r m Q) ai id id λ{g H k env c r mh st Q1 Qr}K F ao h=>by
 refine Bk ao λtg x p fy q=>R5 q λxs vs dn ek fI cO aJ aC q=>DK q λbD bC d4 hJ i1 qv=>?_;have aO:=R4 es hJ;refine jL Z7L (RU F (gn aJ (eT aC bD)) rfl λA s aG ae aN=>(RT d4 (aa aO (au ZWS Y2)) YyT aG ae aN).mono λx s1 z=>z.elim λm1 z=>z.elim λws z=>ZKg);have yy:=ahv (env:=env) ts bC;exact bd (wpAny_standAt ((RV aG z.1 Y2H z.3 (yy.1.trans ((eq_of_beq i1).trans (cA aO z.4.1.symm))) yy.2 (ahw ts K F.1 bC z.4.2)).mono λO O y=>ZWB))
theorem ahX(l:Bool)(i j:Nat)(e:E)(s:S)(ai:Y5d):ik (.wK l i j e s):=s7 (R:=λcl r m Q O=>Zd r m λv m=>cond l (lst v m λO O vs=>Zbj) (v.eM False λvs=>Zbj)) ai id id λ{g H k env c r mh st Q1 Qr}K F ao h=>by
 refine Bk ao λtg x p fy q=>pg q λbD bC d4=>eP bC λxs O w=>sV w λc6 cT aC w=>xs.2.elim λdn z=>z.elim λek aJ=>dG w λeg d1=>jL fy (R3 K F bD (ahO aJ) d4 h λv m z=>d9 aJ (rk aC (λA yy x aG ae aN bg=>ZKg)));have fin:∀{a b:V},Q1 Y5w m→uN g k env c.ns r m ((assignEach YfJ env).map Y1w) Y1R Q1∧(assignEach YfJ env).length=[a,b].length∧(assignEach YfJ env).findIdx? Yh=none:=λ{a b}w=>by
  exact pB F.1 eg λn yK fq af hs=>pB F.1 d1 λey aAt R7 j5 gB=>aa fq (aa R7 (⟨ahJ F.1 (aV fq eg) (aV R7 d1) w,rfl,rfl⟩))
 refine YL7
 cases l with
 |true=>
  refine jN z λd t vs ev hd z=>Zbr;subst es;have w:=fin w;exact ix ((ev▸bg:aK _ x Y35)) (ahI aG ae aN hd Y3j Y3O w.1)
 |false=>
  refine lJ z λvs ev z=>Zbr;subst es;have w:=fin w;exact RV aG ae aN (aV ev bg:aK _ x Ycd).gj Y3j Y3O w.1
theorem ahY(t:E)(a b s:S)(ahZ:ik a)(Bl:ik b)(ai:Y5d):ik Z0M:=s7 (R:=λcl r m Q Qr=>YBg r m λx m=>cond x (a6 cl a r m Q Qr) (a6 cl b r m Q Qr)) ai id id λK F ao h=>eP ao λy O q=>Y5D λp e=>by
 exact pg q λbD bC d4=>jL e (ahB ((YyG K F.1 bD h).mono λO O z=>sY z (ahZ K F bC) (Bl K F d4)))
theorem ah0(t:E)(b s:S)(Bl:ik b)(ai:Y5d):ik Yzq:=s7 (R:=λcl r m Q Qr=>∃J:YRL,∃n,YFM∧∀n r m,YFM→YBg r m λx m1=>cond x ZAc (Q r m1)) ai id id λK F ao h=>eP ao λy O q=>Y5D λp e=>by
 exact dG q λbD bC=>jL e (h.elim λO h=>h.elim λn h=>ahK h.1 λn r m z=>(YyG K F.1 bD (h.2 n r m z)).mono λO O z=>sY z (Bl K F bC) id)
theorem ah1(d5:gq)(as:Yv)(t:dY)(b s:S)(Bl:ik b)(ai:Y5d):ik Z0V:=s7 (R:=λcl r m Q Qr=>YaL r m λvs ab=>d5.o.ij vs ab λvals need aH=>∃P:Y2j,YeP∧RL P need t d5.o.weak (a6 cl b) (λr m O O=>YKJ) Q Qr) ai id id λ{g H k env c r mh st Q1 Qr}K F ao h=>eP ao λy O q=>Y5D λp e=>by
 refine pg q YIf;have S:=ES (k:=k) (r:=r) (mh:=mh) (tgt:=Y1v) ZXp K F.1 bD (λz=>ER z bC) h;exact jL e (ahN S.2.1 (Z7R λO O m z=>z.imp λO z=>⟨z.1,Z4,λv vs r m w=>⟨ZfN.1,(QU F.1 bC ZfN.2).mono λO w=>Bl K F d4 w⟩⟩))
theorem Bm(s:S):Y5d:=S.rec (motive:=λs=>Y5d) ahP ahQ ahS ahT ahU ahV ahW ahX ahY ah0 ah1 (λO O O h=>Z4D) s
theorem ah2{ps:YH}{xs:Yn}(aE:Yqi)(q:Str)(aF:q∈ps):(YPC q).isNone=false:=by
 induction ps generalizing xs with
 |nil=>exact Y3q
 |cons p ps ai=>cases xs with
  |nil=>exact Ygg
  |cons x xs=>
   refine dU Ad ?_;by_cases e:q=p
   ·rw[Ynv];rfl
   ·refine ZCZ;exact ai YWJ (Y6p ZlD id)
theorem R8{f dZ:YO2}(h:∀a∈l,f a=dZ a):ZTe=l.filterMap dZ:=by
 induction l with
 |nil=>rfl
 |cons a l ai=>(refine aL Dm (aL Dm (dT YGo ?_));exact aa ZE5 rfl)
theorem ah3{ps:YH}{xs:Yn}(aE:Yqi)(bZ:ps.Nodup):ps.filterMap (λn=>(YPC n).map λv=>YEi)=ZXN:=by
 induction ps generalizing xs with
 |nil=>rfl
 |cons p ps ai=>cases xs with
  |nil=>exact Ygg
  |cons x xs=>
   have bZ:=YE7;refine aL Ad (aj Dm (OT (oz _ _ rfl) ?_));exact congrArg ((p,x)::·) ((R8 λq aF=>by exact congrArg _ (oA _ _ λ(e:q=p)=>YCq (aV e aF))).trans (ai YWJ YAV))
abbrev Jq(fd:FuncData)(ps:YH):Y1:=Ak (fd.params.posonlyargs=[]) (ZOS=ps) (fd.params.vararg=none) (fd.params.kwonlyargs=[]) (fd.params.kwarg=none) (fd.defaults=Y7) ps.Nodup
theorem R9{fd:FuncData}{ps:YH}(P:Z4y)(aE:Yqi):bindArgs fd Znh=pure ZXN:=by
 obtain⟨po,i2,cF,Jr,kw,Sa,bZ⟩:=P;obtain⟨n,q,⟨ek,cO,ky,kS,lN,s8,s9⟩,b,sc,gl,cl,d,dI,doc,pm,an,cd,aAu,fR⟩:=fd;dsimp only at po i2 cF Jr kw Sa;subst po;subst i2;subst cF;subst Jr;subst kw;subst Sa;generalize ar:z9 (λx=>x.arg) cO=ps at bZ aE ⊢;unfold bindArgs;dsimp only;refine aa ar ?_;refine(if_neg (λz=>t9 _ (aE▸of_decide_eq_true YTU.1):¬((decide (xs.length > ps.length)&&(none:Option Arg).isNone)=true))).trans ?_;have aC:(ps.filter λn=>(YPC n).isNone)=[]:=List.filter_eq_nil_iff.mpr λq aF=>by refine dS (ah2 aE q aF) ?_;exact h8
 have Bn:∀{α:Y4k}(n:Nat),(G8 n ([]:ZC))=[]:=λn=>List.drop_nil;refine(if_neg ?_).trans ?_
 ·generalize Bo:List.take _ _=Z;obtain rfl:Z=ps:=by refine ZBs;exact(congrArg (λD:Yn=>List.take (ps.length - D.length) ps) Z39).trans N0
  exact λz=>nb (cA (congrArg List.isEmpty aC) (jY _ |>.mp z))
 ·generalize Bo:List.zip Z4L Z4L=Z;obtain rfl:Z=[]:=by refine ZBs;exact(congrArg (List.zip _) Z39).trans NH
  exact congrArg Sem.pure ((congrArg (abM _) (eL ps)).trans (ah3 aE bZ))
variable{cN:Str→Option NameKind}
theorem ah4{bs:YCL}{m:YAG}{n:Str}(h:Yi1):ZHI=m n:=by
 induction bs generalizing m with
 |nil=>rfl
 |cons p bs ai=>
  by_cases e:YMZ
  ·exact ZOy
  ·skip
   refine ZEA;by_cases q:ZJB
   ·refine YgP;exact YDQ
   ·exact ZCp
theorem ah5{bs:YCL}{m:YAG}{n:Str}(h:Yi1):bindC cN bs m n=m n:=by
 induction bs generalizing m with
 |nil=>rfl
 |cons p bs ai=>
  by_cases e:YMZ
  ·exact ZOy
  ·skip
   refine ZEA;by_cases q:ZJB
   ·exact aa ZU rfl
   ·refine YSM;exact YDQ
theorem Sb{bs:YCL}{m cm:YAG}{n:Str}{v:Value}(bZ:(bs.map Yh).Nodup)(h:ZHb=Ym):(cN n=Y2z→ZHI=Ym)∧(cN n≠Y2z→bindC cN bs cm n=Ym):=by
 induction bs generalizing m cm with
 |nil=>exact Y08
 |cons p bs ai=>
  have bZ:=YE7;by_cases e:YMZ
  ·have aO:p.2=v:=c4 Ynw h;have az:Yi1:=we λy q=>YCq (kp ⟨_,nO q,e⟩);refine⟨λk=>?_,λk=>?_⟩
   ·dsimp only [bindL];(refine aj (ah4 az) ?_;refine aa (if_pos ZNl) ?_);exact YxT
   ·dsimp only [bindC];(refine aj (ah5 az) ?_;refine aa (if_neg ZNl) ?_);exact YxT
  ·have ai:=λm cm=>ai (m:=m) (cm:=cm) YAV YiT;exact⟨λk=>by exact(ai _ cm).1 k,λk=>by exact(ai m _).2 k⟩
def ta(n:Nat):Z5W:=n.rec Y9i λO ai as=>as.casesOn (none::ai []) λa as=>Y0l::ai as
theorem ah6{n i:Nat}{v:V}(h:(ta n [])[i]?=Y0e):False:=by
 induction n generalizing i with
 |zero=>exact g7 h xV
 |succ n ai=>cases i with
  |zero=>exact ZDR
  |succ i=>exact YFx
theorem ah7{n i:Nat}{args:Y3}{xs:Yn}{v:V}(r:a9 h xs args)(e:(ta n args)[i]?=Y0e):i<args.length∧Zma:=by
 induction n generalizing i args xs with
 |zero=>exact Yki
 |succ n ai=>cases args with
  |nil=>exact(ah6 (n:=n+1) e).elim
  |cons a as=>
   refine r.un λy bf aJ gA yU=>?_
   cases i with
   |zero=>exact⟨Y3I,y,YgT,cu Y4I▸gA⟩
   |succ i=>exact⟨Nat.succ_lt_succ ZE4.1,aa aJ (ZE4.2)⟩
theorem ah8{ps:YH}{xs:Yn}{i:Nat}{n:Str}(bZ:ps.Nodup)(ar:YWg=Y5j)(aq:Y3y):YPC n=YQ:=by
 induction ps generalizing xs i with
 |nil=>exact g7 ar xV
 |cons p ps ai=>cases xs with
  |nil=>exact g7 aq xV
  |cons y bf=>
   refine aX Ad ?_
   cases i with
   |zero=>exact(oz _ _ (cu ar).symm).trans aq
   |succ i=>
    have bZ:=YE7;refine aj (oA _ _ λ(e:n=p)=>YCq (aV e (et (i:=i) ar))) ?_;exact ai YAV ar aq
theorem cellsFrom_some{L:Nat}{acc:Y7E}{n:Str}(h:(acc.lookup n).isSome=true∨(n,v7)∈names):((cellsFrom L names acc).lookup n).isSome=true:=by
 induction names generalizing L acc with
 |nil=>exact h.elim id Yru
 |cons p r ai=>
  by_cases q:YyH
  ·refine dU ZU ?_;refine ai ?_;by_cases e:YMZ
   ·exact YY (by rw[Ynv];rfl)
   ·exact h.imp (λh=>by refine ZCZ;exact h) λh=>YBk (λh=>absurd ZK9 e) id
  ·refine dU ZN ?_;exact ai (h.imp id λh=>YBk (λh=>absurd (by refine Au h ?_;rfl) q) id)
theorem ah9{L M:Nat}{acc:Y7E}(h:∀p∈acc,M<p.2)(aE:M<L):∀p∈cellsFrom L names acc,M<p.2:=by
 induction names generalizing L acc with
 |nil=>exact h
 |cons p r ai=>
  dsimp only [cellsFrom];by_cases q:YyH
  ·refine YgP;exact ai (λx aq=>YJA (λz=>aa z aE) (h x)) (p9 aE)
  ·refine YSM;exact ai h aE
def aia(d:Data):Z65:=Data.casesOn (motive:=λd=>Z65) d none ZP Yz Yz YX Yz ZP (λfd=>some ⟨fd,rfl⟩) ZP ZP none
def aib(d:FuncBody):Z63:=FuncBody.casesOn (motive:=λd=>Z63) d (λb=>some ⟨b,rfl⟩) ZP
def Sd(fd:FuncData)(ps:YH):Bool:=fd.params.posonlyargs.isEmpty&&((ZOS==ps)&&(fd.params.vararg.isNone&&(fd.params.kwonlyargs.isEmpty&&(fd.params.kwarg.isNone&&(fd.defaults==l6)))))
def Se(fd:FuncData)(ps:YH):Bool:=(ps.all λp=>IZ ⟨fd.scope.names,[]⟩ p)&&((fd.scope.names.all λx=>!(x.2==uc))&&(!fd.scope.isCoroutine&&(!fd.scope.isGenerator&&(fd.scope.kind==Y5K))))
def aic(K:Frag)(fd:FuncData):Bool:=(fd.globals==mainGlobals)&&((fd.builtins==builtinsNs)&&(codeIn K fd.code fd.qualname&&fd.closure.isEmpty))
def mZ(K:Frag)(f:Nat)(ns:YH)(np:Nat)(p:YSp):Bool:=(K.lookup f).elim false λo=>(aia o.data).elim false λfd=>(aib fd.1.body).elim false λb=>
 decide ns.Nodup&&(Sd fd.1 YW8&&(Se fd.1 YW8&&(aic K fd.1&&p ⟨fd.1.scope.names,ns⟩ b.1)))
def yW(K:Frag)(H:ih)(f:Nat)(ns:YH)(np:Nat)(s:S):Bool:=mZ K f ns np (rz s H)
theorem aid{fd:FuncData}{ps:YH}(h:Sd fd ps=true)(bZ:ps.Nodup):Z4y:=by
 exact DK h λbD bC d4 hJ i1 qv=>⟨sA bD,YGb,An d4,sA hJ,An i1,ZND,bZ⟩
theorem dd.deeper(aG:YTt)(env:Env):ZLC:=by
 have ak:=aG.1;have av:=aG.2;exact⟨by refine gz (depth_deeper ..) ?_;exact yp ak Y2,by refine gz (units_deeper ..) ?_;exact yp av Y2,Y2l⟩
theorem aie{fd:FuncData}{L f:Nat}(h:Se fd (ns.take 0)=true):ZSA:=by
 refine DJ h λbD bC d4 hJ i1=>⟨⟨λn dI e=>YPg,λn e=>e.elim Y5F Y5F⟩,Zf,eq_of_beq i1⟩
 ·exact(some_of (cellsFrom_some (L:=L+1) (acc:=[]) (YJ YHR))).imp λa q=>⟨q,λO=>ah9 (names:=fd.scope.names) (L:=L+1) (M:=L) (acc:=[]) YO7 YDo _ (nO q)⟩
 ·have:=ju bC _ YHR;exact YnU
abbrev Js(g:G)(A:Around)(k f:Nat)(ns:YH)(args:Y3)(mh:ag)(s:Shared)(env:Env)(hC:bP)(body:Ze)(s1:Shared):Y1:=yd (∃o fd,YUf=YB∧ZW1∧ZOR∧hC=ZnN) (hC.ns=ns) (j6 env hC) ZLC Yfd (de g env ns YHw mh s1) Yes (∀b,YD2→Y6Z) YGa
variable{np:Nat}
theorem EZ{f:Nat}{p:YSp}(ao:ZUb)(K:ZG)(hlen:YSX)(hh:YW7){vs:Yn}{R:Y4A}(aG:YTt)(ae:YU)(bz:YS4)(h:∀env hC body s1,ZWe→Z4z→wpAny Yu Y5L YD8 (λf s'=>R (.ok (YS (match f with | YQC=>v | _=>Y7))) s')
   (λe s'=>wpAny Yu Y5L (leaving env e) (λO Bp=>R Z0R Bp) (λbk Bp=>R (Y6y bk) Bp) s') s1):codeAny Yu A YbQ R s:=
 eP ao λo aR ao=>eP ao λfd O ao=>eP ao λb O ao=>by
  obtain⟨fd,hd⟩:=fd;obtain⟨b,ah⟩:=b;refine DJ ao Zi4;have dC:=cL d4;have du:=cL dC.2;have gs:=cL du.2;have jl:=cL gs.2;have aJ:=cL hJ;have aC:=cL aJ.2;have c1:=cL YAN;have bZ:ns.Nodup:=Ynr;have Jt:(ns.take np).Nodup:=axT (List.take_sublist np ns) bZ;have wM:Yy8=np:=(List.length_take).trans (Hg hh);have E0:vs.length=Yy8:=(bz.length.trans hlen).trans wM.symm;have P:=aid bC Jt;have aq:s.heap.get? f=YB:=Y5U _ _ (K.1.1 _ _ aR);have F:∀L,ZSA:=λL=>aie (lF ⟨rfl,dC.2⟩);have Bq:∀L n,(callEnvC fd L f).kindOf n=YLl:=λL n=>rfl;refine K.1.2.elim λp T=>T.elim λloose T=>T.elim λrn T=>T.elim λpq T=>?_;refine codeAny_call_cells (fd:=fd) (body:=b) (binds:=Yan vs) ZOE aq hd (T.nolimit.keeps Zhr) (codeRec_of (Y4g Zhr) c1.1) ah (R9 P E0) (sA c1.2)
   YOK (λhY X=>?_) (Y2B gs.1) (Y2B jl.1) ZNA
  ·exact(gG (ju dC.1 x.1 (List.of_mem_zip aq).1)).imp eq_of_beq λz=>⟨Yjy,cellsFrom_some (YJ (nO Yjy))⟩
  ·have wt:((Yan vs).map Yh).Nodup:=by exact aL (List.map_fst_zip (dH E0.symm)) Jt
   refine X.done.elim λh' z=>z.elim λtk z=>?_;have es:=z.1;have b5:Y9E:=z.2;subst es;have Br:ZAW:=ae.grow (s':=Y0w) b5 rfl rfl;have jA:Step cX s mh Y0w mh:=Step.grow (s':=Y0w) b5;have qq:Zlf:=Zhm;have mU:Zle:=Zhn
   have oH:∀n c,(callEnvC fd s.heap.objs.size f).cells.lookup n=Y0M→s.heap.objs.size<c:=λn c e=>X.above n c YHR;have H5:a9 h' vs args:=bz.keep jA.4;have Ju:∀{i:Nat}{n:Str}{v:V},Y6Y→YHw[i]?=Y0e→∃x,(Yan vs).lookup n=YQ∧YSA∧n∈YW8:=λ{i n v}ak av=>by
    have q:=ah7 H5 av;have af:YW8[i]?=Y5j:=(N1 (hlen▸q.1)).trans ak;exact YMr λx ck=>⟨ah8 Jt af ck.1,YGN,et af⟩
   have aN:de g ZJQ ns YHw mh Y0w:=by
    refine⟨ZNA,eq_of_beq aJ.1,eq_of_beq YAM,bZ,⟨_,X.toInCall.ns,Zj2⟩,ZUX,Zj2,λn c e=>⟨mU _ (h9 (oH n c e)),_,X.cell n c e⟩,λO O O e bk=>name_of_addr X.apart YHR (nO bk)⟩
    ·exact(Ju ak av).imp λx q=>⟨(Sb (cm:=ZP) wt q.1).1 aP,YG⟩
    ·refine(Ju ak av).elim Zkv;have nl:(callEnvC fd s.heap.objs.size f).kindOf n≠Y2z:=aP.elim Zl9 Zl9;have aR:YLl=Y2y:=(gG (ju dC.1 n Yq)).elim (λz=>absurd Yjy nl) eq_of_beq;refine(some_of (cellsFrom_some (L:=Y1J) (acc:=[]) (YJ (nO aR)))).elim Yri;have aC:=(Sb (m:=ZP) (cm:=ZP) wt q.1).2 nl;exact⟨c,x,ao,aV aC (X.cell n c ao),YG⟩
   have fresh:∀b,envX ZJQ b→Y6Z:=λb q=>q.elim (λe=>(e:YSj).symm▸Y1f) λq=>q.elim λn q=>qq _ (h9 (oH n b YG));exact h _ _ _ _ i1 ⟨⟨o,fd,aR,hd,ah,rfl⟩,rfl,F s.heap.objs.size,aG.deeper _,Br,aN,jA,fresh,rfl⟩
theorem gJ{f:Nat}{st:S}(ao:ZfA)(K:ZG)(hlen:YSX)(hh:YW7)(h:a6 ZH st YHw mh ZS Q):ZCB:=λA s vs aG ae bz=>
 EZ ao K hlen hh aG ae bz λenv hC body s1 ar I=>by
  refine Yg;intro aif aih aii;refine wpAny_mono (E:=lH) (Bm st K I.3 ar h Y5L _ I.4 I.5 ZCK) (λeA s' z=>z.elim λab z=>?_) Y0E;have uO:YRf:=Step.unfresh (wr:=Y1V) (Yua (z.2.weaken YO9)) I.8;have q:=z.3
  cases eA with
  |next=>exact q.elim λbI q=>⟨ab,z.1,uO,_,aK.O3,q.2⟩
  |ret v=>exact⟨ab,z.1,uO,q⟩
  |brk=>exact q.elim
  |cont=>exact q.elim
theorem j7{o:Y7G}{f:YO2}{b:β}{P:Y1}(h:ZW3)(k:∀a,YMh→f a=Y6e→P):P:=by cases o with
 |none=>exact Y08
 |some a=>exact YH5
def pE(o:Y7G)(p:YIT)(f:Zg7):Y68:=o.elim none λa=>cond (p a) (some (f a)) none
theorem rB{b:Bool}{x:YeK}{y:β}{P:Y1}(h:cond b x none=Y06)(k:Y6G→Zek):P:=by cases b with
 |false=>exact Y08
 |true=>exact YmQ
theorem aij{b:Bool}{x:YeK}{y:β}{P:Y1}(h:cond b none x=Y06)(k:YhQ→Zek):P:=by cases b with
 |true=>exact Y08
 |false=>exact YmQ
theorem Jv{f:YO2}{y:β}{P:Y1}(h:l1 l none f=Y06)(k:∀a,l=[a]→f a=Y06→P):P:=by cases l with
 |nil=>exact Y08
 |cons a l=>cases l with
  |nil=>exact YH5
  |cons b l=>exact Y08
theorem j8{o:Y7G}{p:YIT}{f:Zg7}{es:Ye}{P:Y1}(h:pE o p f=Y2K)(k:∀a,p a=true→f a=es→P):P:=j7 h λa O h=>rB h λq h=>k a q Y4v
def aik(v:V):Option Const:=V.casesOn v Zah (λb=>some Y1x) (λi=>some Y3T) (λn=>(tab n).map Y4) ZP ZP ZP
def Sf(rC:Const)(v:V):Bool:=decide (aik v=some rC)
variable{ax:Nat}
theorem ail{c:bP}{rC:Const}{v:V}{p:Pos}{e:aI}(he:e=Y4b rC ax p)(ao:Sf rC v=true)(h:Y8e):YK5:=λA s aG ae aN=>jL he (by
 have e:=Ynq
 cases v with
 |none=>exact aV (Y4I:Const.none=rC) (wpAny_Constant_none (qj ae aK.O3 h))
 |bool b=>exact(Y4I:Const.bool b=rC)▸wpAny_Constant_bool (qj ae YFr h)
 |int i=>exact(Y4I:Const.int i=rC)▸wpAny_Constant_int (me _ ae Y4G h)
 |str n=>exact(Al e).elim λx z=>aV z.2 (wpAny_Constant_str (me _ ae (aK.ofStr z.1 _) h))
 |_=>exact Y4u)
def Bs(v:V):dj:=lL ⟨λO O e=>pE (Ei e) (λx=>Sf x.1 v) Y9i,ZgS⟩ Ziu
 λK L hm h=>j8 hm λx ao he=>Y2c λax z=>z.elim λp z=>ail z ao ZI5
theorem Sg{c:bP}{i:Int}{p:Pos}(h:Q Ybb mh):Ev g k env c.ns r mh (eval Z09 env) Q:=λA s aG ae aN=>
 wpAny_UnaryOp (wpAny_Constant_int (PyProof.Rows.neg_int ⟨mh,(ae.toks _).toks _,(Step.toks YBI).trans Yev,_,Y4G,h⟩))
def Sh(c:bP)(n:Str):Bool:=(Y3H==Y27)&&! ZVQ
theorem aim{c:bP}{n:Str}(h:Sh c n=true):YGF∧Y5v:=⟨eq_of_beq Y1q.1,Yxk⟩
def Jw(o:Yp)(v:V):Bool:=o.elim false λx=>b8 x v
theorem Si{o:Yp}{v:V}(h:Jw o v=true):o=Ym:=eP h λa e q=>e.trans (congrArg some YWM)
def wN(v:V):dj:=lL ⟨λH c e=>pE (uC e) (λx=>Sh c x.1&&Jw (H.gl.lookup x.1) v) Y9i,ZgS⟩ Yry
 λK L hm h=>j8 hm λx ao he=>Y2c λp z=>by
  refine YjC;have q:=aim bD;refine aT z ?_;replace h:=Y7f;exact af7 K L q.1 q.2 (Si bC) h
def cU(f:Nat):dj:=lL ⟨λH c e=>pE Zf7 (λx=>Jw (H.gl.lookup Y2b) Y2h) λx=>Y1K,λcl vs m Q=>cl f vs m Q⟩ Zis
 λK L hm h=>j8 hm λx ao he=>YIF λp z=>z.elim λpos z=>by
  exact aT z (af8 K L YXz YY1 (Si ao) YIG ZDC)
def b2(C i:Nat):dj:=lL ⟨λH O e=>pE (Ie e) (λx=>(YuX false λl=>Y54==some YEF)&&oC Y2b) λx=>[Y2b],λO vs m Q=>one vs False λa=>ZAP⟩ (λhm=>j8 hm λx O O=>aa x.2 rfl)
 λ{g H k env c r mh e es Q}K L hm h=>j8 hm λx ao he=>by
  exact dG ao λbD bC=>(eP bD λl aE af=>(aT x.2 (aga K aE YUE bC ZI5)))
def E1(e:aI):Option {x:aI×Z88 // ∃apos pos,e=Y0Q (Y2f x.1 Y2L apos) ZJ [] pos∧oC x.1=true∧Y8F∧noStar ZJ=true∧x.2.2.length<20}:=
 Yuq none λy=>(Ie Y1v).elim none λa=>if h:And (oC a.1.1=true) (And ((a.1.2.2.endLine==Zj.2.line)=true) (And (noStar Y5C=true) (Zj.1.length<20)))then
  some ⟨(a.1.1,a.1.2.1,Y5C),a.1.2.2,Y4T,Yqr (congrArg (λf=>ab4 f Y5C [] Y4T) a.2),⟨h.1,YGq,Y9D.1,Y9D.2⟩⟩else none
theorem call_plain{e a:aI}{b:Ye}{p:Pos}(h:ZM4):YBA:=YSQ
def Jx(H:ih)(C:Nat)(n:Str)(f:Nat):Bool:=H.mt.any λx=>x.1==C&&(Y2L==n&&ZJ==f)
theorem ain{f:Nat}{n:Str}(h:Jx H C n f=true):YOT:=(OF h).elim λx q=>by
 refine pg q.2 YIf;have e:x=YZo:=iF Y97 (iF YGb YLd);exact ZCM
theorem E2{e x:aI}{es:Ye}{f:Str→Bool}{P:Y1}(hm:(YZp none λy=>cond (f Y5C) (some (Y1v,Y4T)) none)=Zaf)(k:∀nm apos pos,f nm=true→e=Y0Q (Y2f x nm apos) es [] pos→oC x=true→Y8F→Y5f→YUI→P):P:=
 j7 hm λy O hm=>rB hm λq hm=>Y5D λapos z=>z.elim λpos z=>by
  have aC:=gQ Yiw;rw[YAM,YAN]at z;exact k _ apos pos q z.1 Z4 YYF YYG.1 YYG.2
def c3(C f:Nat):kR:=⟨⟨λH O e=>YZp none λx=>cond (Jx H C YEF f) Zag none,λv m=>inst v C m λO O O=>True,λcl v vs m Q=>cl f Y0O m Q⟩,
 λ{g H k env c r mh e x es Q}K L hm h=>E2 hm λnm apos pos q e3 ak av aP da=>aT e3 (af9 K (ain q) ak av aP da (h.mono λO O w=>IP w.1 λO t vs bx ar O=>bx▸⟨t,vs,ar,bx▸w.2⟩)),
 λ{H c e y}hm=>E2 (x:=y.1) (es:=y.2) (f:=λnm=>Jx H C nm f) hm ZgF⟩
theorem E3{c:bP}{x y:aI}{P:V→Yj}(h:gH g k env c.ns r Y2F mh λvs m=>two vs False λa b=>P a b m):Ev g k env c.ns r mh YAm λa m1=>Ev g k env c.ns r m1 YkB λb aH=>P a b aH:=h
abbrev yX:=V→V→YCh
abbrev Sj(op:Operator)(P:yX):Y1:=∀{g:G}{A:Around}{s:Shared}{mh:ag}{cF dF:Value}{a b:V}{Q:Yj},YU→YSB→YSC→Z6T→fW g A cX s mh (binaryOp op cF dF) Zi
theorem aio{c:bP}{op:Operator}{P:yX}(ok:Sj op P){x y:aI}{p:Pos}(h:ZP1):Ev g k env c.ns r mh (eval (YbJ x op y p) env) Q:=λA s aG ae aN=>
 wpAny_BinOp (YOV λcF s1 z=>z.elim λm1 z=>Y0g λa q=>YJO λdF s2 y=>y.elim λaH y=>YIJ λb p=>
  nE YEI (ok y.1 YHc p.1 p.2))
def uP(op:Operator)(P:yX)(ok:Sj op P):dj:=lL ⟨λO O e=>pE (aeE e) (λx=>decide (YEF=op)) λx=>[Y2b,YXy],Zgw⟩ Zit
 λ{g H k env c r mh e es Q}K L hm h=>j8 hm λx ao he=>Y2c λp z=>by
  replace h:=Y7f;exact aT z (yk Ynq (aio ok h))
def rD(a b:V)(f:Z4j):Y1:=a.mb False λx=>b.mb False λy=>f x y
theorem Jy{v:V}{f:YR1}{P:Y1}(h:Zcw)(k:∀n,Zd4):P:=by cases v with | int n=>exact YmP | _=>exact h.elim
theorem tb{a b:V}{f:Z4j}{P:Y1}(cG:Yfv)(cP:Yfw)(z:rD a b f)(k:∀x y t u,ZJ7→ZKl→f x y→P):P:=
 Jy z λx bx z=>Jy z λy cM z=>(Yi2:ZBG).elim λt aJ=>(YTV:ZBH).elim λu aC=>k x y t u aJ aC z
def oI:dj:=uP .Add (λa b m Q=>rD a b λx y=>Z6w) λae cG cP h=>tb cG cP h λx y t u aJ aC q=>aJ▸aC▸add_int ZUe
def nR:dj:=uP .Sub (λa b m Q=>rD a b λx y=>Z6v) λae cG cP h=>tb cG cP h λx y t u aJ aC q=>aJ▸aC▸sub_int ZUe
def aip:dj:=uP YPS (λa b m Q=>rD a b λx y=>0≤y∧y≤1000∧Q (YI (x*y)) m) λae cG cP h=>tb cG cP h λx y t u aJ aC q=>aJ▸aC▸mul_int (me _ ae Y4G Yq) (IntMulOk.of_right (intBits_le_64 (Int.lt_of_lt_of_le YC q.1) (Hb YG YC)))
def oMod:dj:=uP .Mod (λa b m Q=>rD a b λx y=>ux (y≠0) (YI (x.fmod y)) m Q) λae cG cP h=>tb cG cP h λx y t u aJ aC q=>aJ▸aC▸mod_int' YDu Yn8
def aiq:dj:=uP .FloorDiv (λa b m Q=>rD a b λx y=>y=3∧Q (YI (x.fdiv y)) m) λae cG cP h=>tb cG cP h λx y t u aJ aC q=>by
 have aAv:Nat.log2 3=1:=ZL
 exact aT aJ (aX aC (gS q.1 (floordiv_int YC (me _ ae Y4G (aV q.1 q.2)) (YY (rfl)))))
def rE:dj:=uP .Add (λa b m Q=>a.eM False λx=>b.eM False λy=>D5 Zee (hv YqR=true) (YD YqR) m Q) λae cG cP h=>lJ h λx bx h=>lJ h λy cM h=>adL ae Yi2 YTV YLr YlI.1 YlI.2
def Bt:dj:=uP .Add (λa b m Q=>lst a m λO O x=>lst b m λO O y=>Zee∧alloc m (Y5 YqR) Q) λae cG cP h=>jN h λp t x bx aD h=>jN h λq u y cM ah h=>
 YaB▸YBh▸adR ae aD ah h.1 h.2
def Jz:dj:=uP YPS (λa b m Q=>lst a m λO O x=>one x False λv=>b.iU False λn=>Y2X∧alloc m (Y5 Yot) Q) λae cG cP h=>jN h λp t x bx aD h=>rr h λv ex h=>Bj h λn cM h=>by
 subst cM;exact cP.elim λtk aC=>aT YiX (aX aC (adU ae (aV ex aD) h.1 h.2))
abbrev E4:=V→V→ag→YFF→Y1
abbrev JA(op:CmpOp)(P:E4):Y1:=∀{g:G}{H:ih}{k:Nat}{A:Around}{s:Shared}{mh:ag}{cF dF:Value}{a b:V}{K:YFF}{R:Y8},ZG→Z5→YU→YSB→YSC→P a b mh K→(∀x,K x→sH R s x)→WP g A (compareOp op cF dF) R s
def JB(op:CmpOp)(e:aI):Y68:=(PF e).elim none λy=>cond (decide (Y5C=[op])) (l1 Y4T none λr=>cond ZHB none (some [Y1v,r])) none
theorem air{e l op r:_}{ops:Z5T}{rs:Ye}{p:Pos}(z:e=Expr.Compare l ops rs p)(q:ops=[op])(fB:rs=[r]):ZM5:=aV q (fB▸z)
theorem JC{op:CmpOp}{e:aI}{es:Ye}{P:Y1}(h:JB op e=Y2K)(k:∀l r p,ZM5→ZHB=false→es=[l,r]→P):P:=j7 h λy O h=>Y5D λp z=>rB h λq h=>Jv h λr fB h=>aij h λck h=>k Y1v r p (air z YHU fB) ck Y5s
theorem ais{c:bP}{op:CmpOp}{P:E4}(ok:YdW){x y:aI}{p:Pos}(K:ZG)(hm:ZHC)(h:gH g k env c.ns r Y2F mh λvs m=>Zbi):Ev g k env c.ns r mh (eval Yzu env) Q:=λA s aG ae aN=>
 wpAny_Compare1 (YOV λcF s1 z=>z.elim λm1 z=>Y0g λa q=>YJO λdF s2 y=>y.elim λaH y=>YIJ λb p=>
  ok K aG y.1 YHc p.1 p.2 λx aq tk=>⟨aH,Zf3,Yzd,_,aK.ofBool x,aq⟩) hm
theorem ait{c:bP}{op:CmpOp}{P:E4}(ok:YdW){x y:aI}{p:Pos}{w:Y5P}{Q:Y0i}(K:ZG)(hm:ZHC)(h:gH g k env c.ns r Y2F mh λvs m=>two vs False λa b=>P a b m λz=>Q z m):kP g k env c.ns r mh (isTrue Yzu env w) Q:=λA s aG ae aN=>
 wpAny_isTrue_Compare1 (YOV λcF s1 z=>z.elim λm1 z=>Y0g λa q=>YJO λdF s2 y=>y.elim λaH y=>YIJ λb p=>
  ok K aG y.1 YHc p.1 p.2 λO aq tk=>wpAny_truthy_bool ⟨aH,Zf3,Yzd,aq⟩) hm
def mn(op:CmpOp)(P:E4)(ok:YdW):dj:=⟨⟨λO O e=>JB op e,λO vs m Q=>Zbi⟩,
 λ{g H k env c r mh e es Q}K L hm h=>JC hm λl uQ p e3 ah he=>by
  refine YgL;exact ais ok K ah ZI7,
 λ{g H k env c r mh e es Q}K L hm h=>JC hm λl uQ p e3 ah he=>by
  exact dT e3 (ait ok K ah ZI7)⟩
def JD(a b:V):Bool:=(a.isInt&&b.isInt)||((a.isStr&&b.isStr)||ZAN)
theorem str_beq(x y:Str):YY5=decide (x=y):=sy (beq_iff_eq.trans decide_eq_true_iff.symm)
theorem Sk{a b:V}{P:Y1}(cG:Yfv)(cP:Yfw)(z:YdX)(dC:∀x y t u,ZJ7→ZKl→YbC)(du:∀x y t u,cF=Z2I→dF=Y4 y u→YbC)(gs:∀x y,cF=YJY→dF=YPW→YbC):P:=
 YxE (λz=>have z:=YTU;(V.jM z.1).elim λx e=>(V.jM z.2).elim λy bk=>(e▸cG:ZBG).elim λt aJ=>(Yhv:ZBH).elim λu aC=>dC x y t u aJ aC ZI3) λz=>
 YxE (λz=>have z:=YTU;(V.kr z.1).elim λn e=>(V.kr z.2).elim λm bk=>(e▸cG:aK h cF ZM).elim λt q=>q.elim λx q=>(Yhv:aK h dF Z2F).elim λu bS=>bS.elim λy bS=>du x y t u q.2 Y1p (dS e (bW bk (aj (str_beq ..) (HR q.1 Y3F))))) λz=>
 have z:=YTU;(V.Ee z.1).elim λx e=>(V.Ee z.2).elim λy bk=>gs x y (aV e cG:aK h cF YJY) (Yhv:aK h dF YPW) ZI3
def oEq:dj:=mn .Eq (λa b O Q=>uy YdX Y1S Q) λ{g H k A s mh cF dF a b K R}K aG ae cG cP h f=>have h:=h.un;Sk cG cP h.1
 (λO O O O aJ aC q=>aJ▸aC▸eq_int YoN) (λO O O O aJ aC q=>aJ▸aC▸eq_str YoN) (λO O aJ aC q=>aJ▸aC▸eq_bool (aV q.symm ZNo))
def wO:dj:=mn YJW (λa b O Q=>uy YdX (! Y1S) Q) λ{g H k A s mh cF dF a b K R}K aG ae cG cP h f=>have h:=h.un;Sk cG cP h.1
 (λx y O O aJ aC q=>aJ▸aC▸ne_int Yaw) (λx y O O aJ aC q=>aJ▸aC▸ne_str Yaw) (λx y aJ aC q=>aJ▸aC▸ne_bool Yaw)
def aiu:dj:=mn YJW (λa b O Q=>a.eM False λx=>b.eM False λy=>Zef∧YzY∧Q YtQ) λK aG ae cG cP h f=>lJ h λx bx h=>lJ h λy cM h=>aen aG (aV bx cG) YTV h.1 YGq (f _ Y9D)
def lists(a b:V)(m:ag)(Q:Y3→Y7F):Y1:=lst a m λO O x=>lst b m λO O y=>(Zef→YzY)∧Q x y
def wQ:dj:=mn YJW (λa b m Q=>lists a b m λx y=>Q YtQ) λK aG ae cG cP h f=>jN h λp t x bx aD h=>jN h λq u y cM ah h=>YaB▸YBh▸aem ae aG aD ah h.1 YkE
def Sl:dj:=mn .Eq (λa b m Q=>lists a b m λx y=>Q (j0 x y)) λK aG ae cG cP h f=>jN h λp t x bx aD h=>jN h λq u y cM ah h=>YaB▸YBh▸ael ae aG aD ah h.1 YkE
def Sm:dj:=mn YPT (λa b O Q=>b.eM False λy=>Yqs∧Q (! Yqt)) λK aG ae cG cP h f=>lJ h λy cM h=>H8 (aeo aG cG (aV cM cP) h.1 (H9 YkE))
def JE:dj:=mn .In (λa b m Q=>lst b m λO O y=>uy (Yqs) (Yqt) Q) λK aG ae cG cP h f=>jN h λp t y cM ah h=>YBh▸PA ae aG cG ah YLr YUR
def Sn:dj:=mn YPT (λa b m Q=>lst b m λO O y=>uy (Yqs) (! Yqt) Q) λK aG ae cG cP h f=>jN h λp t y cM ah h=>YBh▸H8 (PA ae aG cG ah YLr Z4V)
def JF:dj:=mn .In (λa b m Q=>lb b m λO O c es=>uy ZPF Yw2 Q) λK aG ae cG cP h f=>s6 h λp t c es cM ah h=>YBh▸PB YCJ ae aG cG ah YLr YUR
def aiv:dj:=mn YPT (λa b m Q=>lb b m λO O c es=>uy ZPF (! Yw2) Q) λK aG ae cG cP h f=>s6 h λp t c es cM ah h=>YBh▸H8 (PB YCJ ae aG cG ah YLr Z4V)
def JG(a b:V)(Q:YFF):Y1:=b=Y7∧a.casesOn (Q true) Y3z Yrb Y3z Yrb Y3z Yrb
theorem So{a b:V}{Q:YFF}(cG:Yfv)(cP:Yfw)(z:Z4v):plainIs cF dF=true∧Q (cF==dF):=by
 have aC:dF=Y7:=(z.1▸cP:aK h dF Y7)
 have z:=z.2;subst aC
 cases a with
 |none=>rw[(cG:cF=Y7)];exact YZO
 |int i=>exact cG.elim λt e=>by rw[e];exact YZO
 |ref p=>rw[(cG:YiW)];exact YZO
 |tup vs=>exact cG.gj.elim λp q=>q.elim λxs q=>by rw[q.1];exact YZO
 |_=>exact z.elim
def Bu:dj:=mn .Is (λa b O Q=>Z4v) λ{g H k A s mh cF dF a b K R}K aG ae cG cP h f=>have z:=So cG cP h;wpAny_is_plain z.1 ZNp
def aiw:dj:=mn .IsNot (λa b O Q=>JG a b λr=>Q (!r)) λ{g H k A s mh cF dF a b K R}K aG ae cG cP h f=>have z:=So (Q:=λO=>_) cG cP h;wpAny_isNot_plain z.1 ZNp
def oLt:dj:=mn .Lt (λa b O Q=>rD a b λx y=>Q (decide (x<y))) λ{g H k A s mh cF dF a b K R}K aG ae cG cP h f=>tb cG cP h λx y t u aJ aC q=>aJ▸aC▸lt_int YUS
def oLe:dj:=mn .LtE (λa b O Q=>rD a b λx y=>Q (decide (x≤y))) λ{g H k A s mh cF dF a b K R}K aG ae cG cP h f=>tb cG cP h λx y t u aJ aC q=>aJ▸aC▸le_int YUS
def oJ:dj:=mn .Gt (λa b O Q=>rD a b λx y=>Q (decide (y<x))) λ{g H k A s mh cF dF a b K R}K aG ae cG cP h f=>tb cG cP h λx y t u aJ aC q=>aJ▸aC▸gt_int YUS
def aix:dj:=mn .GtE (λa b O Q=>rD a b λx y=>Q (decide (y≤x))) λ{g H k A s mh cF dF a b K R}K aG ae cG cP h f=>tb cG cP h λx y t u aJ aC q=>aJ▸aC▸ge_int YUS
def JH(e:aI):Bool:=PySem.Expr.casesOn e Y0o Y0o Y19 Y0o Y19 Y19 Y0o Y0o Y19 Y19 YrL Y19 Y0U Y0U Y0U Y19 Y19 Y19 Y0U Y0o Y0o Y0o Y0U Y0U Y0U Y0o Y1Y
theorem aiy(e:aI):JH e=true→∀o i:Value,subscripted e false o i=operate [o,i] (getItem o i):=p7 e Y1i Y1i Y88 Y1i Y88 Y88 Y1i Y1i Y88 Y88 (λO O O O O O O O=>rfl) Y88 ZA ZA ZA Y88 Y88 Y88 ZA Y1i Y1i Y1i ZA ZA ZA Y1i (λO O O O h O O=>Y0L)
abbrev JI(e:aI):=Option {x:YRP×YRP // ∃p,e=YEt x.1 x.2 none p}
def Sp(e:aI):JI e:=p7 (motive_1:=JI) e YX YX Yl YX Yl Yl YX YX Yl Yl Y4U Yl Yz Yz Yz Yl Yl Yl Yz YX YX YX Yz Yz Yz YX (λa b c p=>Option.casesOn (motive:=λc=>JI (YEt a b c p)) c (some ⟨YIy,p,rfl⟩) ZP)
abbrev Sq(P:yX):Y1:=∀{g:G}{k:Nat}{A:Around}{s:Shared}{mh:ag}{cF dF:Value}{a b:V}{Q:Yj},Z5→YU→YSB→YSC→Z6T→(∃T id,s.TypeIs cF T∧typeLookup Y67 "__getitem__"=pure (some YbP))∧fW g A cX s mh (getItem cF dF) Zi
theorem aiz{c:bP}{P:yX}(ok:Sq P){x y:aI}{p:Pos}(hs:JH y=true)(h:ZP1):Ev g k env c.ns r mh (eval (Y6v x y p) env) Q:=λA s aG ae aN=>
 Subscript_ (YOV λcF s1 z=>z.elim λm1 z=>Y0g λa q=>YJO λdF s2 y=>y.elim λaH y=>YIJ λb p=>by
  have w:=ok aG y.1 YHc p.1 p.2;exact w.1.elim λO dD=>dD.elim λO dD=>tail_any dD.1 dD.2 (nE YEI w.2) (aiy _ hs _ _))
def E5(P:yX)(ok:Sq P):dj:=lL ⟨λO O e=>pE (AL e) (λx=>JH Y1K) λx=>[Y2b,Y1K],Zgw⟩ Yry
 λ{g H k env c r mh e es Q}K L hm h=>j8 hm λx ao he=>Y2c λp z=>by
  replace h:=Y7f;exact aT z (aiz ok ao h)
def fi:dj:=E5 (λa b m Q=>a.eM False λvs=>b.iU False λn=>wu Y2a YqE m Q) λaG ae cG cP h=>lJ h λvs bx h=>Bj h λn cM h=>wu.casesOn h λak v pF Bv=>by
 subst bx;subst cM;exact⟨cG.gj.elim λp q=>q.elim λxs q=>⟨"tuple",_,aV YHd YM6,ayh.lookup⟩,cP.elim λO e=>aX e (adV ae cG ak pF Bv)⟩
inductive JJ(m:ag)(a n:Nat)(Q:Yj):Y1
 |mk (t:Nat) (vs:Y3) (h:YVk) (l:Y2a) (v:V) (aO:YqE=Ym) (q:Y39):JJ m a n Q
inductive JK(m:ag)(a:Nat)(b:V)(Q:Yj):Y1
 |mk (t c:Nat) (es:dm) (h:Ymv) (k:Ykq) (v:V) (aO:c8 es b=Ym) (q:Y39):JK m a b Q
def gW:dj:=E5 (λa b m Q=>a.oi False λp=>b.iU False λn=>JJ m p n Q) λaG ae cG cP h=>yC h λp bx h=>Bj h λn cM h=>JJ.casesOn h λt vs aD ak v pF Bv=>by
 subst cM;rw[YiX];refine⟨ae.list aD λxs ep aq O=>⟨"list",_,YWN,F.slot_list_getitem.lookup⟩,cP.elim λt e=>?_⟩;refine YgN;exact adW ae aD ak pF Bv
def fc:dj:=E5 (λa b m Q=>a.oi False λp=>JK m p b Q) λaG ae cG cP h=>yC h λp bx h=>JK.casesOn h λt c es aD ak v pF Bv=>by
 rw[YiX];exact⟨ae.dict aD λxs ep aq O O=>⟨"dict",_,mf aq,F.slot_dict_getitem.lookup⟩,ad8 ae aG aD ak cP pF Bv⟩
def JL:List Yuo:=[((8,8),100,none),((1,1),43,none),((17,17),111,none),((21,21),112,none),((3,2),63,some 120),((4,2),63,some 121)]
def yY(n:Nat):Y0X:=(JL.find? λp=>ZWh).map (·.1.2)
theorem aiA:∀p∈JL,And (tab p.1.2=some Zme) (tab p.1.1=some ZWj):=ZL
theorem Sr{n m:Nat}(h:yY n=Y31):∃ch x,YXb=Zav∧YHx=YQ∧(x=Y5p∨∃d,x=⟨#[ch,d]⟩):=
 YZm λp q=>
  have z:=aiA p (ayi q.1)
  ⟨YWR,ZWj,aV q.2 z.1,(eq_of_beq (@List.find?_some _ (λp:Yuo=>ZWh) p JL q.1))▸z.2,by
   cases p.2.2 with
   |none=>exact Zk
   |some d=>exact YJ ⟨d,rfl⟩⟩
def aiB:dj:=E5 (λa b m Q=>a.onStr False λn=>b=YPi∧Ysw) λ{g k A s mh cF dF a b Q}aG ae cG cP h=>by
 cases a with
 |str n=>
  exact⟨cG.elim λt e=>e.elim λx e=>⟨"str",_,e.2▸Zbm,F.slot_str_getitem.lookup⟩,(aV h.1 cP:aK s.heap dF YPi).elim λu cM=>YlD λj aM=>(Sr aM.1).elim λch w=>w.elim λx w=>cG.elim λt e=>e.elim λfY e=>aT e.2 (aX cM (gz Yvz (PySem.P.getItem_str YC (ZdU (λz=>z▸rfl) λz=>ZfR:(seqIndex? 0 x.length).bind (x.cps[·]?)=some ch) (me _ ae Yg4 aM.2))))⟩
 |_=>exact h.elim
theorem aiC{n:Nat}{u:Tok}{a:Addr}{P:Y8}(aM:ZfB)(cG:aK s.heap cF ZM)(hs:s.heap.IsSlice a none ZaF none)(aF:∀v tk,aK s.heap v YC8→P v YIS):WP g A (getItem cF YA) P s:=by
 refine(Sr aM).elim λch w=>w.elim λx w=>cG.elim λt e=>e.elim λfY e=>jL e.2 (Ax Yvz ?_);have key:∀{m:Made},sliceMade x t none ZaF none=m→m.post P s→WP g A (getItem Z2I YA) P s:=λe h=>wpAny_getItem_str_slice hs rfl (aa e h);refine ZdU (λz=>?_) λz=>z.elim λd z=>?_
 ·subst z;exact key (m:=.val Z2J) rfl ZBB
 ·subst z;exact key (m:=Y4 Y5p) rfl ⟨by show 1≤sizeLine;decide,ZBB⟩
def E6(e:aI)(i:Int):Bool:=(Ei e).elim false λx=>decide (x.1=Y3T)
theorem JM{e:aI}{i:Int}(h:E6 e i=true):∃k p,e=Y4b Y3T k p:=eP h λx O q=>x.2.imp λax z=>z.imp λp z=>aV YHU z
def JN(i:Int)(e:aI):Y68:=YuN none λx=>Yuw none λy=>y.1.2.elim none λu=>cond (E6 u i&&y.1.1.isNone) Zai none
theorem Ss{e o s:aI}{lo up Su Sv:YRP}{ps:Pos}(ex:e=Y6v o s pos)(fy:s=YEt lo up none ps)(fa:lo=Su)(rF:up=Sv):e=Y6v o (YEt Su Sv none ps) pos:=aj ex (aT fy (aa fa (yk rF rfl)))
theorem E7{i:Int}{e:aI}{es:Ye}{P:Y1}(h:JN i e=Y2K)(k:∀o ax p ps pos,e=Y6v o (YEt none ZZq none ps) pos→ZNQ):P:=j7 h λx O h=>j7 h λy O h=>Y2c λpos ex=>Y5D λps fy=>j7 h λu rF h=>rB h λq h=>dG q λbD bC=>Yud λax z=>z.elim λp z=>
 k Y2b ax p ps pos (Ss ex fy Z2q ZYa) Y5s
theorem JO{e a b:aI}{p:Pos}(h:e=Y6v a b p):YBA:=YSQ
def aiD:dj:=lL ⟨λO O e=>JN 1 e,λO vs m Q=>one vs False λa=>ZAQ⟩ Ziq
 λ{g H k env c r mh e es Q}K L hm h=>E7 hm λo ax ek ps p e3 he A s aG ae aN=>by
  replace h:=YHF;have h:Ev g k env c.ns r mh Y7j λa m=>ZAQ:=h;refine aT e3 (Subscript_ (Y0p λcF s1 z=>z.elim λm1 z=>Y0g λa q=>?_))
  cases a with
  |str n=>
   refine YHe λj aM=>Y0K;intro aiE aiF;refine wpAny_Slice (wpAny_pure (Yco _ _ _ _ _ _ ax ek _ Zm));have b5:=hH s1.heap YYN;have cG:aK ZZR cF ZM:=q.1;refine YoK λt e=>e.elim λaAw e=>tail_any (ops:=[YQ9,cF]) (T:="str") (aa e.2 Zbm) F.slot_str_getitem.lookup (aiC (u:=s1.toks) aM.1 cG Y6l λv tk bz=>?_) rfl;exact⟨m1,(YEH (s':=Zg2) b5 rfl rfl),Y0m (Step.grow (s':=Zg2) b5),_,bz,aM.2⟩
  |_=>exact YHe
def Sw(i:Int)(e:aI):Y68:=YuN none λx=>Yuw none λy=>y.1.1.elim none λu=>cond (E6 u i&&y.1.2.isNone) Zai none
theorem Sx{i:Int}{e:aI}{es:Ye}{P:Y1}(h:Sw i e=Y2K)(k:∀o ax p ps pos,e=Y6v o (YEt ZZq none none ps) pos→ZNQ):P:=j7 h λx O h=>j7 h λy O h=>Y2c λpos ex=>Y5D λps fy=>j7 h λu rF h=>rB h λq h=>dG q λbD bC=>Yud λax z=>z.elim λp z=>
 k Y2b ax p ps pos (Ss ex fy ZYa Z2q) Y5s
def kT:dj:=lL ⟨λO O e=>Sw 1 e,λO vs m Q=>one vs False λa=>ZAM⟩ (λhm=>Sx hm YrJ)
 λ{g H k env c r mh e es Q}K L hm h=>Sx hm λo ax p ps pos e3 he A s aG ae aN=>by
  replace h:=YHF;have h:Ev g k env c.ns r mh Y7j λa m=>ZAM:=h;refine aT e3 (Subscript_ (Y0p λcF s1 z=>z.elim λm1 z=>Y0g λa q=>lJ q.2 λvs bx ck=>?_));have ck:=ck.un;refine(aV bx q.1:aK s1.heap cF ZZ).gj.elim λt w=>w.elim λxs w=>?_;have hlen:=w.2.2.length;refine aa w.1 (wpAny_Slice (Yco _ _ _ _ _ _ ax p _ ZeE));have b5:=hH s1.heap Zfp;have Sy:TupAt YHk t xs:=w.2.1.imp λn e=>YhI;have bq:IsTup YHk t Z1:=jx Sy;have eB:(s1.heap.push {cls:=YQL,data:=ZY #[Z0g,Y7,Y7]}).IsSliceOf s1.heap.objs.size Z0g Y7 Y7:=ZFc;have a2:a5 g m1 YYS:=YEH (s':=YYS) b5 rfl rfl;have eX:Step cX s mh YYS m1:=Y0m (Step.grow (s':=YYS) b5);exact tail_any (ops:=Z9c) (iz.type Sy) ayh.lookup (getItem_tuple_from bq eB YW (aL Y0D (aL hlen ck.1)) (hy.go eX (D9 (X:=cX) (t:=YX8) (Q:=Q) a2 ((w.2.2.drop 1).keep Y64) YGN.2.1 YGN.2.2)) (aj Y0D (aj hlen (fZ YGN.1)))) rfl
theorem a9.pick(r:Y0z)(f:Zg8)(l:ZC):∃ws,a9 h (l.filterMap λa=>Zey) ws∧∀w∈ws,w∈vs:=by
 induction l with
 |nil=>exact⟨[],a9.nil,YIc⟩
 |cons a l ai=>
  refine ai.elim λws q=>aa Dm ?_
  cases e:Zey with
  |none=>exact⟨ws,q⟩
  |some x=>
   have aE:f a<vs.length:=ZCR;refine(r.get (dy aE)).elim YZ8;exact⟨_::ws,a9.cons ((ZIv:y=x)▸z.2) q.1,λw hw=>(dz hw).elim (λe=>aa e (v3 aE)) (q.2 w)⟩
def Sz(v:V)(m:ag)(Q:Y7F):Y1:=v.oi False λa=>∃t vs,m a=YpE∧YFW
def aiG:dj:=lL ⟨λO O e=>JN 40 e,λO vs m Q=>one vs False λa=>Z8B⟩ Ziq
 λ{g H k env c r mh e es Q}K L hm h=>E7 hm λo ax p ps pos e3 he A s aG ae aN=>by
  replace h:=YHF;have h:Ev g k env c.ns r mh Y7j λa m=>Z8B:=h;refine aT e3 (Subscript_ (Y0p λcF s1 z=>z.elim λm1 z=>Y0g λa q=>yC q.2 λt bx f3=>f3.elim λtg f3=>f3.elim λvs f3=>?_));have aD:=f3.1;have ck:=f3.2;refine aa ZXk (wpAny_Slice (wpAny_pure (Yco _ _ _ _ _ _ ax p _ Zm)));have b5:=hH s1.heap Zfq;have a2:a5 g m1 YYT:=YEH (s':=YYT) b5 rfl rfl;have eX:Step cX s mh YYT m1:=Y0m (Step.grow (s':=YYT) b5);refine(a2.3 _ _ _ aD).elim λxs fz=>?_;have aq:=fz.1;have bg:=fz.2;have hlen:=bg.length;refine Yg;intro aAx aAy aAz;refine tail_any (ops:=Z9c) (aq.elim λo z=>⟨o,z.1,Z4⟩) F.slot_list_getitem.lookup (wpAny_getItem_list_slice aq ZFc Y7 (YI 40 _) Y7 (λe=>sk _ e.symm) ((bg.pick id (sliceRange YHm.1 YPJ.1 YPJ.2)).elim λws w=>?_) (aj Y0D (aj hlen (fZ ck.1)))) rfl;have aJ:slicePick Z1 none YpI none=bT ((sliceRange YHm.1 YPJ.1 YPJ.2).filterMap λi=>xs[id i]?):=by
   refine congrArg bT (R8 λO O=>q8)
  have hle:=slicePick_size_le Z1 none YpI none
  (replace hle:=bN aJ hle;refine aa aJ ?_)
  exact hy.go eX (D8 (X:=cX) (t:=YX8) (Q:=Q) a2 w.1 (YGN ws (au (dH (cA w.1.length (eN _).symm)) (au hle (dH (YJC hlen)))) w.2))
def oTup:dj:=lL ⟨λO O e=>pE (rm e) Zl2 Zl3,λO vs m Q=>ux Y7o ZZ m Q⟩ Ziu
 λ{g H k env c r mh e es Q}K L hm h=>j8 hm λx ao he A s aG ae aN=>Y2c λn z=>z.elim λpos z=>by
  refine YjC;replace h:=Y7f;exact aT z (wpAny_Tuple (ZVU▸Yb3 λxs s1 w=>w.elim λm1 w=>YqI λvs q=>⟨ZHz,hy.go w.2 (D9 (X:=cX) (t:=s1.toks) w.1 q.1 YoM.1 YoM.2)⟩))
def fj:dj:=lL ⟨λO O e=>pE (dList e) Zl2 Zl3,λO vs m Q=>ZEi⟩ Zit
 λ{g H k env c r mh e es Q}K L hm h=>j8 hm λx ao he A s aG ae aN=>Y2c λpos z=>by
  refine YjC;replace h:=Y7f;refine aT z Y0K;intro aAA aAB;exact wpAny_List (ZVU▸Yb3 λxs s1 w=>w.elim λm1 w=>YqI λvs q=>⟨ZHz,hy.go w.2 (D8 (X:=cX) (t:=s1.toks) w.1 q.1 Yq)⟩)
def run{α:Y4k}(lt:Y0y):YKB→α
 |YS a=>a
 |.ask i j k=>run lt (k YVi)
theorem run_bind(lt:Y0y)(f:Zg6)(t:YKB):run lt ZbJ=run lt (f ZYy):=by
 induction t with
 |ret _=>rfl
 |ask i j k ai=>exact ai YVi
abbrev lO(lt:Y0y):Y1:=hR (∀x y,ZUC→Ymt) (∀x y z,Ymt→lt z y=false→lt z x=false)
noncomputable abbrev dR (p:ZB) (i:Nat):Nat:=p.getD i 0
theorem tc(p:ZB)(i:Nat):Y7i=(p[i]?).getD 0:=by simp[dR,sq]
def nS(lt:Y0y)(p:ZB)(n:Nat):Y1:=∀i j,ZS3
def Down(lt:Y0y)(p:ZB)(n:Nat):Y1:=∀i j,YGy→ZSD
theorem JP{n:Nat}(h:¬j<n)(h':j<n+1):j=n:=Nat.le_antisymm (hp h') Yla
theorem JQ(h:YGy)(q:¬i=j):i≤YDU:=Af (rb h q)
theorem td(h:i<j):YDU<j:=Nat.sub_lt (Ag h) Nat.one_pos
theorem eq2{n:Nat}(ak:n+1 - 1 - 0≤i)(av:YGy)(aP:j<n+1):i=j:=mG av (au (hp aP) ak)
theorem SA(gK:YGy)(aM:j<1):i=j:=(Am (au gK YlY)).trans (Am YlY).symm
theorem bz{n:Nat}(h:a≤k)(aR:k<n):a≤YfZ∧YfZ<n:=by
 have e:YfZ=a+(Y9S - k):=by exact aT (Nat.add_sub_assoc (Ag aR) ..) ((Nat.add_sub_assoc Z2o ..))
 rw[e];refine⟨Yk,fF (h7 h _) ?_⟩;refine aj (rd Z2o) ?_;exact td aR
theorem SD{c:Nat}(h:YGy):c - j≤c - i:=ayk h c
theorem mid{l r:Nat}(h:l<r):l≤Y9r∧Y9r<r:=⟨(ayl Dn).mpr (aj YK7 (c0 YUx l)),(aym Dn).mpr (aL YK7 (ayn h r))⟩
theorem lO.te{lt:Y0y}(W:Y4N)(x:Nat):lt x x=false:=by
 cases h:lt x x with
 |false=>rfl
 |true=>have:=W.1 x x h;replace this:=aQ h this;exact this
theorem lO.le{lt:Y0y}(W:Y4N){x:Nat}(h:ZUC):Ymt:=W.1 _ _ h
theorem nS.step{lt:Y0y}(W:Y4N){p:ZB}{n:Nat}(h:ZVd)(e:n=0∨ZU9=false):nS lt p (n+1):=λi j gK aM=>by
 by_cases q:j<n
 ·exact ZPp
 ·obtain rfl:=JP q aM;by_cases ck:i=j
  ·subst ck;exact Y8i
  ·have gD:=ZYj;exact W.2 _ ZKu _ ZPn ZLw
theorem Down.step{lt:Y0y}(W:Y4N){p:ZB}{n:Nat}(h:YQi)(e:n=0∨ZU7):Z3l:=λi j gK aM=>by
 by_cases q:j<n
 ·exact ZPp
 ·obtain rfl:=JP q aM;by_cases ck:i=j
  ·subst ck;exact Y8i
  ·have gD:=ZYj;exact W.2 _ ZKu _ ZLw ZPn
theorem rG{p:ZB}(aM:j≤p.size)(k:Nat):dR (kas_rev p i j) k=if And ZS4 (k<j)then dR p (i+j - 1 - k)else YGT:=by
 (refine ZEN;rw[kas_rev];refine aT (getElem?_mirror_all aM ..) ?_)
 split <;> exact YPN
theorem uR(p:ZB)(i j:Nat):(kas_rev p i j).size=p.size:=mirror_size _ _ _ _
theorem tf(p:ZB)(i j:Nat):(kas_rev p i j).Perm p:=mirror_perm _ _ _ _
theorem SE{lt:Y0y}(W:Y4N)(p:ZB)(f n:Nat)(ak:YQQ)(u:ZVd):n≤YHh∧YHh≤n+f∧nS lt p YHh∧
   (YHh=n+f∨lt (dR p YHh) (dR p (YHh - 1))=true):=by
 induction f generalizing n with
 |zero=>exact⟨YW,YW,u,Zk⟩
 |succ f ai=>
  cases h:YVh with
  |true=>
   have e:ZYx=n:=(congrArg Y56 Ym1:)
   rw[e];exact⟨YW,Yk,u,YPh⟩
  |false=>
   have e:ZYx=run lt (kas_asc p f (n+1)):=(congrArg Y56 (if_neg (Dw h)):)
   rw[e];have z:=ai (n+1) Y1X (u.step W YPh);exact⟨ud z.1,YQj▸Z4,YYF,Z3.2.imp (λd=>d.trans YQj) id⟩
abbrev Bw(lt:Y0y)(p:ZB)(n q:Nat):Y1:=iG YQQ (q<n) ZVx YQi (∀i j,ZVC→ZS3)
theorem Bw.rev{lt:Y0y}(W:Y4N){p:ZB}{n q:Nat}(h:Z3C):Down lt Ymb n∧(∀k,n≤k→dR Ymb k=YGT):=by
 refine⟨Ziz,YOH⟩
 ·refine aX YWu (aT YWu ?_);by_cases ak:YVw≤i
  ·have af:=YkO;rw[if_pos ⟨ak,af⟩,if_pos ⟨ZF6,aM⟩];refine h.5 _ _ ?_ Z7t (bz ak af).2;rw[N2,ZPO];exact(bz ZF6 aM).1
  ·rw[if_neg λz=>ak z.1]
   split
   ·next z=>exact h.4 _ _ (au (h9 (Dl ak)) ZIM.1) ZIM.2
   ·exact h.4 _ _ gK aM
 ·exact aj YWu ((if_neg λz=>ye aR z.2))
abbrev aiH(lt:Y0y)(f:Nat)(p:ZB)(n q:Nat)(P:Y1):Y1:=∀(dV:ZB)(ey bS:Nat),run lt (kas_desc f p n q)=(dV,ey,bS)→Bw lt dV ey bS→ey≤n+f→ZL4→dV.size=p.size→P
abbrev E8(lt:Y0y)(f:Nat)(p:ZB)(n q:Nat):Y1:=∀P:Y1,aiH lt f p n q P→P
theorem E8.step{lt:Y0y}{f:Nat}{p ek:ZB}{n q il:Nat}(e:Yoj=run lt (kas_desc f ek (n+1) il))(pm:ek.Perm p)(ps:ek.size=p.size)(h:E8 lt f ek (n+1) il):E8 lt (f+1) p n q:=
 h _ λdV ey bS bk d b m s=>(λO bA=>bA dV ey bS (e.trans bk) d (YQj▸b) (m.trans pm) (s.trans ps))
theorem aiI{lt:Y0y}(W:Y4N)(f:Nat)(p:ZB)(n q:Nat)(h:Z3C)(hz:n+f≤p.size):E8 lt f p n q:=by
 induction f generalizing p n q with
 |zero=>exact(λO bA=>bA p n q rfl h YW Y3V rfl)
 |succ f ai=>
  have dn:=h.1;have wR:n+1+f≤p.size:=YQj▸hz;have qC:n+1≤p.size:=ZEw;have aJ:YVh=true→Yoj=run lt (if YWk then kas_desc f Ymb (n+1) 0 else kas_desc f p (n+1) 0):=λc=>Yw9
  have aC:YVh=false→Yoj=run lt (if ZUA=true then YS (p,n,q)else kas_desc f p (n+1) (q+1)):=λc=>Yw7
  cases c:YVh with
  |true=>
   have fx:=aJ c;by_cases aF:YWk
   ·have d:=h.rev W;refine .step (fx.trans (congrArg Y56 Ylx)) YNR Ypj (ai _ _ _ ⟨Y1X,Y3I,by refine aL YXg ?_;exact qC,d.1.step W YJc,Ziy⟩ (aL YXg wR))
    ·have f3:YVw≤Y9S:=ayk (fp 1 q) n;exact aX (d.2 n YW) (aT YWu (aT (if_pos ⟨f3,YXc⟩) (W.2 _ _ _ (Z8i:ZU7) (h.4 _ _ (Af (bz f3 YXc).2) YXc:lt (dR p (YVw+n - 1 - Y9S)) Y91=false))))
    ·exact ZN8
   ·exact .step (fx.trans (congrArg Y56 Ylp)) Y3V rfl (ai _ _ _ ⟨Y1X,Y3I,qC,ZQ3 W (YJ Z8i),λO O ak av aP=>ZN8⟩ wR)
  |false=>
   have fx:=aC c
   cases d:ZUA with
   |true=>exact(λO bA=>bA p n q (fx.trans (congrArg Y56 (if_pos d))) h Yk Y3V rfl)
   |false=>
    refine .step (fx.trans (congrArg Y56 (if_neg (Dw d)))) Y3V rfl (ai _ _ _ ⟨Y1X,Nat.succ_lt_succ h.2,qC,ZQ3 W (YJ d),Ziy⟩ wR);have ak:ZVC:=aj Z5k (aX ZPO ak);by_cases ck:j<n
    ·exact h.5 i j ak av ck
    ·have fe:=JP ck aP;by_cases gD:i=j
     ·exact gD▸Y8i
     ·exact gT fe (W.2 _ Y91 _ (h.5 i Y9S ak (fe▸JQ av gD) YXc) c)
theorem aiJ{lt:Y0y}{p:ZB}{n:Nat}(h:YQi)(hz:ZVx):nS lt YMG n:=λi j gK aM=>by
 have af:=YkO;rw[rG hz,rG hz,ZRj,ZRk];exact h _ _ Z7t Yvy
def Good(lt:Y0y)(nrem:Nat)(p:ZB)(r:Nat×ZB):Y1:=1≤r.1∧r.1≤nrem∧nS lt r.2 r.1∧r.2.Perm p∧r.2.size=p.size
variable{nrem:Nat}
theorem SF{lt:Y0y}(W:Y4N){p:ZB}{n:Nat}(h:YQi)(ak:YQQ)(az:n≤nrem)(hz:YnY):Good lt nrem p (run lt (kas_tail3 n nrem p)):=by
 refine Yg6;have JR:=SE W YMG (nrem - n) n ak (aiJ h ZF9);exact⟨au ak JR.1,au JR.2.1 (dH Yoc),JR.2.2.1,YNR,Ypj⟩
theorem SG{lt:Y0y}(W:Y4N){p:ZB}{n:Nat}(h:Z3l)(az:ZVE)(hz:YnY):Good lt nrem p (run lt (kas_descPart n nrem p)):=by
 refine Yg6;have cq:Bw lt p (n+1) 0:=⟨Y1X,Y3I,ZF9,h,λi j ak av aP=>by
  obtain rfl:=Yjw;exact Y8i⟩
 refine aiI W (nrem - (n+1)) p (n+1) 0 cq (aj Yoc hz) _ λdV ey bS e d b pm ps=>?_;replace b:=bL Yoc b;refine Y4o;dsimp only;by_cases aF:bS > 0
 ·refine bW Ylx ?_;obtain⟨g1,g2,g3,uS,uT⟩:=SF (nrem:=nrem) W (d.rev W).1 d.1 b (aL YXg ZBd);exact⟨g1,g2,g3,uS.trans ((tf _ _ _).trans pm),uT.trans ((uR _ _ _).trans ps)⟩
 ·refine bW Ylp ?_;obtain⟨g1,g2,g3,uS,uT⟩:=SF (nrem:=nrem) W d.4 d.1 b ZBd;exact⟨g1,g2,g3,uS.trans pm,uT.trans ps⟩
theorem aiK{lt:Y0y}(W:Y4N){p:ZB}(ak:1≤nrem)(hz:YnY):Good lt nrem p (run lt (kas_count nrem p)):=by
 refine Yg6;have bD:nS lt p 1:=λi j gK aM=>by
  obtain rfl:=Z7s;exact Y8i
 obtain⟨a,b,c,d⟩:=SE W p ZVs 1 YW bD;generalize run lt (kas_asc p ZVs 1)=n at *;revert n;refine Y18;intro n a b c d
 (replace b:=bL ZYl b;replace d:=bN ZYl d)
 by_cases e:(n==nrem)=true
 ·exact bW YM1 ZnB
 ·refine bW YDQ ?_;have ne:n≠nrem:=λh=>e (beq_iff_eq.mpr h);have d:ZU9=true:=d.resolve_left ne;have nl:ZVE:=rb b ne;have zn:=au b hz;by_cases aC:n > 1
  ·refine bW ZRa ?_;show Good lt nrem p (run lt (if ZUB=true then YS (n,p)else ZTB))
   cases m2:ZUB with
   |true=>exact ZnB
   |false=>
    show Good lt nrem p (run lt ZTB);have al:∀i j,i<n→ZSD:=λi j af aM=>by
     exact W.2 _ Y91 _ (c j Y9S (Af aM) (td aM):lt Y91 YTs=false) (W.2 _ (dR p 0) _ m2 (c 0 i Z0 af))
    have JS:Down lt YMG (n+1):=by
     refine Down.step W Ziz YJc
     ·have af:=YkO;rw[YWv,YWv,ZRk,ZRj];exact al _ _ Yvy (bz Z0 aM).2
     ·have aE:=td a;rw[YWv,YWv,if_pos ⟨Z0,aE⟩,if_neg λz=>t9 _ z.2];exact W.2 _ Y91 _ Z8j (al _ _ (bz Z0 aE).2 aE)
    obtain⟨g1,g2,g3,uS,uT⟩:=SG (nrem:=nrem) W JS nl (aL YXg hz);exact⟨g1,g2,g3,uS.trans YNR,uT.trans Ypj⟩
  ·refine bW ZRR ?_;obtain rfl:n=1:=mG (hq aC) a;have JS:Down lt p (1+1):=Down.step W (λi j gK aM=>by
    obtain rfl:=Z7s;exact Y8i) (YJ Z8j)
   exact SG W JS nl hz
theorem aiL{lt:Y0y}(W:Y4N)(p:ZB)(k:Nat)(u:YnQ)(f l r:Nat)(ak:l≤r)(av:r≤k)(aP:r - l≤f)(a:Zlt)(b:∀i,r≤i→Ylh):
   Yol≤k∧(∀i,i<Yol→ZU8)∧(∀i,Yol≤i→Ylh):=by
 induction f generalizing l r with
 |zero=>exact mG ak Z5t▸⟨ZF5,a,λi h=>b i (au Z5t h)⟩
 |succ f ai=>
  by_cases uU:l≥r
  ·have e:Yok=l:=(congrArg Y56 (if_pos uU):)
   rw[e];exact⟨ZF5,a,λi h=>b i (au uU h)⟩
  ·have M:=mid Z3k
   cases c:lt (p.getD k 0) (p.getD Y9r 0)with
   |true=>
    have e:Yok=run lt (kas_place p k f l Y9r):=Yw8 Yw9;rw[e];refine ai l _ M.1 (au (h9 M.2) av) (hp (ew (Nat.sub_lt_sub_right M.1 M.2) aP)) a λi da fG=>?_
    cases q:YDe with
    |true=>rfl
    |false=>exact absurd (cA c (W.2 _ Y7i YGT (u Y9r i da fG) q)) vV
   |false=>
    have e:Yok=run lt (kas_place p k f (Y9r+1) r):=Yw8 Yw7;rw[e];exact ai _ r M.2 av (hp (ew (ayd Z3k (x3 M.1)) aP)) (λi da=>W.2 _ (dR p Y9r) _ (u i Y9r (hp da) (ew M.2 av)) c) b
theorem SH{p:ZB}{l:Nat}(aR:ZSz)(aE:l≤k)(i:Nat):dR ZHc i=if i=l then YGT else if Yct then dR p (i - 1)else Y7i:=by
 (refine aj YNQ (aT (getElem?_bubble aR _ YeB ..) ?_);refine aa (Nat.sub_sub_self aE) ?_)
 by_cases ak:i=l
 ·exact aL Yly (aT Yly YPN)
 ·refine aL Ylq (aT Ylq ?_);by_cases av:Yct
  ·exact aL Ylz (aT Ylz YPN)
  ·exact aL Ylr (aT Ylr YPN)
theorem aiM{lt:Y0y}(W:Y4N){p:ZB}{l:Nat}(SI:ZSz)(u:YnQ)(a:l≤k)(b:Zlt)(c:∀i,l≤i→Ylh):nS lt ZHc (k+1):=λi j gK aM=>by
 refine aX Z7u (aT Z7u ?_);by_cases e:i=j
 ·subst e;exact Y8i
 have E9:=rb gK e;have JT:=YlY;have jp:0<j→YDU<k:=λz=>ew (Nat.sub_lt z Nat.one_pos) JT;by_cases aJ:i=l
 ·have rH:l<j:=aJ▸E9;exact aX (if_pos aJ) (aT (if_neg (p8 rH)) (aT (if_pos ⟨rH,JT⟩) (W.1 _ _ (c YDU (Af rH) (jp (Ag rH))))))
 ·refine aX (if_neg aJ) ?_;by_cases aC:j=l
  ·have th:i<l:=aC▸E9;exact aT ZRa (aX (if_neg λz=>Nat.lt_asymm th z.1) (b i th))
  ·refine aT ZRR ?_;by_cases x:And (l<j) YmM
   ·refine aT (if_pos x) ?_;by_cases y:Yct
    ·exact aX (if_pos y) (u _ _ (Nat.sub_le_sub_right gK 1) ZSP)
    ·exact aX (if_neg y) (u _ _ (Af E9) ZSP)
   ·have Bx:j≤l:=hq λz=>x ⟨z,JT⟩;exact aT (if_neg x) (aX (if_neg λy=>t9 _ (ew (lD y.1 E9) Bx)) (u _ _ gK (ew (rb Bx aC) a)))
theorem aiN{lt:Y0y}(W:Y4N)(f:Nat)(p:ZB)(k:Nat)(u:YnQ)(hz:k+f≤p.size):nS lt (run lt YVU) (k+f)∧(run lt YVU).Perm p∧(run lt YVU).size=p.size:=by
 induction f generalizing p k with
 |zero=>exact⟨u,Y3V,rfl⟩
 |succ f ai=>
  have e:run lt (kas_bin (f+1) p k)=run lt (kas_bin f (bubble p k (k - run lt (kas_place p k k 0 k))) (k+1)):=ZYz;rw[e];have z:=aiL W p k u k 0 k Z0 YW YeB (λi h=>YCe) (λO h h'=>absurd h' (ye h));have wR:k+1+f≤p.size:=Dp k f▸hz;have d:=ai _ (k+1) (aiM W ZEw u z.1 Z4 Z3) (by refine aL (bubble_size ..) ?_;exact wR);exact⟨Dp k f▸d.1,d.2.1.trans ZHd,d.2.2.trans (bubble_size _ _ _)⟩
theorem aiO{lt:Y0y}(W:Y4N){n:Nat}(ak:YQQ):nS lt (run lt YVV) n∧(run lt YVV).toList.Perm Y6L∧(run lt YVV).size=n:=by
 unfold kas_sort;rw[run_bind];have hz:(bT Y6L).size=n:=Y6K
 obtain⟨a,b,c,d,e⟩:=aiK (nrem:=n) W (p:=Yhg) ak (by refine aL hz ?_;exact YW);generalize run lt (kas_count n Yhg)=r at *;obtain⟨m,p⟩:=r;dsimp only at *;by_cases fQ:m<n
 ·rw[ZRf];have az:m+ZVD=n:=rd b;refine aa ((N3 a:max m 1=m)) ?_;obtain⟨uV,i3,aiP⟩:=aiN W ZVD p m c (by refine aL e (aL hz (aj az ?_));exact YW);refine⟨by replace uV:=bL az uV;exact uV,?_,aiP.trans ZLx⟩;have:=(i3.trans d).toList
  simpa using this
 ·rw[ZRT];obtain rfl:m=n:=mG b ZQy;refine⟨c,?_,ZLx⟩;show p.toList.Perm _
  simpa using d.toList
def eF(v:V):Y3o:=V.rec (motive_1:=YYj) (motive_2:=YYi) Y1k Y0P (λi b=>b.mb false λj=>decide (i<j))
 (λn b=>b.onStr false λm=>decide Ytv) Y0P Y0P YYa ZjQ (λa O x y l=>l.casesOn false λb r=>ZK1) v
def m3(vs:Y3):Y5M:=vs.rec ZjQ λa O ai l=>l.casesOn false λb r=>cond Y1S Y6E YD1
def m4(v:V):Y3o:=V.rec (motive_1:=YYj) (motive_2:=YYi) Y1k Y0P Zh8 Zh9 Y0P Y0P YYa Y2A
 (λa O x y l=>l.casesOn true λb r=>YAb&&ZK1) v
def mq(vs:Y3):Y5M:=vs.rec Y2A λa O ai l=>l.casesOn true λb r=>YAb&&cond Y1S Y6E YHM
theorem ti(vs ws:Y3):ZMD:=by
 suffices h:∀ws,ZMD from h ws
 induction vs with
 |nil=>exact Zf
 |cons a vs ai=>exact λws=>ws.casesOn rfl λb r=>congrArg (λz=>cond Y1S z YD1) Y6E
theorem uW(vs ws:Y3):ZUN:=by
 suffices h:∀ws,ZUN from h ws
 induction vs with
 |nil=>exact Zf
 |cons a vs ai=>exact λws=>ws.casesOn rfl λb r=>congrArg (λz=>YAb&&cond Y1S z YHM) Y6E
theorem rI(a b:V)(as bs:Y3):m3 Yfi ZG8=cond Y1S (m3 as bs) YD1:=rfl
theorem yZ(a b:V)(as bs:Y3):mq Yfi ZG8=(YAb&&cond Y1S (mq as bs) YHM):=rfl
theorem SJ(xs bf:Y3)(h:pre xs bf=true):m3 xs bf=ZLN:=by
 induction xs generalizing bf with
 |nil=>cases bf <;> rfl
 |cons x xs ai=>cases bf with
  |nil=>rfl
  |cons y bf=>
   exact dG h λbD bC=>aj YMx (dT bD (aj (cond_true ..) (aj (ai bf bC) (decide_eq_decide.mpr ayo.symm))))
theorem u8{m c:Nat}(h:ZAJ):a+2*m<c:=fF (cx _ 20) h
theorem yJ{m c:Nat}(h:ZAI+20<c):a+1+2*m+20<c:=ZfD
theorem Bc{m c:Nat}(h:ZAJ):a<c:=DS (x:=0) h Z0
abbrev Fb(prog:Program)(w:World)(E:Y8)(v:V):Y1:=∀(u:V)(n m:Nat)(A:Around)(s:Shared)(x y:Value)(Q:Y8),Y7h→YTq→m4 v u=true→Z2k→Y2m→Yg3→
  Q (YK (eF v u)) s→wpAny YR A ZYo Q E s
abbrev Fc(prog:Program)(w:World)(E:Y8)(vs:Y3):Y1:=∀(us:Y3)(n m:Nat)(A:Around)(f:Z8g)(s:Shared)(xs bf:Yn)(Q:Z5z),
  (∀x y r(Q':Z4I)s,wpAny YR A Yjx (λb s'=>if Y6G then Yee else wpAny YR A ZYo (λv Bp=>Q' (Y6x (some YPd,YZV)) Bp) E s') E s→Zdl)→
  YDh→Yn7→mq vs us=true→Z2k→Y3B→ZAq→
  ZXE→(ZXD→Q (some (Y6x (YS (YK (m3 vs us)))),YZV) s)→Zdn
theorem aiQ{E:Y8}(vs:Y3)(ai:Z4F):Fb prog w E ZZ:=by
 intro u n m A s x y Q d eJ c bj r bI h
 cases u with
 |tup us=>
  cases n with
  |zero=>exact YHS
  |succ n=>
  cases m with
  |zero=>exact YW3
  |succ m=>
  refine ZYM;have AD:=YM6;have wm:=YVH;refine YBD λDZ HU=>YL5 λadu wo=>ix q.1 (jg Y3F (wpAny_richCompare_same_room (op:=.Lt) AD wm F.slot_tuple_lt (wpAny_call_entry F.slot_tuple_lt AD F.entry_tuple_lt ?_ (F.args_tuple_lt_2 _ _)) (Bc bj)));show Ze4;refine ZH2;replace h:=bN YHy h;refine ai us n m _ _ _ _ _ _ Zkx YMT Yn4 (uW vs us▸c) (yJ bj) Yq YAU YOB YOB
  ·cases b with
   |true=>exact ZJc
   |false=>exact cb ZRZ (bd (wpAny_rule (bd (wpAny_mono y (λO O z=>bd ZeF) Y33))))
  ·refine wpAny_pure ⟨_,rfl,YIi,?_⟩;show Q (YK (decide ((bT items).size<(bT HT).size))) s
   (refine aa Y0D (aa Y0D (aa YMq (aa Yhf (bN (SJ vs us aF) ?_)))))
   exact h
  ·exact wpAny_pure ⟨_,rfl,YIi,h⟩
 |_=>exact Y9T
theorem aiR{E:Y8}(v:V)(vs:Y3)(ak:Z4E)(av:Z4F):Fc prog w E Y0O:=by
 intro us n m A f s xs bf Q hf d eJ c bj r bI h h';refine ZYS
 cases us with
 |nil=>(refine ZCy);exact YqO
 |cons u us=>
  refine bI.un λmP AB bk jf kO=>YjD;replace c:=YgD;have c:=YTT
  (refine ZD4)
  refine bd (hf _ _ _ _ _ (yq u n m A s _ _ _ bD eg c.1 (u8 bj) a jf ?_));have ar:ZXC:=rfl
  (rw[ar]at h;rw[ar]at h')
  rw[rI]at h'
  cases q:YSh with
  |true=>(rw[q,xY]at h;rw[q,xY]at h');replace c:=YIL;exact aa Y0c (av us n m A f s _ _ Q hf bC d1 c.2 bj b kO h h')
  |false=>rw[q,NG]at h';replace c:=YIL;exact aa Y2u (ak u n m A s _ _ _ bD eg c.2 bj a jf ZeC)
theorem SK{E:Y8}{v:V}:Z4E:=V.rec (motive_1:=Fb prog w E) (motive_2:=Fc prog w E) ZgD YIX
 (λi u n m A s x y Q d eJ c bj r bI h=>r.elim λt e=>by
  cases u with
  |int j=>exact bI.elim λdg bk=>aa e (bk▸lt_int h)
  |_=>exact Y9T)
 (λi u n m A s x y Q d eJ c bj r bI h=>r.elim λt e=>e.elim λz e=>by
  cases u with
  |str j=>
   refine bI.elim λdg bk=>bk.elim λk9 bk=>aa e.2 (bk.2▸PySem.P.lt_str ?_);have h:Q (YK ZLH) s:=h;rw[e.1,bk.1]at h;exact h
  |_=>exact Y9T)
 YIX YIX aiQ (λus n m A f s xs bf Q hf d eJ c bj r bI h h'=>ZIL) aiR v
theorem SM(a:V):ZMH:=V.rec (motive_1:=λa=>ZMH) (motive_2:=λa=>m3 a a=false) rfl Zf (λi=>decide_eq_false (Int.lt_irrefl i)) (λO=>decide_eq_false (List.lt_irrefl _)) Zf Zf
 (λvs ai=>(ti vs vs).trans ai) rfl (λO O O h=>aj YMx (dT Y3t h)) a
theorem SN{b:V}{f:Int→Bool}{P:Y1}(h:b.mb false f=true)(k:∀j,b=YI j→YkF):P:=by
 cases b with
 |int j=>exact YmO
 |_=>exact Y0L
theorem SO{b:V}{f:Z9}{P:Y1}(h:b.onStr false f=true)(k:∀j,b=YC8→YkF):P:=by
 cases b with
 |str j=>exact YmO
 |_=>exact Y0L
theorem Fd{b:V}{f:Y5M}{P:Y1}(h:b.eM false f=true)(k:∀j,b=YD j→YkF):P:=by
 cases b with
 |tup j=>exact YmO
 |_=>exact Y0L
theorem JU(a:V):ZlY:=V.rec (motive_1:=λa=>ZlY) (motive_2:=λa=>∀b c,ZUM→m3 b c=true→m3 a c=true)
 YEN YIa
 (λi b c h h'=>SN (b:=b) h λj e q=>SN (b:=c) (f:=λk=>decide (j<k)) ZIA λk bk bS=>by refine ZCd;exact decide_eq_true (Int.lt_trans YHU ZWQ))
 (λi b c h h'=>SO (b:=b) h λj e q=>SO (b:=c) ZIA λk bk bS=>by refine ZCd;exact decide_eq_true (List.lt_trans YHU ZWQ))
 YIa YIa
 (λvs ai b c h h'=>Fd (b:=b) h λws e q=>Fd (b:=c) (f:=λus=>eF Y8W (YD us)) (by replace h':=eT e h';cases c <;> exact h') λus bk bS=>by
  rw[e]at h
  (rw[ti]at h;replace bS:=aQ YHy bS)
  refine aX bk (aj YHy ?_);exact ai ws us h bS)
 (λb c h h'=>by
  cases b with
  |nil=>exact Y0L
  |cons y bf=>cases c with
   |nil=>exact nb h'
   |cons _ _=>rfl)
 (λx xs ak av b c h h'=>by
  cases b with
  |nil=>exact Y0L
  |cons y bf=>cases c with
   |nil=>exact nb h'
   |cons z zs=>
    (rw[rI]at h;replace h':=aQ YMx h';refine aj YMx ?_)
    cases aJ:YSi with
    |true=>
     rw[aJ]at h;rw[oo aJ]
     cases aC:b8 y z with
     |true=>rw[aC]at h';exact av bf zs h h'
     |false=>rw[aC]at h';exact h'
    |false=>
     rw[aJ]at h
     cases aC:b8 y z with
     |true=>rw[←oo aC,aJ];exact h
     |false=>
      rw[aC]at h';have t:=ak y z h h'
      cases c1:b8 x z with
      |true=>replace t:=aQ Z7v (eT (oo c1) t);exact nb t
      |false=>exact t) a
theorem aiS{n m:Nat}{s t:Str}(a:YBQ)(b:YXb=YNK)(h:s.cps.toList=t.cps.toList):n=m:=by
 refine AA a (b.trans ZKD);clear a b
 cases s;cases t
 exact congrArg Str.mk (HB h).symm
def strOk(v:V):Bool:=V.rec (motive_1:=Zh1) (motive_2:=Zh1) true Y2A Y2A (λn=>(tab n).isSome) Y2A Y2A (λO b=>b) true (λO O a b=>a&&b) v
def strsOk(vs:Y3):Bool:=vs.rec true λv O b=>strOk v&&b
theorem By(vs:Y3):strOk ZZ=strsOk vs:=by
 induction vs with
 |nil=>rfl
 |cons v vs ai=>exact congrArg (strOk v&&·) ai
theorem JV(a:V):Zlg:=V.rec (motive_1:=λa=>Zlg)
 (motive_2:=λa=>∀b,strsOk a=true→strsOk b=true→mq a b=true→a=b∨ZUM∨m3 b a=true)
 YIa YIY
 (λi b O O h=>YOZ λj e=>by
  rw[e];rcases Int.lt_trichotomy i j with q | q | q
  ·exact Z0Z
  ·exact YY ZKA
  ·exact YJ (YJ YjN))
 (λn b hs gB h=>YZw λm e=>by
  (rw[e]at gB;rw[e])
  obtain⟨s,es⟩:=OH hs;obtain⟨t,jy⟩:=OH (gB:(tab m).isSome=true);by_cases q:Ytv
  ·exact Z0Z
  ·by_cases bS:Ytt<Ytu
   ·exact YJ (YJ (decide_eq_true bS))
   ·have aC:=List.le_antisymm (OI bS) (OI q);rw[es,jy]at aC;exact YY (congrArg V.str (aiS es jy aC)))
 YIY YIY
 (λvs ai b hs gB h=>Fd (b:=b) h λws e q=>by
  (rw[e]at h;rw[e]at gB;rw[e])
  refine sC YHy (OP YHy ?_);rw[uW]at h
  (rw[By]at hs;rw[By]at gB)
  exact(ai ws hs gB h).imp (congrArg V.tup) id)
 (λb O O O=>b.casesOn Zk λO O=>Yba)
 (λx xs ak av b hs gB h=>by
  cases b with
  |nil=>exact Z0e
  |cons y bf=>
   rw[yZ]at h;have h:=Y1q;refine dG hs λbD bC=>dG gB ZiW;rw[rI,rI,O8 y x]
   cases e:YSi with
   |true=>
    rw[e]at h;refine gz (oo e) ?_;exact(av bf bC d1 h.2).imp (congrArg (y::·)) id
   |false=>
    rw[e]at h;refine(ak y bD eg h.2).elim YBa YJ;replace e:=aQ Y3t (eT q e);exact YMd) a
theorem JW{a b:V}(h:YjZ):YU4:=by
 cases q:Yja with
 |false=>rfl
 |true=>have t:=JU _ _ _ h q;replace t:=aQ Z7v t;exact nb t
abbrev m5(l:Y3):Y1:=hR (∀a∈l,∀b∈l,Yn1) (∀a∈l,YpU)
abbrev j9(l:Y3):Y1:=l.Pairwise ZhQ
theorem aiT{l:Y3}{a b c:V}(C:m5 l)(aD:a∈l)(ah:b∈l)(ao:c∈l)(h:YU4)(h':eF c b=false):eF c a=false:=by
 rcases JV a b (C.2 a aD) Yd4 (C.1 a aD b ah)with e | e | e
 ·exact aa e h'
 ·rcases JV b c Yd4 (C.2 c ao) (C.1 b ah c ao)with bk | bk | bk
  ·exact aV bk h
  ·exact JW (JU _ _ _ e bk)
  ·replace bk:=aQ h' bk;exact nb bk
 ·replace e:=aQ h e;exact YMd
theorem JX{l l':Y3}(C:m5 l)(p:Ymi)(bI:j9 l')(r:j9 l):l'=l:=
 List.Perm.eq_of_pairwise (le:=ZhQ) (λa b aD ah ak av=>by
  rcases JV a b (C.2 a ZWk) Yd4 (C.1 a ZWk b ah)with e | e | e
  ·exact e
  ·replace e:=aQ av e;exact YMd
  ·replace e:=aQ ak e;exact YMd) bI r p
def kU(n:Nat)(t:YKB)(R:YIU):Y1:=KasT.rec (motive:=λO=>Y1) (λa=>R a) (λi j O ai=>i<n∧j<n∧∀b,YST) t
theorem kU.bind{n:Nat}{f:Zg6}{R:β→Y1}{t:YKB}{S:YIU}(h:kU n t S)(k:∀a,S a→kU n (f a) R):kU n ZbJ R:=by
 induction t with
 |ret a=>exact k a h
 |ask i j q ai=>exact⟨h.1,YGq,λb=>ai b (Y9D b)⟩
def m6(n:Nat)(p:ZB):Y1:=∀k,YGT<n
theorem m6.of{n:Nat}{p dV:ZB}(h:YAz)(az:0<n)(pm:ZL4):m6 n dV:=λk=>by
 refine ZEN
 cases e:dV[k]? with
 |none=>exact az
 |some x=>
  refine(Array.mem_iff_getElem?.mp (pm.mem_iff.mp (Array.mem_of_getElem? e))).elim ZjH;have q:=h j;replace q:=eT aM (aQ YNQ q);exact q
theorem SP{n:Nat}{p:ZB}(r:YAz)(f:Nat):∀k,kU n (kas_asc p f k) Y5o:=by
 induction f with
 |zero=>exact λk=>trivial
 |succ f ai=>exact λk=>⟨r _,r _,λb=>by cases b <;> first |exact trivial |exact ai (k+1)⟩
theorem aiU{n:Nat}(az:0<n)(f:Nat):∀(p:ZB)k q,YAz→kU n (kas_desc f p k q) λx=>m6 n x.1:=by
 induction f with
 |zero=>exact λp k q r=>r
 |succ f ai=>exact λp k q r=>⟨r _,r _,λb=>by
   cases b with
   |true=>
    show kU n (if YWk then _ else _) _;by_cases aF:YWk
    ·exact aj Ylx (ai _ _ _ YWs)
    ·exact aj Ylp ZDw
   |false=>
    exact⟨r _,r _,λb=>by
     cases b with
     |true=>exact r
     |false=>exact ZDw⟩⟩
theorem SQ{n:Nat}(az:0<n){m:Nat}{p:ZB}(r:YAz):kU n (kas_tail3 k m p) YsX:=
 kU.bind (SP YWs _ _) λO O=>YWs
theorem SR{n:Nat}(az:0<n){m:Nat}{p:ZB}(r:YAz):kU n (kas_descPart k m p) YsX:=
 kU.bind (aiU az _ _ _ _ r) λx aq=>by
  by_cases q:ZJ > 0
  ·exact aj ZU (SQ az (aq.of az YNR))
  ·exact aj ZN (SQ az aq)
theorem aiV{n:Nat}(az:0<n){m:Nat}{p:ZB}(r:YAz):kU n (kas_count m p) YsX:=
 kU.bind (SP r _ _) λk O=>by
  by_cases q:(k==m)=true
  ·exact aj ZU r
  ·refine Yh1;by_cases q:k > 1
   ·refine ZEL;exact⟨r _,r _,λb=>by
     cases b with
     |true=>exact r
     |false=>exact SR az YWs⟩
   ·exact aj ZN (SR az r)
theorem aiW{n:Nat}{p:ZB}(r:YAz)(f:Nat):∀a b,kU n (kas_place p k f a b) Y5o:=by
 induction f with
 |zero=>exact λa b=>trivial
 |succ f ai=>
  intro a b;by_cases q:a≥b
  ·refine ZEL;trivial
  ·exact aj ZN (⟨r _,r _,λc=>by cases c <;> exact ai _ _⟩)
theorem aiX{n:Nat}(az:0<n)(f:Nat):∀(p:ZB)k,YAz→kU n YVU Y5o:=by
 induction f with
 |zero=>exact λp k r=>trivial
 |succ f ai=>exact λp k r=>kU.bind (aiW r _ _ _) λl O=>ai _ _ (r.of az ZHd)
theorem aiY{n:Nat}(az:0<n):kU n YVV Y5o:=by
 have r:m6 n Yhg:=λk=>by
  refine aj YNQ (aT (q8) ?_);by_cases h:k<n
  ·refine aT YMt ?_;exact h
  ·refine aT ZWp ?_;exact az
 refine kU.bind (aiV az r) YOK;by_cases q:x.1<n
 ·exact aj ZU (aiX az _ _ _ aq)
 ·refine Yh1;trivial
theorem aiZ{n:Nat}{cmp:Nat→Nat→Y1n→YP}{lt:Y0y}(h:∀i j C,i<n→j<n→C YVi s→cmp i j C s){Q:Y9f}{R:YIU}(t:YKB)(a:kU n t R)(q:Q ZYy s):t.kasWp cmp Q s:=by
 induction t with
 |ret a=>exact q
 |ask i j k ai=>exact h i j _ a.1 a.2.1 (ai YVi (a.2.2 _) q)
abbrev y0(vs:Y3):Y1:=jd (vs.length<64) YVm (∀a∈vs,ZKr)
theorem ET{c:Nat}(h:a+50<c):a+2*8<c:=Nat.lt_of_le_of_lt (c0 (Y2:16≤50) a) h
theorem EU{c:Nat}(h:a+50<c):a+2*8+20<c:=Nat.lt_of_le_of_lt (c0 (Y2:36≤50) a) h
theorem ai0{b fin:Bool}{Q:Y1n}(bj:YQX)(ms:Y3):∀(jQ:Y3)(xs bf:Yn)(i:Nat),i≠0→md ms 8=true→md jQ 8=true→mq ms jQ=true→ZAs→a9 s.heap bf jQ→
  (YoC=true→Q fin s)→(YoC=false→Z6z)→KatLex prog w A b fin Q Yqk i s:=by
 induction ms with
 |nil=>intro jQ xs bf i af d eJ c r bI h _;exact jL r.jh ZTC
 |cons m ms ai=>
  intro jQ xs bf i af d eJ c r bI h h';refine r.un λv vs e b6 dv=>?_
  cases jQ with
  |nil=>exact mK bI.jh (d9 NH ZTC)
  |cons ab jQ=>
   refine ZGJ;replace c:=YgD;have c:=YTT;refine ZSJ;have ar:pre Y9N YKp=(YhM&&YoC):=rfl
   (rw[ar]at h;rw[ar]at h')
   rw[rI]at h'
   cases q:YhM with
   |true=>
    (rw[q,xY]at h;rw[q,xY]at h')
    replace c:=YIL;exact kat_yes (ai jQ vs fX (i+1) (k5 i) bC d1 c.2 dv JY h h')
   |false=>
    rw[q,NG]at h';replace c:=YIL;refine ZTD;have ai1:(b&&i==0)=false:=aX (beq_false_of_ne af) (Ygb);exact iy ai1 (kat_one _ _ (SK ab 8 8 _ _ _ _ _ bD eg c.2 Z3t b6 tj ZPu))
def uX(v:V):String:=v.casesOn "tuple" YYh (λO=>"int") (λO=>"str") YYh YYh YYh
theorem SS{v:Value}{m:V}(d:dI m 8=true)(r:Y3Y):Looks M s.heap (typeOf v) (YE (uX m)):=by
 cases m with
 |int i=>exact r.elim λt e=>aa e (λA Q E s k h=>wpAny_typeOf (T:="int") (typeIs_int s i t) h)
 |str i=>exact r.elim λt e=>e.elim λz e=>aa e.2 (λA Q E s k h=>wpAny_typeOf (T:="str") Zbn h)
 |tup ms=>exact r.gj.elim λa q=>q.elim λxs q=>YBD λn ak=>aa q.1 (λA Q E s k h=>wpAny_typeOf (T:="tuple") ⟨_,k _ _ ak,rfl⟩ h)
 |_=>exact YHS
theorem SU{v ov:Value}{m ab:V}{Q:Y1n}(bq:ZmI)(c:m4 m ab=true)(b6:Y3Y)(tj:aK s.heap ov ab)(h:Q (eF m ab) s):wpAny YR A (oneLt' true v ov) Q Y28 s:=by
 cases m with
 |int i=>refine(V.jM c).elim ZjJ;subst e;exact b6.elim λt e=>tj.elim λdg bk=>aa e (bk▸oneLt_int h)
 |str i=>
  refine(V.kr c).elim ZjJ;subst e;refine b6.elim λt e=>e.elim λz e=>tj.elim λdg bk=>bk.elim λk9 bk=>aa e.2 (bk.2▸oneLt_str ?_);have h:Q ZLH s:=h;rw[e.1,bk.1]at h;exact h
 |tup x=>exact absurd rfl (bq x)
 |_=>exact Y9T
theorem ai2{b:Bool}{Q:Y1n}(bj:YQX){m ab:V}{jQ:Y3}(d:md Y9N 8=true)(eJ:md YKp 8=true)(c:mq Y9N YKp=true)(ah:Y6G→ZmI)(r:a9 s.heap xs Y9N)(bI:a9 s.heap bf YKp)(h:Q (m3 Y9N YKp) s):KatLex prog w A b ZLN Q Yqk 0 s:=by
 refine aa r.length (aa bI.length (r.un λv vs e b6 dv=>ZGJ));replace c:=YgD;replace h:=aQ YMx h;have c:=YTT;refine ZSJ
 cases q:YhM with
 |true=>
  (replace c:=YIL;replace h:=YGm)
  refine kat_yes (ai0 bj ms jQ vs fX 1 Nat.one_ne_zero bC d1 c.2 dv JY (λar=>?_) λO=>h);have h:Z6z:=h;replace h:=aQ (SJ ms jQ ar) h;exact(decide_eq_decide.mpr ayo:decide (ms.length+1<jQ.length+1)=_)▸h
 |false=>
  (replace c:=YIL;replace h:=YGm)
  refine ZTD;show wpAny _ _ (oneLt' (b&&true) v ov) _ _ _;refine iy Z3A ?_
  cases b with
  |false=>exact kat_one _ _ (SK ab 8 8 _ _ _ _ _ bD eg c.2 Z3t b6 tj h)
  |true=>exact SU (ah rfl) c.2 b6 tj h
theorem Bz(r:Y3B){v:V}(af:YIB):aK s.heap Zeu v:=by
 refine(r.get af).elim λx q=>aj (ho) (dS q.1 ?_);exact q.2
theorem ai3{a b:V}(h:ZJz):uX a=uX b:=by
 cases a with
 |int i=>exact YOZ ZjK
 |str i=>exact YZw ZjK
 |tup i=>exact YOa λj e=>ZD7
 |_=>exact Y0L
theorem ai4{xs:Yn}(hd:∀a∈vs,ZmZ)(r:Y3B):∃fs:Yn,KatTups s.heap xs fs∧fs.length=vs.length∧∀f∈fs,∃x r,Z8X∧aK s.heap f x:=by
 induction vs generalizing xs with
 |nil=>exact aa r.jh (⟨[],KatTups.nil,rfl,λO hf=>absurd hf cS⟩)
 |cons v vs ai=>
  refine r.un λy bf e b6 dv=>(ai (λa aD=>hd a ZMR) dv).elim λfs q=>(hd v b3).elim λx z=>z.elim λuQ ev=>?_;clear hd r;subst ev;refine b6.gj.elim λa w=>w.elim λitems w=>YqH λn aA=>w.2.2.un λz zs qA Fe O=>?_;replace aA:=HG qA aA;refine aa e (aa w.1 (⟨z::fs,KatTups.cons aA rfl rfl rfl q.1,congrArg Y3m YG,λf yF=>?_⟩));rcases dz yF with e | yF
  ·exact⟨x,uQ,b3,aa e Fe⟩
  ·exact(Yq f yF).imp λfY h=>h.imp λbI h=>⟨eI _ h.1,h.2⟩
theorem ai5{a b:V}{l:Y3}(h:Yn1)(e:a=Yce):∃m,b=YD m:=by subst e;exact Fd (b:=b) h λws e O=>⟨ws,e⟩
theorem SV{n:Nat}(h:Ycl):∃v r,vs=v::r:=by cases vs with
 |nil=>exact absurd h YC
 |cons a l=>exact⟨a,l,rfl⟩
theorem ai6{E:Y8}(bj:YQX)(av:Ycl)(d5:YNq)(r:Y3B):
  ∃cN,ZlO∧
   Zlo:=by
 have hlen:=r.length;have mem:∀{i:Nat}{a:V},YIA=Y0l→a∈vs:=λh=>YUL;have mQ:2≤xs.length:=aa hlen av;have flat:∀T,T≠"tuple"→(∀a∈vs,uX a=T)→(∀a∈vs,∀x,a≠YD x)→∃cN,ZlO∧
   Zlo:=by
  intro T dJ aD ai7;refine⟨oneType',λQ aF=>kas_kind (T:=Y67) mQ Y8C (bne_iff_ne.mpr λe=>dJ (t8 e)) YSx aF,Zix⟩
  ·refine(pe aO).elim YES;have aE:Y7p:=aV hlen ((jJ af).elim Y6j);have e:=dy aE;exact(r.get e).elim λy q=>bN (c4 q.1 af) (fU (aD _ ZUg) (SS (d5.3 _ ZUg).1 q.2))
  ·exact cb (keyLt'_oneType ..) (SU (ai7 a Yn9) (YjA _ Yn9 _ ZUf) (Bz r af) (Bz r aM) ao)
 refine Yuv λv0 z=>z.elim λrest ev=>?_;have m0:Yq7:=ZD8;have qD:=λa aD=>YjA v0 m0 a aD
 cases v0 with
 |int x=>exact flat "int" YC (λa aD=>Yuz λO e=>YAn) λa aD y e=>Yuz ZjI
 |str x=>exact flat "str" YC (λa aD=>Yv1 YrV) λa aD y e=>Yv1 ZjI
 |tup t0=>
  have hd:∀a∈vs,ZmZ:=λa aD=>(ai5 YMu rfl).elim λl e=>by
   cases l with
   |nil=>exact absurd e (d5.3 a aD).2
   |cons x r=>exact⟨x,r,e⟩
  refine(hd _ m0).elim λx0 z=>z.elim λll fx=>?_;have same:∀x r,Z8X→dI x 8=true∧Ypk=uX x:=λx r aq=>by
   have ak:=qD _ aq;replace ak:=aQ ZfC (aQ Zbu (eT fx ak));have aP:=(d5.3 _ aq).1;replace aP:=aQ Yn3 aP;exact⟨D0 _ _ (cL aP).1,ai3 (cL ak).1⟩
  refine(ai4 hd r).elim λfs q=>⟨tuples' (v8 Ypk !=Zd3),λQ aF=>kat_kind (T:=YE Ypk) q.1 (aL YG ZNg) Y8C YSx aF,Zix⟩
  ·refine(Yq v aO).elim λx z=>z.elim λbI z=>?_;have h:=same x bI z.1;exact bW h.2 (SS h.1 z.2)
  ·have wU:=Yn9;have JZ:=ZUf;refine(hd _ wU).elim λx z=>z.elim λbg ig=>(hd _ JZ).elim λy z=>z.elim λgA fe=>?_;subst ig fe;refine(Bz r af).gj.elim λp w=>w.elim λit w=>(Bz r aM).gj.elim λdV uY=>uY.elim λuM uY=>YqH λn aA=>uY.2.1.elim λey m7=>ix w.1 (jg uY.1 ?_);have ci:=YjA _ wU _ JZ;refine kat_lt aA rfl m7 rfl (aa Y0D ZCm);replace ci:=aQ Zbu ci;replace ao:=aQ YHy ao;refine ai2 bj (mO _ 8▸D0 _ _ ((d5.3 _ wU).1)) (mO _ 8▸D0 _ _ ((d5.3 _ JZ).1)) ci (λah z qA=>?_) Y3O uY.2.2 ao;have:=(same _ _ wU).2
   (replace ah:=Au this ah;rw[qA]at ah)
   exact absurd rfl (bne_iff_ne.mp ah)
 |_=>exact vV (qD _ m0)
theorem a9.map{f:Zg9}{k:Y6i}(bJ:∀i∈l,aK h (f i) (k i)):a9 h Ymm (l.map k):=by
 induction l with
 |nil=>exact a9.nil
 |cons i l ai=>exact a9.cons (bJ i b3) (ai λj aM=>bJ j ZMS)
theorem ai8(vs:Y3)(v0:V):YaJ Ys2=vs:=by
 refine Hi YSV λi ak av=>aj YBW (gT YK8 (aT ZLm ?_));rfl
theorem ai9{v0:V}(C:YVm)(h0:Yq7):lO YYu:=by
 have mem:∀i:Nat,YJS∈vs:=λi=>by
  cases e:YIA with
  |none=>exact h0
  |some x=>exact et e
 exact⟨λx y h=>JW h,λx y z h h'=>aiT C (mem x) (mem y) (mem z) h h'⟩
theorem aja(h:vs.length<2):j9 vs:=by
 cases vs with
 |nil=>exact Hk
 |cons x l=>cases l with
  |nil=>exact YRH
  |cons y l=>exact absurd h (ye (fp 2 l.length))
theorem BA{n:Nat}(h:n<64):ZVy:=fZ (au YUx Y2)
theorem SW{p:ZB}(h:i<p.toList.length):ZKv:=(sq ..).trans (by refine eT (l9) (aT YU1 ?_);rfl)
theorem ajb{E:Y8}{P:Z6k}{n:Nat}(bj:YQX)(aA:Y0u=some ZSN)(r:Y3B)(d5:YNq)(h:∀h' bf fX,(∀b o,Y5X→YBH)→(∃e,Y6P=some (jZ bf e))→ZAn→YkT→j9 fX→P YJa Yx):
  wpAny YR A (Builtin.«list.sort» ⟨Y8l,[]⟩) P E s:=by
 have hlen:=r.length;have BB:xs.length<64:=aa hlen d5.1;obtain⟨aJ,y1⟩:∃aJ,(s.heap.update a Ymo).get? a=ZaY:=⟨_,get?_update_seq aA λO=>#[]⟩
 have Ff:∀b o,Y5X→Y9Y→YtY b=YB:=λb o ah e=>
  eu _ (eu _ (((km s.heap a Ymo).2 b ah).trans e))
 have uZ:YtY a=ZaY:=eu _ (eu _ y1);have J0:eU s.heap YZd:=λb o e t=>Ff b o (λcM=>Az xs n (c4 aA (cM▸e)▸t)) e;refine cb (list_sort_plain ..) (bd (listItems_at aA rfl (bd (listUpdate_at aA rfl (bd (seqEpoch_at y1 rfl (bd (wpAny_newTuple (bd (wpAny_newList YXw Z0)) YQb)))) (aj Y0D YQb) Z0))));show wpAny YR A _ P E {s with heap:=YZd};generalize SX:YZd=H at Ff uZ J0 ⊢;revert H;refine Y18;intro H SX Ff uZ J0;clear SX;have fin:∀(bf:Yn)(fX:Y3),a9 H bf fX→YkT→j9 fX→P YJa {s with heap:=H.update a ZTn}:=λbf fX gA pm mc=>by
  have s2:=km H a ZTn;exact h _ bf fX (λb o ah e=>(YDz b ah).trans (Ff b o ah e)) ⟨_,get?_update_seq uZ ZhB⟩ (gA.keep λb O e t=>(YDz b (λcM=>Az [] aJ (c4 uZ (aV cM e)▸t))).trans e) pm mc
 have b6:a9 H xs vs:=r.keep J0;by_cases qE:xs.toArray.size<2
 ·(refine cb ZRi (aa ZRi ?_))
  replace qE:=aQ Y0D qE;refine bd (wpAny_pure YGB);dsimp only;have J1:(arrOf (SortSt.mk' general' Zew #[] 7 none)).map Y1w=xs.toArray:=by
   show(xs.toArray.zip xs.toArray).map Y1w=xs.toArray;apply HB;simp[List.map_snd_zip]
  exact aa J1 (bd (seqEpoch_at uZ rfl (bd (listUpdate_at uZ rfl (cb ZRP (wpAny_pure (fin xs vs b6 Y3V (aja (aV hlen qE))))) Z0 (aj Y0D ZTQ)))))
 ·(refine cb ZRW (aa ZRW ?_))
  replace qE:=um Y0D qE;have av:Ycl:=aV hlen ZQz;have qw:0<xs.length:=aa hlen ZNg;refine(ai6 (s:=YNx) (prog:=prog) (w:=w) (E:=E) bj av d5 b6).elim λcN aR=>bd (aR.1 _ (Yuv λv0 z=>z.elim λO ev=>?_));obtain⟨bD,bC,d4⟩:=aiO (ai9 d5.2 (ZD8:Yq7)) (n:=xs.length) qw;have ask:(kas_sort xs.length).kasWp (kas_ask prog w A cN xs) (λp s'=>ZWr) YNx:=by
   refine aiZ (lt:=YYu) (n:=xs.length) (λi j C af aM ao=>?_) _ (aiY qw) Zn;have ig:=dy (aV hlen af:Y7p);have fe:=dy (aV hlen aM:j<vs.length);replace ao:=yj fe (OR ig ao);exact aR.2 i j _ _ C ig fe ao
  refine bd (wpAny_mono (kat_run (Q:=λsM s'=>∃p:ZB,arrOf sM=p.map (kas_item Zew)∧failedOf sM=none∧ZWr)
   rfl ZQz BB (λdV O O O a2 dB eb=>⟨dV,a2,dB,eb.1,eb.2⟩) ask) ?_ YEM)
  intro x s' aq;obtain⟨⟨⟩,sM⟩:=x;obtain⟨p,BC,hf,ar,es⟩:=aq;subst es;dsimp only
  (replace bD:=aj ar bD;replace bC:=aX ar bC;replace d4:=aX ar d4)
  refine aa ((kat_snds rfl BC)) (bd (seqEpoch_at uZ rfl (bd (listUpdate_at uZ rfl (iy hf (cb ZRP (wpAny_pure (fin _ (p.toList.map Ys2) (a9.map YES) ?_ ?_)))) Z0 (aj Y0D (aj YF (aj iv (aj d4 ZTQ))))))))
  ·have:=bC.mem_iff.mp af;replace this:=bL hlen (Dq G5 this);have ig:=dy this;exact dS ig (Bz (s:=YNx) b6 ig)
  ·have:=bC.map Ys2;replace this:=bL (ai8 ..) (DE hlen this);exact this
  ·refine xZ G7 Zeq;intro i j af aM gK;have ak:=bD i j (h9 gK) (by replace aM:=bL iv aM;exact aV d4 aM);have aJ:ZKv:=SW af;have aC:YTs=p.toList[j]:=SW aM;rw[aJ,aC]at ak;exact ak
theorem ajc{E:Y8}{xs:Z8}{Q:Y8}(hd:YwH)(aA:Y9Z)(dp:Q Y2C {s with heap:=s.heap.push {cls:=YE "dict_keyiterator",data:=ZY #[Y35,YBw,Z0k,Z0j]}}):wpAny YR A (pyIter Y35) Q E s:=by
 have dJ:s.TypeIs Y35 "dict":=Y9j
 refine wpAny_pyIter_slot dJ F.slot_dict_iter (wpAny_call_entry F.slot_dict_iter dJ F.entry_dict_iter (bd (bd (wpAny_notOrdered_dict dJ Zm))) (F.args_dict_iter_1 _));show wpAny _ _ (Builtin.Dict.showsAll d >>= _) _ _ s;refine ix (if_neg (dS hd h8)) (bd (wpAny_pure (bd (wpAny_dictEntries aA rfl (bd (wpAny_dictEpoch aA rfl (bd (wpAny_newObj_type (wpAny_pure ⟨_,rfl,"dict_keyiterator",_,Yt7,ab8.lookup,?_⟩)))))))));have e:(rawInt Y2N)=Z0k:=congrArg (λn:Nat=>Value.int Y0q 0) (AF xs);exact aa e.symm dp
theorem SY{E:Y8}{xs:Z8}{Q:Y5N}(hit:s.heap.IsKeyIter it d i xs.length ep)(aA:Y9Z){e:Z5y}(he:YEb=e)(h0:e=none→Zg∧Yso)(ak:∀x,e=YQ→∀h',h'.IsKeyIter it d (i+1) xs.length ep→YMQ→Q (some x.key) Yx):YNf:=by
 obtain⟨o,Fg,ao,hd⟩:=Yll;refine bd (wpAny_attempt (wpAny_callSpecial?_slot (name:=YD3) hit.typeIs ab8
  (wpAny_call_entry ab8 hit.typeIs F.entry_dict_keyiterator_next ?_ (F.args_dict_keyiterator_next_1 _))))
 refine bd (wpAny_pure (bd Y6I))
 first | refine Yhq | refine Yhr
 refine bd (wpAny_fieldsOf Fg hd ?_);have ajd:Builtin.Dict_items.ownsTuple "dict_keyiterator"=false:=YC
 refine aa ajd ?_;show wpAny _ _ (if Yxh then _ else _) _ _ s;refine cb (if_neg (h8:¬Yxh)) (bd (wpAny_pure (bd (wpAny_dictEntries aA rfl (cb Yln (bd (wpAny_pure (bd (wpAny_dictEpoch aA rfl (cb Yln Zm))))))))));dsimp only;refine iy he ?_
 cases e with
 |some x=>
  refine Y6I
  first | refine Yhq | refine Yhr
  refine bd (wpAny_isOneOf_keyiter hit.typeIs ?_);show wpAny _ _ (setField Y46 1 ZYh >>= _) _ _ s;refine bd (wpAny_setField Fg hd (show 1<4 by exact Y2) ?_);have ji:(ZZN).IsKeyIter it d (i+1) xs.length ep:=
   ⟨_,q7 _ Fg ZFb,Yup,by rw[NQ hd];rfl⟩
  refine bd (wpAny_holding (bd (wpAny_isOneOf_keyiter (s:={s with heap:=ZZN}) ji.typeIs ?_)));show wpAny _ _ (pure x.key) _ _ _;exact wpAny_pure (wpAny_pure ⟨_,rfl,wpAny_pure (ak x rfl _ ji YMJ)⟩)
 |none=>
  have S0:=h0 rfl;refine Y6I
  first | refine Yhq | refine Yhr
  show wpAny _ _ (setField Y46 0 Y7 >>= _) _ _ s;exact bd (wpAny_setField Fg hd (show 0<4 by exact Y2) (Ih (A:=A.in1) S0.1 λh' e k z=>bd (wpAny_isInstance (T:="StopIteration") (b:=true) z isSubtype_stop (wpAny_pure (S0.2 _ ZSe)))))
theorem aje{xs:Z8}(bJ:Zg)(I:Nat)(iA:d≠I):Walks prog w A I [I,d] [I] xs.length Zj5 (λi h=>h.IsKeyIter I d i xs.length ep∧YUs) where
 sub:=λb ah=>aL YCp b3
 frame:=λO O O st aR=>⟨YpR λo e=>aR I b3 o e,aR d YGY _ Zb⟩
 item:=λi s Q E af st dp=>by
  refine SY Y0f Zb (Eb Y2q) (λe=>cW e) λx e h' ji gB=>?_;exact dp _ h' s.toks ⟨_,aV e Y2q,rfl⟩ ⟨ji,gB.extBut _ _ iA Zb⟩ λb o ah e=>gB.extBut b o Zij e
 done:=λs Q E st dp=>SY Y0f Zb (q8.trans Yo2) (λO=>⟨bJ,λh' rJ=>dp h' s.toks λb o ah e=>rJ b o Zij e⟩) λx e=>Y4u
 self:=λO O O O st dp=>wpAny_pyIter_keyiter Y0f dp
theorem ajf{xs:Z8}(lo:YwH):KdlSrc prog w "dict" d d xs.length Zj5 (λh=>YUs) where
 type:=λO hm=>Zn7
 there:=λO hm=>⟨YkM,YkM⟩
 keep:=λO O hm aR=>aR d Zk _ hm
 notList:=YC
 notTuple:=YC
 hint:=λO O O O hm aF=>kdl_hint_dict Zn7 aF
 iter:=λO O bJ hm=>⟨_,_,(λO O aF=>ajc lo hm aF),aje bJ _ (ej YkM),⟨Y6l,eu _ hm⟩⟩
abbrev J2(x:Value):Y1:=∀{M:Model}{A:Around}{E:Y8}{s:Shared}{P:Y8}{pos:Pos}{l:Ydp},ZTc→wpAny M A (evalArgs x true l []) (λa s1=>wpAny M A (call x ([]++a.pos) a.kw) P E s1) E s→wpAny M A (callWith pos x [] l []) P E s
theorem Fh(n:String):J2 (ZK n):=λh w=>callWith_builtin h w
theorem y2(n:String):J2 Yci:=λh w=>ayc h w
abbrev oK(nm:String)(x:Value):Y1:=hr YnV (Yhx=YQ) Yk1 (J2 x)
abbrev S1:=V→YCh
theorem ajg{c:bP}{nm:String}(B:Ynk){n:Str}{p:Pos}{es:Ye}{R:Ys}(K:ZG)(L:ZI)(aq:n=Y3c)(hs:Y5f)(aR:YGF)(hd:Y5v)(h:gH g k env c.ns r es mh R)(go:∀{A:Around}{s:Shared}{m:ag}{vs:Y3}{xs:Yn},Z5→Y4n→Y3B→R vs m→fW g A cX s m (call x xs) Zi):Z3v:=λA s aG ae aN=>by
 subst aq;exact wpAny_Call_NameR (AR K.1 ae aN YN1 hd B.1 B.2 B.3 (ix YDk (B.4 YAR (uH lh (YPI λO O z=>z.elim λO z=>Y0g λO y=>nE z.2 (go aG z.1 y.1 y.2))))))
abbrev u0(x:Value)(P:S1):Y1:=∀{g:G}{H:ih}{k:Nat}{A:Around}{s:Shared}{mh:ag}{v:Value}{a:V}{Q:Yj},ZG→Z5→YU→aK s.heap v a→P a mh Q→fW g A cX s mh (call x [v]) Zi
def qF{nm:String}(B:Ynk)(P:S1)(ok:u0 x P):dj:=lL ⟨λO c e=>pE Zf7 (λy=>decide (Y1v=Y3c)) λy=>Zj,λO vs m Q=>one vs False λa=>P a m Q⟩ Zis
 λ{g H k env c r mh e es Q}K L hm h=>j8 hm λy ao he=>y.2.1.elim λp z=>z.elim λpos z=>by
  exact aT z (ajg B K L Ynq YNp.1 YNp.2.1 YNp.2.2 ZDC λaG ae bg q=>rr q λO e q=>YaR λO w=>aV YIC (ok K aG ae w.2 q))
def Fi(a:V)(m:ag)(Q:Y7F):Y1:=a.casesOn False Y3z Y3z Y3z (λp=>AU m p λO O vs=>YFW) Y3z Zkn
theorem S2{a:V}{Q:Y7F}{P:Y1}(h:Fi a mh Q)(dC:∀vs,a=ZZ→YFW→P)(du:∀p t vs,a=Y0V→mh p=Y1h→YFW→P):P:=by
 cases a with
 |ref p=>exact AU.casesOn h λt vs h q=>du p t vs rfl h q
 |tup vs=>exact dC vs rfl h
 |_=>exact h.elim
theorem S3:oK "len" (ZK "len"):=YZJ
theorem ajh:oK "tuple" Y2i:=YIm
theorem aji:oK "list" Y4e:=YIm
theorem ajj:oK "sum" Z0H:=YZJ
theorem ajk:oK "max" Z0F:=YZJ
theorem ajl:oK "int" (YE "int"):=YIm
theorem ajm:oK "range" YQK:=YIm
theorem y3:oK "sorted" YJZ:=YZJ
theorem Fj:oK "set" YCC:=YIm
theorem S4:oK "dict" YA7:=YIm
theorem S5(r:Y0z)(hz:Y2a):Yta<YQS:=by rw[eN,r.length];exact fit hz
theorem S6(r:Y0z):Yta=YzR:=aX Y0D (congrArg _ r.length)
def i4:dj:=qF S3 (λa m Q=>Fi a m λvs=>ux Y2a (YI YzR) m Q) λK aG ae bz h=>S2 h
 (λO e q=>Yx3 λO w=>w.elim λO w=>YIC▸len_tuple ZSb (S5 Y3O YDu) ((S6 Y3O).symm▸Yn8))
 (λO O O e hm q=>YJ2▸ae.list hm λO O aA bg=>Calls.call_len_list YDS (S5 bg YDu) ((S6 bg).symm▸Yn8))
def nT:dj:=qF ajh (λa m Q=>Fi a m λvs=>D5 Y2a Y7o ZZ m Q) λ{g H k A s mh v a Q}K aG ae bz h=>S2 h
 (λO e q=>Yx3 λO w=>w.elim λO w=>YIC▸call_tuple_tup ZSb (qj ae (aV w.1 YUP) YDv.2))
 (λO t O e hm q=>YJ2▸ae.list hm λO O aA bg=>call_tuple_list YDS (λh' b5=>hy.go YCT (D9 (X:=cX) (s:=Yx) (t:=s.toks) YCg Yhu YDv.1 YDv.2)) (H7 bg YDu))
theorem BD(ae:YU)(b5:Y7m)(cR:Y57)(aA:Y4R)(az:YDy)(aE:YX1=Y85)(r:ZAp)(h:alloc mh YC3 Q):
  hy g cX s mh Zi YA s':=
 (h a (ae.fresh az)).elim λt h=>⟨_,ae.new (t:=t) (o:=YC3) b5 az cR aA ⟨xs,ep,aE,r⟩,Step.new b5 az,_,Y7O,h⟩
theorem ajn{n:Nat}{acc:Y1N}(af:ItemsOf (λi v=>∃t,v=YI (Y6m+i*1) t) acc n):a9 h acc.toList YDl:=by
 have e:acc.toList=Y8K λi=>acc.getD i Y7:=by
  refine Hi (aL YF (aL fN af.1)) λi ak av=>aL YBW (dS YK8 ?_);simp at ak;simp[Array.getD,ak]
 refine aj e (a9.map λi hm=>?_);have hm:=jK hm;have aE:i<acc.size:=aa af.1 hm;refine(af.2 i acc[i] ZWK).elim λt jy=>⟨t,?_⟩
 refine aj (sq) (aT ZWK ?_);exact jy.trans (aT (Int.zero_add ..) (aT (Int.mul_one ..) rfl))
theorem ajo{n:Nat}(h:YB5):Builtin.Range.small 0 Y0q 1=true:=small_one YC YC Z5l Z4Z
def ajp(a:V)(m:ag)(Q:Y7F):Y1:=a.casesOn False Y3z Y3z Y3z (λp=>∃t vs,m p=Y1h∧YFW) (λn=>YB5∧Q YDl) Zkn
theorem ajq:u0 Y4e λa m Q=>ajp a m λvs=>Y2a∧ZEi:=λ{g H k A s mh v a Q}K aG ae bz h=>by
 cases a with
 |ref p=>
  exact h.elim λt h=>h.elim λvs h=>gz (bz.fP rfl) (ae.list h.1 λO O aA bg=>call_list_seq p Zk aA rfl rfl (λh' O b5 az=>BD (s':=Yx) ae b5 rfl rfl Y1f az Yhu Y9D) (H7 bg YGq))
 |tup vs=>exact bz.gj.elim λp w=>w.elim λxs w=>YqH λn aA=>YIC▸call_list_seq p Y62 aA rfl rfl (λh' O b5 az=>BD (s':=Yx) ae b5 rfl rfl Y1f az (ZdV Y64) h.2) (H7 Y3O h.1)
 |kM n=>
  exact bz.elim λp w=>YNc λt1 w2=>w2.elim λcy w2=>w2.elim λt3 aA=>gz w.1 (call_list_range (n:=n) Y2l aA (ajo h.1) Qf (au h.1 Y2) λh' tk acc O b5 az af=>BD (s':=Y0w) (xs:=acc.toList) ae b5 rfl rfl Y1f (az.trans (dU Array.toArray_toList rfl)) (ajn af) Y9D)
 |_=>exact h.elim
def BE:dj:=qF aji _ ajq
def intsOf(vs:Y3):Y8a:=vs.map λv=>Zcv
theorem Fl(aO:YI9)(r:Y0z)(i:Nat)(v:Value)(e:YEb=Ym):∃t,v=YI YP3 t:=by
 replace e:=aQ (q8) e;have af:Y7p:=ZCR;refine Yuy λn q=>Yax λx w=>?_;replace w:=fU q w;have aC:YP3=n:=by
  have ck:vs[i]=V.int n:=by replace q:=eT Y2q (aQ (ho) q);exact q
  (rw[intsOf];refine aj (ho) (aT (gy) (gT Y2q ?_)))
  show vs[i].mb 0 id=n;rw[ck];rfl
 exact aa aC (aV (c4 w.1 e) w.2)
theorem S7{b n:Nat}(aD:a<n){o:Obj}(az:n=h.objs.size)(ah:ZIN):b<(h.push o).objs.size:=by
 subst az;refine aL YBJ ?_;rcases YLU with e | ah
 ·exact aa e YDo
 ·exact YCp▸p9 aD
theorem S8{ajr:Obj}(b5:∀b o,b∉[s.heap.objs.size]→(s.heap.push ajr).get? b=YB→YGp):Y9E:=λb o e=>b5 b o (λh=>ej YDB Y1T) YUy
theorem ajs:u0 Z0H λa m Q=>lst a m λO O vs=>YI9∧Q (YI (intsOf vs).sum) m:=λ{g H k A s mh v a Q}K aG ae bz h=>jN h λp t vs e hm q=>by
 refine ZPg;have aE:=YDS;have ne:ZXi:=Yjo;refine call_sum_walkG (wpAny_pyIter_list aE ⟨s.heap.objs.size,_,_,_,_,_,λi=>YP3,rfl,ab9 (A:=A.in1) Ya3 _ p ne Z1,Znn,Zhh,Fl q.1 bg,λh' tk dg b5=>?_⟩);have aJ:Y2N=(intsOf vs).length:=by(refine aj Y0D (aj bg.length ?_);rw[intsOf];exact(bt ..).symm)
 (refine aT (preSum_getD ..) (aa aJ (gT N0 ?_)))
 have ax:=S8 b5;exact⟨mh,ZDp,Z86,_,Y4G,q.2⟩
def S9:dj:=qF ajj _ ajs
theorem ajt:u0 Z0F λa m Q=>lst a m λO O vs=>YI9∧vs≠[]∧∀i,YeU:=λ{g H k A s mh v a Q}K aG ae bz h=>jN h λp t vs e hm q=>by
 refine ZPg;have aE:=YDS;have pos:0<Y2N:=aL Y0D (aL bg.length (List.length_pos_iff.mpr YG));refine call_max_walk (wpAny_pyIter_list aE ⟨s.heap.objs.size,_,_,_,_,_,λi j=>decide (YxW j 0<YP3),rfl,ab9 (A:=A.in1) Ya3 _ p (Yjo:ZXi) Z1,Znn,Zhh,pos,λi j Jk aju s' Q' E' af aM aF=>?_,λv h' tk aO b5=>?_⟩)
 ·exact(Fl q.1 bg i Jk af).elim λt jy=>(Fl q.1 bg j aju aM).elim λu rF=>ix jy (jg rF (gt_int aF))
 ·refine(Fl q.1 bg _ v aO).elim λt jy=>ZEa;have ax:=S8 b5;exact⟨mh,ZDp,Z86,_,Y4G,Yq _⟩
def ajv:dj:=qF ajk _ ajt
def Ta:dj:=qF ajl (λa m Q=>a.mb False λi=>YeU) λK aG ae bz h=>Jy h λn e q=>Yx4 λt jy=>gz jy (call_int_int (qj ae Y4G q))
def qG:dj:=qF ajm (λa m Q=>a.iU False λn=>Q YJf m) λ{g H k A s mh v a Q}K aG ae bz h=>Bj h λn e q=>Yx4 λt jy=>by
 refine gz jy (call_range_1 ?_);have b5:=hH s.heap {cls:=YQK,data:=ZY #[YI 0 s.toks,YI Y0q t,YI 1 YBI]};exact⟨mh,ae.grow b5 rfl rfl,Yeu,YJf,⟨s.heap.objs.size,rfl,s.toks,t,YBI,ZW⟩,q⟩
def ajw(v:V)(m:ag):Y1:=v.oi False λa=>∃t vs,YVk
def ajx(v:V)(m:ag):Y1:=v.oi False λa=>∃t c es,Ymv
abbrev Fm(T:String)(p:Yj):Y1:=∀{g:G}{m:ag}{s:Shared}{x:Value}{v:V},Y4n→Y2m→p v m→s.TypeIs x T∧∀a,Y86→∃ob,And (Y0u=YpL) (ob.dict=none)
theorem Fn:Fm "list" ajw:=λae bz h=>yC h λa e h=>h.elim λt h=>h.elim λvs hm=>ae.list hm λxs ep aA O=>ZnH
theorem J3:Fm "dict" ajx:=λae bz h=>yC h λa e h=>h.elim λt h=>h.elim λc h=>h.elim λes hm=>ae.dict hm λxs ep aA O O=>ZnH
abbrev Tb:=V→YRA
abbrev ajy(id:String)(P:Tb):Y1:=∀{g:G}{H:ih}{k:Nat}{A:Around}{s:Shared}{m:ag}{x:Value}{v:V}{xs:Yn}{vs:Y3}{Q:Yj},ZG→Z5→Y4n→Y2m→Y3B→Z6X→fW g A cX s m (call YbP Yqe) Zi
def u1(nm:String){T id:String}{p:Yj}(ty:Fm T p)(eB:Slot T Y3c id)(ajz:typeOf YbP=pure (YE "method_descriptor"))(rx:PlainAttrs T)(P:Tb)(ok:ajy id P):kR:=
 ⟨⟨λO O e=>YZp none λx=>cond (YEF==Y3c) Zag none,p,λO v vs m Q=>Z6X⟩,
 λ{g H k env c r mh e x es Q}K L hm h=>E2 (f:=Zjf) hm λn apos pos q e3 ak av aP da=>by
   (refine aT e3 (aa Y1e ?_))
   refine QR ak av aP da (h.mono λa m q A s x pl s0 m0 aG ae aN bg st=>?_);have t:=ty ae bg q.1;refine getMethod_builtin t.1 rx eB ajz t.2 (jL (nJ aP ..) ?_);refine callWith_builtin YAR (uH lh ((rp q.2 aG ae aN).mono λO O w=>w.elim λO w=>YqI λO u=>nE Zb7 (ok K aG w.1 (bg.keep w.2.4) u.1 u.2))),
 λ{H c e y}hm=>E2 (x:=y.1) (es:=y.2) (f:=Zjf) hm ZgF⟩
def zero{α:YKO}(vs:Y3)(d f:α):α:=vs.casesOn f YYZ
theorem ajA{f:Y1}{P:Y1}(h:zero vs False f)(k:vs=[]→f→P):P:=by
 cases vs with
 |nil=>exact YmQ
 |cons _ _=>exact h.elim
def mr:kR:=u1 "append" Fn abV F.type_list_append N7 (λv vs m Q=>one vs False λx=>lst v m λa t l=>ux Yml Y7 (upd m a (t,Y5 (l++[x]))) Q) λK aG ae bg rs h=>
 rr h λx e h=>jN h λa t l bx hm q=>YOt λy w=>gz YCs (gT w.1 (adX ae hm YDu w.2 YDv))
def Fo:kR:=u1 "extend" Fn F.slot_list_extend F.type_list_extend N7 (λv vs m Q=>one vs False λx=>lst v m λa t l=>lst x m λO O l'=>ux (l.length+l'.length≤1000000) Y7 (upd m a (t,Y5 (l++l'))) Q) λK aG ae bg rs h=>
 rr h λx e h=>jN h λa t l bx hm h=>jN h λb u l' cM ah q=>YOt λy w=>by(refine gz YCs (gT w.1 (aa (w.2.fP cM) ?_)));exact adY ae hm ah YDu YDv
def ajB:kR:=u1 "pop" Fn NL F.type_list_pop N7 (λv vs m Q=>zero vs False (lst v m λa t l=>wu Yml (l[ZTg]?) (upd m a (t,Y5 (l.eraseIdx ZTg))) Q)) λK aG ae bg rs h=>
 ajA h λe h=>jN h λa t l bx hm q=>wu.casesOn q λil x IW IX=>by subst e;exact gz YCs (gT rs.jh (ad0 ae hm il IW IX))
def ajC:kR:=u1 "pop" Fn NL F.type_list_pop N7 (λv vs m Q=>one vs False λz=>z=YPi∧lst v m λa t l=>Yml∧l.casesOn False λx r=>Q x (upd m a (t,Y5 r))) λK aG ae bg rs h=>
 rr h λz e h=>jN h.2 λa t l bx hm q=>YOt λy w=>(h.1▸w.2:aK _ y YPi).elim λtk w2=>by
  (refine gz YCs (gT w.1 (aa w2 ?_)))
  cases l with
  |nil=>exact YHe
  |cons x r=>exact ad1 ae hm (NX q.1) q.2
def wV:kR:=u1 "get" J3 F.slot_dict_get F.type_dict_get N8 (λv vs m Q=>two vs False λx y=>lb v m λO O c es=>ux YUm ((c8 es x).getD y) m Q) λK aG ae bg rs h=>
 uI h λx y e h=>s6 h λa t c es bx hm q=>Yx6 λp w=>w.elim λdV w=>gz YCs (gT w.1 (aef YCJ ae aG hm YDu Y3j Y3O YDv))
def Tc:kR:=u1 "setdefault" J3 ax4 F.type_dict_setdefault N8 (λv vs m Q=>two vs False λx y=>lb v m λa t c es=>Y6N∧YUm∧(c8 es x).elim (Q y (upd m a (t,Y9 c (eE es x y)))) λv=>Y39) λK aG ae bg rs h=>
 uI h λx y e h=>s6 h λa t c es bx hm q=>Yx6 λp w=>w.elim λdV w=>gz YCs (gT w.1 (aeg YCJ ae aG hm q.1 YG Y3j Y3O Yq))
def ajD:kR:=u1 "pop" J3 F.slot_dict_pop F.type_dict_pop N8 (λv vs m Q=>one vs False λx=>lb v m λa t c es=>Y6N∧YUm∧∃y,c8 es x=Y06∧Q y (upd m a (t,Y9 c (qi es x)))) λK aG ae bg rs h=>
 rr h λx e h=>s6 h λa t c es bx hm q=>ZXm λy ck=>YOt λp w=>gz YCs (gT w.1 (aeh ae aG hm q.1 YG w.2 ck.1 YGN))
def Td:Op:=⟨λO O O=>YXN,ZgG⟩
theorem Te{c:bP}{es:Ye}{P:Y1}(hm:YXN=Y2K)(h:gH g k env c.ns r es mh Y28):P:=by replace h:=ZKh;exact Z4D
theorem ajE:Td.pv:=⟨ZgR,ZgR⟩
def Tf:dj:=⟨Td,ajE⟩
def wW(vs:Y3)(m:ag)(Q:Yj):Y1:=YNq∧∀l,l.Perm vs→j9 l→alloc m Ybf Q
abbrev BF(s:Shared)(vs:Y3)(xs:Yn)(s':Shared):Y1:=hr Y57 Y4R Y7m ZAp
theorem ajF(h:YfX):a+1+1+50<9900:=DS (x:=52) h Y2
theorem Tg{P:Y8}(aG:Z5)(ao:wpAny Yu A.in1 ZJw (λxs s1=>∃vs,YNq∧BF s vs xs s1∧∀h' bf ep fX,YlR→h'.get? s1.heap.objs.size=some (jZ bf ep)→ZAn→YkT→j9 fX→P YQ9 YEK) lH s):WP g A ZJM P s:=by
 refine call_function_entry kind_sorted plain_sorted entry_sorted (args_sorted1 _) Yg;intro aAC aAD aAE;refine bd (m:=checkCount "sorted" 1 1 _) (wpAny_pure (bd (wpAny_mono ao (λxs s1 z=>?_) Y33)));obtain⟨vs,d5,z⟩:=z;refine Y0K;intro aAF aAG;refine bd (wpAny_newList ?_ (aj z.1.4.length (BA d5.1)));have aA:(s1.heap.push YX9).get? s1.heap.objs.size=some YX9:=ZW;refine bd (wpAny_holding (wpAny_call_entry slot_list_sort Y9j entry_list_sort ?_ (args_list_sort _)));have rK:=hH s1.heap YX9;refine ajb (s:={s1 with heap:=s1.heap.push YX9}) (vs:=vs) (ajF aG.2) aA (z.1.4.keep (.of rK)) d5 λh' bf fX dC bb gA pm mc=>⟨Y7,rfl,wpAny_pure ⟨_,rfl,bb.elim λep bb=>z.2 h' bf ep fX (λb o e=>dC b o Y6M (rK b o e)) bb gA pm mc⟩⟩
theorem J4(aG:Z5)(ae:YU)(ao:wpAny Yu A.in1 ZJw Z34 lH s)(h:wW vs mh Q):fW g A cX s mh ZJM Zi:=
 Tg aG (wpAny_mono ao (λO s1 z=>⟨vs,h.1,z,λh' O O fX b5 bb gA pm mc=>hy.go (Step.grow z.3) (BD (s':=YEK) (ae.grow z.3 z.1 z.2) b5 rfl rfl Y1f bb gA (h.2 fX pm mc))⟩) Y33)
theorem ajG(ae:YU)(e:Y3w)(hz:Y2a):wpAny Yu A Yis Z34 lH s:=ae.list e λxs ep aA bg=>by
 have b5:hU s.heap ((s.heap.push YHl).update s.heap.objs.size (l7 (·++Z1))):=λb o q=>by
  have fQ:=YkN;refine aj (aca _ _ _ _ YU8) (aj (Heap.get?_push_ne _ _ _ YU8) ?_);exact q
 exact collect_list (vs:=xs) YDS ⟨rfl,rfl,b5,Yhu⟩ ZET
theorem ajH(b5:Y2U){xs:Z8}(r:Y4x):a9 h' (xs.map (·.key)) Y9m:=by
 induction es generalizing xs with
 |nil=>rw[show YNl from r];exact a9.nil
 |cons m es ai=>exact r.un λe e6 ex ak av aP bI=>aa ex (a9.cons (av.keep b5) (ai bI))
theorem J5{acc:Y1N}{xs:ZC}{f:Zg9}(af:ItemsOf (λi v=>∃e,Yqn∧v=f e) acc xs.length):acc.toList=xs.map f:=by
 refine Hi (aL YF (aL iv af.1)) YOG;replace ak:=bL iv ak;replace av:=bL YF av;refine(af.2 i acc[i] (od ak)).elim λe w=>?_;replace w:=eT ZLm w;exact aL YBW (aj (Array.getElem_toList ..) (aj w.2 (bW (cu w.1) rfl)))
theorem ajI{c:Nat}(lo:YEW)(bJ:Zg)(ae:YU)(e:YVp)(hz:YUJ):wpAny Yu A Yis (BF s Y9m) lH s:=ae.dict e λxs ep aA bg D=>
 kdu_collect (ajf (xs:=xs) (ep:=ep) Ygq) bJ aA ZET λh' tk acc b5 af=>⟨rfl,rfl,b5,aj (J5 af) (ajH Y64 bg)⟩
theorem ajJ:u0 YJZ λa m Q=>lst a m λO O vs=>wW vs m Q:=λK aG ae bz h=>jN h λp t vs e hm q=>YJ2▸J4 aG ae (ajG ae hm (au (h9 YWm) Y2)) q
def Fp:dj:=qF y3 _ ajJ
theorem ajK:u0 YJZ λa m Q=>lb a m λO O O es=>wW Y9m m Q:=λK aG ae bz h=>s6 h λp t c es e hm q=>YJ2▸J4 aG ae (ajI YCJ Y2l ae hm (by have:=YWm;replace this:=ZBm;exact au (h9 this) Y2)) q
def ajL:dj:=qF y3 _ ajK
abbrev ajM(h:Heap)(es:dm)(i:Nat)(k:Str)(v:Value)(P:Y1):Y1:=∀(n:Nat)(m:V),YHx=Y6f→YD7=some (ZM,m)→ZBI→P
abbrev ajN(h:Heap)(es:dm)(i:Nat)(k:Str)(v:Value):Y1:=∀P:Y1,ajM h es i k v P→P
abbrev u2(h:Heap)(iN:YCL)(es:dm):Y1:=hR (iN.length=es.length) (∀(i:Nat)(k:Str)(v:Value),iN[i]?=ZaV→ajN h es i k v)
variable{iN:YCL}
theorem u2.keep(b5:Y2U)(x:YI2):u2 h' iN es:=⟨x.1,λi k v e=>(x.2 i k v e) _ λn m a b c=>(λO bA=>bA n m a b (c.keep b5))⟩
abbrev ajO(x:Value)(v:V)(P:Y1):Y1:=∀(n:Nat)(s:Str)(t:Tok),v=ZM→YBQ→x=YJp→P
abbrev ajP(x:Value)(v:V):Y1:=∀P:Y1,ajO x v P→P
theorem ajQ{v:V}(aO:YEB)(r:Y2G):ajP x v:=(V.kr aO).elim λn e=>(YUQ:ZBJ).elim λt q=>q.elim λs q=>(λO bA=>bA n s t e q.1 q.2)
abbrev ajR(prog:Program)(w:World)(h:Heap)(xs:Z8)(es:dm)(P:Y1):Y1:=∀(iN:YCL),Z6l→(∀e∈xs,ZmU)→YI2→P
abbrev ajS(prog:Program)(w:World)(h:Heap)(xs:Z8)(es:dm):Y1:=∀P:Y1,ajR prog w h xs es P→P
theorem ajT{xs:Z8}(hs:∀e∈es,ZLq)(r:Y4x):ajS prog w h xs es:=by
 induction es generalizing xs with
 |nil=>exact(λO bA=>bA ([]) (aa Y2O YO) (λO he=>ZDQ) ⟨rfl,λO O O e=>absurd (et e) cS⟩)
 |cons m es ai=>
  refine r.un λe e6 ex ak av aP bI=>(ai (λe he=>hs e YU5) bI) _ λiN p q kv=>(ajQ (hs m b3) av) _ λn s t em wX e3=>?_;have bJ:e.hash=Yaq s:=by
   refine aj ak (aX em ?_);show YlT=_;refine ZPD;rfl
  have aR:YyD s e.key=true:=aa e3 ZbB;refine aa ex ((λO bA=>bA ((s,e.val)::iN) (.cons aR rfl p) (λx aq=>YJA (λq=>aa q (⟨s,aR,bJ⟩)) λaq=>q x aq) ⟨congrArg Y3m kv.1,λi k v ig=>?_⟩))
  cases i with
  |zero=>
   have ig:=gQ Yix;exact(λO bA=>bA n m.2 (aV ig.1 wX) (congrArg some (iF em rfl)) (aV ig.2 aP))
  |succ i=>exact(kv.2 i k v ig) _ Zja
theorem nodup_keys(x:YI2)(bZ:YEf):(iN.map Yh).Nodup:=by
 refine xZ Di Zeq;intro i j af aM gK e
 (replace af:=bL YF af;replace aM:=bL YF aM)
 replace e:=aQ YBW (bL YBW e);refine(x.2 i _ _ Y2q) _ λn m wX ig O=>(x.2 j _ _ ZLk) _ λey ab ajU fe O=>?_;have fq:=AA wX (aa e ajU);have a1:Y9m[i]?=YXF:=by rw[gy,ig];rfl
 have a2:Y9m[j]?=YXF:=by refine aj (gy) (aX fe (fH fq ?_));rfl
 exact ej gK ((xX (aL YF (aV x.1 af)) bZ).mp (a1.trans a2.symm))
theorem J6{xs:Z8}(aA:YUs)(r:Y4x)(D:Ylm):∃iN,h.DictAt YHT d iN ep∧YI2:=
 (ajT (prog:=prog) D.2 r) _ λiN p q kv=>⟨iN,⟨_,_,aA,YtG,rfl,λe he=>q e Z3n,p,nodup_keys kv D.1⟩,kv⟩
theorem ajV{xs:Z8}{es:dm}(p:Z6l)(aR:∀e∈xs,ZmU)(x:YI2):Y4x:=by
 induction p generalizing es with
 |nil=>cases es with
  |nil=>exact d2.nil
  |cons _ _=>exact absurd x.1 ZFd
 |cons ak av aP ai=>
  rename_i e kv xs iN
  cases es with
  |nil=>exact absurd x.1 Y7s
  |cons m es=>
   refine(x.2 0 kv.1 kv.2 rfl) _ λn v wX ig bz=>(acb ak).elim λt jy=>(aR e b3).elim λoq uY=>(acb uY.1).elim λdg ajW=>?_;have fx:m=(ZM,v):=Yix;have aO:ZMr=e.hash:=by
    refine dU fx (aL uY.2 (bW ((axR (cA ajW jy)).1:oq=kv.1) ?_));show YlT=_;refine ZPD;rfl
   exact d2.cons aO.symm (fx▸jy▸aK.ofStr wX t) (fx▸av▸bz) (ai (λe he=>aR e YU5) ⟨oc x.1,λi k v e=>(x.2 (i+1) k v e) _ Zja⟩)
theorem ajX(hw:g.w=w)(hd:h.DictOf YHT a iN)(x:YI2)(D:Ylm):qf g h mh a YEw:=by
 obtain⟨o,xs,ep,aA,ao,hd,aR,ar,az⟩:=hd;obtain⟨m2,lj,iZ⟩:=ao;obtain⟨cl,oL,uj,eB⟩:=o;dsimp only at m2 lj iZ hd;subst m2 lj iZ hd;exact⟨xs.toList,ep,aA,aa hw (ajV ar (λe he=>aR e (Array.mem_toList_iff.mp he)) x),D.1,D.2⟩
theorem ajY:u0 YA7 λa m Q=>lb a m λO O c es=>c=1∧YUJ∧alloc m YEw Q:=λ{g H k A s mh v a Q}K aG ae bz h=>s6 h λp t c es e hm q=>by
 obtain⟨rfl,hz,q⟩:=q;refine gz YT8 (ae.dict hm λxs ep aA bg D=>Yuc λiN z=>kt_call_dict (ae.ys YCJ hm) z.1.dictOf ZEe λh' u3 gB=>?_);have b5:Y9E:=λb o e=>gB.extBut b o Y6M YUy;exact(q _ YKq).elim λt q=>⟨_,ae.new (s':=Yx) (t:=t) (o:=YEw) b5 Y1f rfl rfl (ajX rfl u3 (Y9e Y64) D),Step.new (s':=Yx) b5 Y1f,_,Y7O,q⟩
def ajZ:dj:=qF S4 _ ajY
def wY(p:Y6A):V:=YD [p.1,p.2]
theorem Th{f:YIV}{b:β}(h:Ymm[i]?=Y6e):∃a,Y54=Y0l∧b=f a:=by
 replace h:=ZBn
 cases e:Y54 with
 |none=>replace h:=YL2;exact Y08
 |some a=>replace h:=YL2;exact⟨a,rfl,Y5s⟩
theorem a9.aj0{xs:Yn}(aE:Yqj)(af:∀(i:Nat)(x:Value)(v:V),Y3y→YIB→Y2G):Y0z:=by
 induction vs generalizing xs with
 |nil=>rw[p5 aE];exact a9.nil
 |cons v vs ai=>cases xs with
  |nil=>exact absurd aE ZFd
  |cons x xs=>exact a9.cons (af 0 x v rfl rfl) (ai YWJ λi x v e bk=>af (i+1) x v e bk)
theorem aj1{v:Nat}(bJ:Zg)(ae:YU)(e:Y0d=YpD)(hz:YUJ)(aO:s.heap.IsItemsView v a):
  wpAny Yu A (collect (Y0 v)) (BF s ZNK) lH s:=ae.dict e λxs ep aA bg D=>Yuc λiN z=>
 kdx_collect bJ aO z.1 ZEe λh' tk as b5 J7 G=>⟨rfl,rfl,b5,a9.aj0 (aL YF (aj YF (aj J7 Z4))) λi x v aJ aC=>by
  refine(Th aJ).elim λb cM=>(Th aC).elim λm em=>?_;obtain⟨key,ax,y,il,ck,gD⟩:=G.pairs i b cM.1;exact(Z3 i ax y il) _ λn u dD w2 kx=>(acb ck).elim λdg bq=>aj cM.2 (aL em.2 (bW (c4 em.1 w2:m=(ZM,u)) (iz.HK ⟨b,[key,y],rfl,⟨0,gD⟩,a9.cons (aa bq (aK.ofStr dD dg)) (a9.cons (kx.keep Y64) a9.nil)⟩ rfl)))⟩
def aj2(c:bP)(e:aI):Y68:=YbD none λx=>cond (decide (Y2b=YUF)) (l1 Y1K none λy=>(E1 y).elim none λz=>cond (Y6h.1==ZNG&&Y6h.2.isEmpty) (some [Y5E]) none) none
variable{lP:Pos}
theorem aj3{e y o:aI}{n m ey ab:Str}{l es:Ye}{p:Pos}(z:e=Y0Q Y44 l [] pos)(fy:l=[y])(u:y=Y0Q (Y2f o m apos) es [] lP)(aJ:n=ey)(aC:m=ab)(c1:es=[]):e=Y0Q (Y09 ey p) [Y0Q (Y2f o ab apos) [] [] lP] [] pos:=by exact aj z (dT fy (wi u (aa aJ (aa aC (aa c1 rfl)))))
theorem aj4{c:bP}{o:aI}{p:Pos}(K:ZG)(L:ZI)(aR:c.cN.lookup YUF=Y27)(hd:(YUF==Y1l)=false)(ah:YB8)(sU:(apos.endLine==lP.line)=true)(h:Ev g k env c.ns r mh Y7j λa m=>ZU4):
  Ev g k env c.ns r mh (eval (Y0Q (Y09 YUF p) [Y0Q Yzn [] [] lP] [] pos) env) Q:=λA s aG ae aN=>by
 refine wpAny_Call_NameR (AR K.1 ae aN YN1 hd y3.1 y3.2 y3.3 (ix (nJ (rfl:noStar [ab4 Yzn [] [] lP]=true) ..) (callWith_builtin1 (cb YSY (ix YQl Yg)))));intro aiE aiF aAH;refine bd (Y0p λcF s1 z=>z.elim λm1 z=>Y0g λx q=>bd (wpAny_standAt (s6 q.2 λa t c es bx hm ck=>?_)));obtain⟨rfl,ck⟩:=ck;refine DD ZXk (z.1.dict hm λxs ep aA uQ D=>(J6 (prog:=g.prog) aA uQ D).elim λiN w=>?_);have qw:methodCallPos true o env apos lP=pure lP:=YT6
 dsimp only [methodCall];refine aa (rfl:methodCallForm (([]:Ye).length+YZx) (backTo lP (starEach [] env)) (backToKw lP Yme)=true) (bd (wpAny_holding (getMethod_builtin (T:="dict") Y9j N8 F.slot_dict_items F.type_dict_items (λO e=>⟨_,aV (N6 e) aA,rfl⟩) (bd (wpAny_of_eq qw (callWith_builtin rfl (evalArgs_nil3 (call_meetsIn F.slot_dict_items Y9j F.entry_dict_items (F.args_dict_items_1 _) (meets_dict_items (o7 g.prog g.w) a (z.1.ys YCJ hm)) ⟨⟨iN,w.1.dictOf⟩,?_⟩))))))));have b5:=hH s1.heap Yr6;have a2:a5 g m1 Zg1:=YEH b5 rfl rfl;have aE:=ck.1.1;replace aE:=aQ YF aE;exact nE (Y0m Yeu) (J4 (s:=Zg1) aG a2 (aj1 (A:=A.in1) Ya3 a2 hm (au (h9 aE) Y2) Y6l) ck)
def Ti:dj:=lL ⟨λO c e=>aj2 c e,λO vs m Q=>one vs False λa=>ZU4⟩
 (λhm=>YaP λx O=>YqV)
 λ{g H k env c r mh e es Q}K L hm h=>j7 hm λx O hm=>rB hm λq hm=>Jv hm λy fy hm=>j7 hm λw O hm=>rB hm λck hm=>dG ck λbD bC=>YNc λapos u=>u.elim λlP u=>YIF λp z=>z.elim λpos z=>by
  have aJ:=YHU;replace h:=ZKh;exact aT (aj3 z fy u.1 aJ Y97 ZZT) (aj4 K L (aJ▸YXz) (aJ▸YY1) u.2.1 YI1.1 h)
theorem wZ(mh:ag)(a:Nat)(c d:Y1E):upd Ypy a d=upd mh a d:=funext λb=>by
 by_cases q:b=a
 ·rw[q,bw,bw]
 ·exact aL Y7g (aj Y7g (Y7g))
theorem Tj{c:Y1E}(h:YnD):Ypy=mh:=funext λb=>by
 by_cases q:b=a
 ·rw[q,bw,h]
 ·exact Y7g
theorem aj5:typeLookup Y2i "keys"=YMm:=YT7
theorem aj6:typeLookup Y2i "__getattr__"=YMm:=YT7
theorem aj7{g:Y7A}{d:Drawn}{os:OsState}{a:Addr}{xs:Y1N}{n:Nat}{eB:YQY}{tk:Tok}{Q:YQq}{E':Y8}(bJ:Zg)(aq:ZQF)(aF:∀h' tk e,Heap.NewAttrErr h h' e YA "keys"→E' Y45 ZnO):
  wpAny YR A (Builtin.«object.__getattribute__» ⟨[YA,Y4 "keys" tk],[]⟩) Q E' Y5G:=by
 have dJ:YbI YA "tuple":=Zn3
 have f4:=aj5
 repeat (any_goals (first | assumption | wp_step))
 exact wpAny_raiseAttrError bJ aF (attrMsg_fits ZL (by refine YSD;decide +kernel))
theorem aj8{E:Y8}{g:Y7A}{d:Drawn}{os:OsState}{a:Addr}{xs:Y1N}{n:Nat}{eB:YQY}{tk:Tok}{Q:Y5N}(bJ:Zg)(aq:ZQF)(aF:∀h' tk,(∀b o,YlG)→Q none ZnO):
  wpAny YR A (getAttr? YA "keys") Q E Y5G:=by
 have dJ:∀tk,(⟨h,g,d,tk,os⟩:Shared).TypeIs YA "tuple":=λO=>Zn3
 have f1:=sub_AttributeError;have f2:=N9.lookup;have cz:=N9.bind YA;have gL:=aj6;unfold getAttr? getAttrBy? getAttrBy
 repeat (any_goals (first | assumption | exact YLP | wp_step))
 refine codeAny_call_builtin N9.plain F.entry_tuple_ga (N9.check _ _ _ _ _ _ _ _ YLP (F.args_tuple_getattribute_2 _ _) (aj7 bJ aq λh' u4 e yw=>?_));obtain⟨dg,om,he⟩:=yw.there;show wpAny _ _ (getattributeRaised _ _ _ _ _ _ _) _ _ _;dsimp only [getattributeRaised]
 repeat (any_goals (first | assumption | wp_step))
 exact aF _ _ yw.keeps
theorem Tn:entryFor table "dict.update.loop"=some Builtin.«dict.update.loop»:=Yjq
theorem Fq:plainId "dict.update.loop"=true:=ZL
theorem aj9{ms:dm}{m:Y6A}(D:ie 1 YUG):ZMC:=by
 cases q:ZS8 with
 |none=>exact YzL
 |some i=>
  refine YzM;have hm:ZUL:=ZTT;have bZ:=D.1;replace bZ:=YdA;exact absurd rfl (YAV.2 _ hm _ b3)
theorem ie.left{ms:dm}(D:ZRL):Ylm:=⟨by have bZ:=D.1;replace bZ:=YdA;exact YCq,λe he=>D.2 e (ko _ he)⟩
theorem aka{T:Nat}{P:YR9}{E:Y8}(aA:s.heap.get? T=some (mM xs ep))(h:P xs s):wpAny YR A (Builtin.Dict.pairItems YQ4) P E s:=by
 exact bd (wpAny_typeOf Y9j (cb ZRY (bd (wpAny_seqItems aA rfl Y1u))))
theorem To(iV:ZUr)(y4:ZOt):lI g Y2e mh:=λb ah=>by rw[show b=I from ah];exact⟨iV,y4⟩
theorem akb(bJ:Zg)(bj:Ycp){R:Y4A}(hz:YXs)(ms:dm):
  ∀(i:Nat)(es:dm)(mh:ag)(s:Shared),vs.drop i=ZV6→es.length≤i→s.heap.IsTupleIter I a i→Yez→uo s.heap xs→Y3B→I≠d→ZUr→ZOt→
   Y6W=YpD→YU→ZRL→
   (∀s',a5 g Zce s'→(∃s1,Step Y2e s mh s1 Zce∧j4 Y2e s1 s')→Z7F)→
   codeAny Yu A (ZK "dict.update.loop" ⟨[Y35,Y1C,ZYi,Y7],[]⟩) R s:=by
 induction ms with
 |nil=>
  intro i es mh s J8 pj hit bq y5 r y6 iV y4 hd ae D gI;refine ZJu;show Zds;have Fs:vs.length≤i:=OE J8;have az:YEb=none:=q8.trans (p6 (aj r.length Fs));refine bd (wpAny_pyNext_tuple_end bJ hit ZSX az λh' he=>?_);have c7:YM9:=⟨Zhw,sJ ZXb Zhw⟩
  have sW:=c7.abs ae Z8J rfl rfl
  (rw[eL]at gI;replace D:=bL Y1U D)
  rw[Tj hd]at gI;show wpAny _ A.in1 (Builtin.Dict.addKeywords d [] >>= λO=>ZYn) _ _ _;refine Y0K;intro akc akd;exact bd (wpAny_pure (wpAny_pure (gI _ sW ⟨s,Yy,c7⟩)))
 |cons m ms ai=>
  intro i es mh s J8 pj hit bq y5 r y6 iV y4 hd ae D gI;refine ZJu;show Zds;have Ft:=drop_cons J8;refine(r.at Ft.1).elim YEV;replace z:=fU Ft.2.1 z;refine Y0K;intro Ph Pj;refine bd (wpAny_pyNext_tuple_item hit ZSX (pk z.1) λh' ji hs=>?_);have mv:=sL (wr:=Y2e) (s':=Yx) ae Z8J ZXb YOC ZXc rfl rfl;refine(Y9e mv.2.4).gj.elim λT q=>q.elim λbf q=>YBD λep dJ=>YoM λeg aAI aJ b6 ck=>ck.un λd1 O5 aC dv gD=>aa q.1 Yg;intro aif aih aii;refine bd (wpAny_holding (bd (wpAny_tryCatch (aka (s:=Yx) dJ ?_))))
  (refine iy aJ (aa aC (aa gD.jh ?_)))
  show wpAny _ A.in1 (holding [eg,d1] (dictSet d eg d1)) _ _ _;have em:ZNI:=ZHp
  refine Yg;intro aAJ aAK aAL;refine wpAny_holding (wpAny_mono (H4 (X:=cX) (A:=A.in1) (R:=λO O aH=>aH=upd mh d (t,Y9 1 YD5)) mv.1 hd Z3R b6 dv bj (au pj (au (h9 Ft.1) hz)) λO=>aa (aj9 D) rfl) (λO s2 z=>z.elim λaH z=>?_) Y0E);have A7:=z.3;subst A7;have eX:=z.2;have ake:s2.heap.IsTupleIter I a (i+1):=ji.elim λo w=>⟨o,eX.1 I o w.1 iV id,w.2⟩
  have kt:eU s.heap s2.heap:=mv.2.4.trans YGZ;refine wpAny_pure ⟨ZX9,?_⟩
  (replace D:=bL em D;rw[em]at gI)
  refine ai (i+1) YD5 _ s2 Ft.2.2 (aj cj (dX pj)) ake (bq.keep kt y5) Zf4 (r.keep kt) y6 (aj ZKk iV) y4 Yc z.1 D λs3 dB w=>w.elim λs4 w=>gI s3 ?_ ⟨s4,?_,w.2⟩
  ·exact aQ YNe dB
  ·exact(mv.2.trans (eX.weaken Y34)).trans (bL YNe w.1)
theorem akf(h:YfX):a+1+1+20<9900:=DS (x:=22) h Y2
theorem akg:u0 YA7 λa m Q=>a.eM False λvs=>∃ms:dm,vs=ZV6∧YXs∧ie 1 ms∧alloc m (Y9 1 ms) Q:=λ{g H k A s mh v a Q}K aG ae bz h=>lJ h λvs bx h=>h.elim λms h=>by
 obtain⟨ev,hz,D,h⟩:=h;refine(bx▸bz:ZBS).gj.elim λa q=>q.elim λxs q=>YBD λn aA=>?_;have akh:Y7o:=by
  refine aX ev ?_
  cases ms with
  |nil=>rfl
  |cons m ms=>exact(V.kr (D.2 m b3)).elim λn e=>by cases ms <;> rfl
 have y5:=rl akh Yq;refine gz q.1 ?_;have dn:YnI:=YKq;obtain⟨t,h⟩:=h _ dn;have b5:=YlO;refine callType_codes (Q₁:=λobj hY=>obj=Y2C∧hY=YBY) F.kt_called_dict (F.kt_typeCall_dict_1 _) F.entry_dict_init (kt_code_dict_new _ Zn) ?_;intro obj hY aki;obtain⟨rfl,rfl⟩:=aki;have J9:Yyv:=ZW;have Tp:(YBY:Shared).TypeIs Y2C "dict":=⟨_,J9,rfl⟩
 refine⟨Tp,F.args_dict_init_2 _ _,Yg⟩;intro aAM aAN aAO;refine bd (bd (wpAny_notOrdered_dict Tp ?_));show wpAny _ _ (pure (s.heap.objs.size,[jX a])) _ _ _;refine Zm;show wpAny _ _ (Builtin.Dict.updateFrom "dict.__init__" s.heap.objs.size YA [] Y7) _ _ _;have y1:=ZFt;refine bd (wpAny_typeOf (T:="tuple") ⟨_,y1,rfl⟩ (cb ZRY Yg));intro aAP aAQ aAR;refine bd (aj8 (tk:=0) ZHi y1 λh' tk rK=>cb (if_pos ZI9) Yg);intro aAS aAT aAU;refine ZH7;have akj:=rK _ _ y1;refine Yg;intro aAV aAW aAX;refine bd (wpAny_pyIter_tuple (items:=Z1) ⟨_,akj,rfl,n,rfl⟩ ?_);have Tq:=hH h' YEJ;have Ka:hU s.heap ZPz:=λb o e=>Tq _ _ (rK _ _ YhI);have akk:(h'.push YEJ).get? s.heap.objs.size=Yp9:=Tq _ _ ZYb;have Br:a5 g Zch YZL:=
  a5.new (s':=YZL) (t:=t) (o:=YPa) ae Ka Y1f rfl rfl ⟨[],0,akk,d2.nil,lC,YYc⟩
 have jA:Step cX YZQ mh YZL Zch:=
  Step.new (s':=YZL) Ka Y1f
 have Fu:ZZG=none:=by
  cases q:ZZG with
  |none=>rfl
  |some o=>have e:=rK _ _ (b5 _ _ q);replace e:=aQ ZQf e;exact Y4u
 have y6:h'.objs.size≠s.heap.objs.size:=λe=>by
  have aC:=ZYb;replace aC:=aQ ZQf (aX e aC);exact ZJI
 have kt:=eU.of Ka;refine Yg;intro aAY aAZ aA0;refine wpAny_pure (⟨ZX9,akb (t:=t) ZHi (akf aG.2) hz ms 0 [] _ _ ev YW Y6l (TupAt.keep kt ⟨n,aA⟩ y5) Zf4 (YDt kt) y6 (aj ZKk (ae.fresh Fu)) (AS ae Fu) Yc Br D λs' jf w=>w.elim λs1 w=>?_⟩)
 (replace jf:=aQ YNe jf;replace w:=bN YNe w)
 exact⟨rfl,_,jf,Step.unfresh (wr:=(·=h'.objs.size)) (w.2.step ((jA.weaken Y34).trans (w.1.weaken YO9)) λO ah=>ah▸Fu) λO ah=>aa ah Fu,_,Y7O,h⟩
def Kb:dj:=qF S4 _ akg
def Kc(i:Int):Op:=⟨λO O e=>pE (PE e) (λx=>decide (Y2b=.USub)&&E6 Y1K i) Y9i,λO O m Q=>Q Ybb m⟩
theorem Tr{i:Int}{e:aI}{es:Ye}{P:Y1}{c:bP}(hm:(Kc i).nH H c e=Y2K)(f:∀ax p pos,e=Z09→[]=es→P):P:=j8 hm λx ao he=>Y2c λp z=>by
 exact dG ao λbD bC=>(JM bC).elim λax w=>w.elim λdV w=>f ax dV p (aj z (dT Ynr (aT w rfl))) he
theorem akl(i:Int):(Kc i).pv:=⟨λ{g H k env c r mh e es Q}K L hm h=>Tr hm λax p pos e3 he=>by
  refine YgL;replace h:=Y7f;exact Sg h,λ{g H k env c r mh e es Q}K L hm h=>Tr hm λax p pos e3 he A s aG ae aN=>by
  rw[e3];replace h:=Y7f;refine Y0K;intro akm akn;exact wpAny_isTrue_value ((Sg (Q:=Y9L) h A s aG ae aN).mono ZgW) rfl⟩
def Ts(i:Int):dj:=⟨Kc i,akl i⟩
def Kd(ps:Z5Q):Yn:=ps.rec [] Zjr
def Ke(ms:dm):Y3:=ms.rec [] Zjr
theorem Kf{b:Bool}{o:Y7G}{a:α}(h:cond b o none=Y0l):Y6G∧YMh:=rB h λh k=>⟨h,k⟩
def Fv(keys:YFP):Ye→Y68:=keys.rec (λvs=>cond vs.isEmpty YXN none) λk O ai vs=>k.elim none λk=>vs.casesOn none λv vs=>(ai vs).elim none λl=>some (k::v::l)
theorem ako(keys:YFP):∀{vs es:Ye},Z4J→keys.all (·.isSome)=true∧keys.length=vs.length:=by
 induction keys with
 |nil=>
  intro vs es h;exact fH (sA Z52.1) Zn
 |cons k keys ai=>
  intro vs es h;refine j7 h λoq i5 h=>?_
  cases vs with
  |nil=>exact Y08
  |cons v vs=>exact j7 h λl fa O=>⟨lF ⟨aa i5 rfl,ZDz.1⟩,congrArg Y3m ZDz.2⟩
theorem akp{c:bP}(keys:YFP):∀{vs es:Ye}{mh:ag}{A:Around}{s:Shared}{Q:Ys},Z4J→Ykl→Z5→YU→Y4J→
  fW g A cX s mh ZNf (λps s' ab=>∃l,a9 s'.heap Ydd l∧Q l ab):=by
 induction keys with
 |nil=>
  intro vs es mh A s Q h aF aG ae aN;replace aF:=d9 (cu Z52.2) aF;exact wpAny_pure ⟨mh,ae,Yy,[],a9.nil,aF⟩
 |cons Jr keys ai=>
  intro vs es mh A s Q h aF aG ae aN;refine j7 h λoM i5 h=>?_
  cases vs with
  |nil=>exact Y08
  |cons Tt vs=>
   refine j7 h λl fa h=>?_;replace aF:=d9 Y4v aF;refine aa i5 ?_;show wpAny _ _ (ZNe >>= λkv=>holding [kv] (ZNb >>= λx=>standAt pos >>= λO=>YDq) >>= λKg=>holding [kv,Kg] ZNf >>= λr=>pure ((kv,Kg)::r)) _ _ _;have aF:Ev g k env c.ns r mh ZNe λa m1=>Ev g k env c.ns r m1 ZNb λb aH=>gH g k env c.ns r l aH λws bF=>Q (a::b::ws) bF:=aF;refine Yg;intro aA1 aA2 aA3;refine bd (WP.mono (aF A s aG ae aN) λcF s1 f3=>f3.elim λm1 f3=>ZO9 λx dD=>Yg);intro akq akr aks;refine bd (wpAny_holding (bd (WP.mono (dD.2 A s1 aG f3.1 ZBj) λdF s2 fz=>fz.elim λaH fz=>ZOo λy w2=>bd (wpAny_standAt Zm))));have eX:=ZO8;exact bd (wpAny_holding (WP.mono (ai fa Y5m aG fz.1 Yg9) λO O mY=>mY.elim λbF mY=>ZUZ λws kx=>wpAny_pure (⟨bF,mY.1,ZMn,x::y::ws,a9.cons (ZKi (fz.2.trans mY.2).4) (a9.cons (w2.1.keep mY.2.4) kx.1),kx.2⟩)))
variable{kc:Nat}
theorem akt{ms:dm}{m:Y6A}(D:ie kc YUG):ZMC:=by
 cases q:ZS8 with
 |none=>exact YzL
 |some i=>
  refine YzM;have bZ:=D.1;replace bZ:=YdA;exact absurd rfl (YAV.2 _ (ZTT:ZUL) _ b3)
theorem aku{P:PUnit→YP}{E:Y8}(bj:Y3W)(ps:Z5Q):∀{ms es:dm}{mh:ag}{s:Shared},Y6W=some (t,Y9 kc es)→YU→a9 s.heap Ydd Yde→es.length+ms.length≤1000000→ie kc YD6→
  (∀s',a5 g Zcf s'→Step cX s mh s' Zcf→P PUnit.unit s')→wpAny Yu A (storeAll d ps) P E s:=by
 induction ps with
 |nil=>
  intro ms es mh s hd ae rs hz D h
  cases ms with
  |cons m ms=>exact rs.un λy bf e O O=>ZDX
  |nil=>
   have h:=h s;rw[eL,Tj hd]at h;exact wpAny_pure (h ae Yy)
 |cons p ps ai=>
  intro ms es mh s hd ae rs hz D h
  cases ms with
  |nil=>exact absurd rs.jh Y03
  |cons m ms=>
   refine rs.un λy bf e b6 rs=>rs.un λd1 O5 aC dv rs=>?_;have aJ:=g4 (show p.1::p.2::Ydd=YBX from e);have c1:=g4 (aJ.2.trans aC);refine ZJe;have em:ZNI:=ZHp
   refine bd (bd (wpAny_mono (H4 (X:=cX) (R:=λO O aH=>aH=upd mh d (t,Y9 kc YD5)) ae hd Z3R (aa aJ.1 b6) (aa c1.1 dv) bj (au Yk hz:Y6N) λs2=>by exact aa (akt D) rfl) (λO s2 z=>z.elim λaH z=>Zm) Y0E));have A7:=z.3;subst A7;rw[em]at D h;refine ai Yc z.1 (aa c1.2 (rs.keep YIN)) (aT cj (au (dH (fO _ _ _)) hz)) D λs3 dB fJ=>?_;rw[wZ]at dB fJ;exact h s3 dB (Y0m fJ)
def tl(kc:Nat):dj:=lL ⟨λO O e=>pE (PH e) (λx=>ZeV&&x.1.2.isEmpty) Y9i,λO O m Q=>alloc m YPc Q⟩ Yry
 λ{g H k env c r mh e es Q}K L hm h=>j8 hm λx ao he A s aG ae aN=>Y2c λp z=>by
  refine dG ao λbD bC=>aT z (yk (sA bD) (gz ZZT ?_));replace h:=Y7f;refine wpAny_Dict_empty ?_;have b5:=YlO;exact((h:alloc mh YPc Q) s.heap.objs.size YKq).elim λt q=>⟨_,ae.new (s':=YBY) (t:=t) (o:=YPc) b5 Y1f rfl rfl ⟨[],0,ZW,d2.nil,lC,YYc⟩,Step.new (s':=YBY) b5 Y1f,_,Y7O,q⟩
inductive BG(kc:Nat)(vs:Y3)(m:ag)(Q:Yj):Y1
 |mk (ms:dm) (e:vs=Yde) (l:ZV5) (d:ZRN) (q:ZEh):YQc
theorem BG.un(h:YQc):∃ms:dm,vs=Yde∧ZV5∧ZRN∧ZEh:=h.casesOn λms e l d q=>⟨ms,e,l,d,q⟩
theorem akv{c:bP}{keys:YFP}{values es:Ye}(hz:Fv keys values=Y2K)(h0:keys≠[])(hlen:keys.length≤15)(h:gH g k env c.ns r es mh λvs m=>YQc):Ev g k env c.ns r mh (eval (.Dict keys values pos) env) Q:=λA s aG ae aN=>by
 have b5:=YlO;have Br:a5 g mh YBY:=ae.grow (s':=YBY) b5 rfl rfl;have jA:Step cX s mh YBY mh:=Step.grow (s':=YBY) b5;have hd:Yyv:=ZW;have cq:YnI:=YKq;have Tu:=ako keys hz;refine wpAny_Dict_any Tu.1 Tu.2 h0 hlen (WP.mono (akp keys hz h aG Br (aN.ez jA)) λvs s2 z=>z.elim λaH z=>Y0g λl w=>w.2.un.elim λms w2=>?_);have Tv:aH s.heap.objs.size=none:=z.2.out hd cq;refine(Y5m.2.2 _ Tv).elim YsL;have nU:a5 g ZcB s2:=⟨Y5E,λb o e x aq=>Y6h b o e x (cA (dE (λcM=>by replace e:=aQ (AS ae YUz) (bN cM e);exact Y4u)) aq),λb u d e=>(by
   by_cases y:YSj
   ·replace e:=aQ Y6J (bN y e);have e:=ZPA;exact bL e.2 (aj y (⟨[],0,(Z4 _ _ hd cq id),d2.nil,lC,YYc⟩))
   ·replace e:=aQ (dE y) e;refine(z.1.3 b u d e).keep Y3V rfl λeJ dg bk=>⟨rfl,dE (λcM=>by replace bk:=aQ Tv (bN cM bk);exact cW bk.symm)⟩),z.1.4,z.1.5⟩
 have fJ:Step cX s mh s2 ZcB:=by
  have y:=jA.trans z.2;refine⟨y.1,λb e=>?_,y.3,y.4⟩;by_cases fz:YSj
  ·exact YJ (aa fz Y1f)
  ·exact aT (dE fz) (y.2 b e)
 refine aku (kc:=kc) (t:=t) (es:=[]) (ms:=ms) aG.adG vs Yc nU (aV YEE w.1) (aT Hl (aj YDb (au Y5m.1 Y2))) Y5m.2.1 λs4 eb mT=>?_;rw[wZ]at eb mT;exact⟨_,eb,fJ.trans mT,_,Y7O,q⟩
def u5(kc:Nat):dj:=lL ⟨λO O e=>(PH e).elim none λx=>cond (! ZeV&&decide (x.1.1.length≤15)) (Fv Y2b Y1K) none,λO vs m Q=>YQc⟩ (λhm=>j7 hm Zks)
 λ{g H k env c r mh e es Q}K L hm h=>j7 hm λx O hm=>Y2c λp z=>by
  have ak:=Kf hm;have av:=cL ak.1;exact aT z (akv ak.2 (λe=>by rw[e]at av;exact nb YG2) (of_decide_eq_true YG3) h)
theorem akw{lo af:Nat}(h:lo<af):lo≤Y5u∧Y5u<af:=⟨(ayl Y0J).mpr (aj YK7 (c0 YUx lo)),(aym Y0J).mpr (aL YK7 (ayn h af))⟩
abbrev y7(xs:ZB)(j p:Nat):Y1:=jd (p≤xs.size) (∀(i:Nat)(x:Nat),i<p→Zf1) (∀(i:Nat)(x:Nat),p≤i→Zez)
abbrev nV(xs:ZB):Y1:=xs.toList.Pairwise YEp
theorem y8{xs:ZB}(r:YDm){x:Nat}(h:i<j)(af:Y3y)(aM:xs[j]?=Y06):x<y:=by
 (replace af:=aj (l9) af;replace aM:=ZEM)
 have Tw:=jJ af;have Tx:=jJ aM;exact aQ Tw.2 (bL Tx.2 (N5.mp r i j Tw.1 Tx.1 h))
theorem akx{xs:ZB}(r:YDm):∀(f lo af:Nat),lo≤af→af≤xs.size→af≤lo+f→(∀i x,i<lo→Zf1)→(∀i x,af≤i→Zez)→y7 xs j (Oa xs j f lo af):=by
 intro f
 induction f with
 |zero=>
  intro lo af ak av aP da fG;have e:=mG ak aP;exact⟨e▸av,da,e▸fG⟩
 |succ f ai=>
  intro lo af ak av aP da fG;have fx:Oa xs j (f+1) lo af=if lo<af then(if Zet<j then Oa xs j f (Y5u+1) af else Oa xs j f lo Y5u)else lo:=rfl
  refine aL fx ?_;by_cases fQ:lo<af
  ·refine aL ZRf ?_;have m:=akw fQ;have hs:Y5u<xs.size:=ew m.2 av;have cR:xs[Y5u]?=some Yql:=od hs;have iW:Zet=Yql:=by refine aj (sq) (aT cR ?_);rfl
   refine aa iW ?_;by_cases q:Yql<j
   ·refine aL ZU (ai _ af m.2 av (au aP ?_) Zj8 fG)
    ·exact aL (fO _ 1 f) (h7 m.1 (f+1))
    ·rcases Ao j5 with l | l
     ·exact lD (y8 r l aq cR) q
     ·replace aq:=aQ cR (bN l aq);exact cu aq▸q
   ·refine aL ZN (ai lo _ m.1 (h9 hs) (hp (ew m.2 aP)) da Zj8);rcases Ob j5 with l | l
    ·exact h9 (fF Y9F (y8 r l cR aq))
    ·replace aq:=aQ cR (aX l aq);exact cu aq▸Y9F
  ·refine aL ZRT ?_;have e:=mG ak ZQy;exact⟨aa e av,da,aa e fG⟩
theorem BH{xs:ZB}(r:YDm)(j:Nat):y7 xs j YWK:=akx r xs.size 0 xs.size Z0 YW Y1X Ziv λi x h aq=>absurd (wh aq).1 (sm h)
theorem Kh{xs:ZB}{p q:Nat}(a:Zf5)(b:Zf6):p=q:=by
 have key:∀{p q:Nat},Zf5→Zf6→¬p<q:=λ{p q}a b h=>by
  have aq:xs[p]?=some (xs[p]'(ew h b.1)):=od _;exact absurd (b.2 p _ h aq) (sm (a.3 p _ (bV p) aq))
 exact mG (hq (key b a)) (hq (key a b))
theorem aky{xs:ZB}(r:YDm):oe xs 0=0:=Kh (BH r 0) ⟨Z0,λi x h=>YCe,λO x O O=>dQ x⟩
theorem akz{xs:ZB}(r:YDm){x:Nat}(h:Y3y):oe xs (x+1)=i+1:=Kh Z35 ⟨YzU,λk y aR bb=>by
  rcases Ao aR with l | l
  ·exact p9 (y8 r l bb h)
  ·replace bb:=aQ h (bN l bb);exact Yiv▸o9 x,λO O aR bb=>y8 r aR h bb⟩
theorem Ki{xs:ZB}(r:YDm){x:Nat}(h:Y3y):oe xs x=i:=Kh Z35 ⟨h9 YzU,λk y aR bb=>y8 r aR bb h,λk y aR bb=>by
  rcases Ob aR with l | l
  ·exact h9 (y8 r l h bb)
  ·replace bb:=aQ h (aX l bb);exact dH Yiv⟩
theorem akA{xs:ZB}(r:YDm)(aM:∀i:Nat,Yqm≠Y0N):nV (pb xs YWK j):=by
 have b:=BH r j;show(pb xs YWK j).toList.Pairwise _;refine aL YdN ?_;generalize YWK=p at b;have dv:(xs.toList.take p++xs.toList.drop p).Pairwise YEp:=aL Z2p r;have uK:=axN.mp dv;refine OJ ⟨uK.1,Dx ⟨YOK,uK.2.1⟩,λa aD x aq=>?_⟩
 ·obtain⟨i,af⟩:=pe aq;replace af:=aQ (l9) (aQ (acd) af);exact rb (b.3 _ x Yk af) λe=>aM _ (aa e af)
 ·rcases dz aq with e | aq
  ·obtain⟨i,af⟩:=pe aD;have li:i<p:=by
    have w:=Yae;replace w:=bL List.length_take w;exact ew w (Nat.min_le_left _ _)
   replace af:=aQ (l9) (aQ (N1 li) af);exact aL e (b.2 i a li af)
  ·exact uK.2.2 a aD x aq
theorem Kj(t:SetTable)(j:Nat):YBP=if YpY then Y73 ZWM else if YeH then YbU else Y2P:=rfl
theorem akB{t:SetTable}(r:YMb)(h:YpX):Ypa:=by
 rw[Kj,Ki r h,h];exact ZRX
theorem Fw{t:SetTable}(h:Ypa):YpX:=by
 replace h:=aQ (Kj ..) h;by_cases q:YzB
 ·replace h:=YgC;exact bN (SetTable.Slot.live.inj h) Y1e
 ·replace h:=YgB;by_cases ck:YeH=true
  ·replace h:=aQ ZRe h;exact Hn h
  ·replace h:=aQ Ylt h;exact Hn h
theorem Tz(j:Nat):SetTable.has #[] j=false:=rfl
theorem Kk{t:SetTable}(hd:YHs)(j:Nat):YXa∨∃i,Ypa:=by
 rw[Kj,hd,Tz];by_cases q:YzB
 ·rw[ZU];exact YJ YOP
 ·refine aT ZN ?_;exact Zk
theorem Kl{t:SetTable}(r:YMb)(h:YXa)(i:Nat):YHt≠Y0N:=λe=>by
 replace h:=aQ (akB r e) h;exact Hn h
theorem akC{t:SetTable}{f:Z5o}{h:Int}(hd:YHs):∀(n:Nat)(p:SetTable.Probe)(j:Nat)(d:Y0X),p.dummy=none→qa t f h n p=ZZr→YXa∧d=none:=by
 have hc:∀p:v9,(t.advance p).dummy=p.dummy:=λp=>by
  by_cases q:Ynz
  ·exact ZCY
  ·exact ZCX
 intro n
 induction n with
 |zero=>exact λp j d O e=>Y4u
 |succ n ai=>
  intro p j d ar e;have fx:qa t f h (n+1) p=match t.slot p.j with
   |Y2P=>some (Y2P p.j p.dummy)
   |YbU=>qa t f h n (t.advance {p with dummy:=some p.j})
   |Y73 i=>if YUT then some (YbR p.j i YXU)else ZXz:=rfl
  replace e:=aQ fx e;rcases Kk hd p.j with q | ⟨i,q⟩
  ·replace e:=DC q e;have w:=SetTable.Met.empty.inj Y4I;exact⟨aV w.1 q,aV w.2 ar⟩
  ·replace e:=DC q e;by_cases z:YUT=true
   ·have e:YxR:=e;replace e:=aQ Ym3 e;exact SetTable.Met.noConfusion Y4I
   ·have e:YxR:=e;replace e:=aQ Ylw e;exact ai _ j d ((hc p).trans ar) e
abbrev h1(n:Nat)(led:Bool)(t:SetTable):Y1:=iG ZbO YMb YHs YNN (n≤t.mask)
variable{led:Bool}
theorem h1.fits{n:Nat}{t:SetTable}(b:YLs):ZbK:=by
 delta ace Od;rw[b.3,b.1];exact lF ⟨Yht,decide_eq_true b.5⟩
theorem h1.u6{t:SetTable}(n:Nat)(h:YNN):h1 n led (t.standIn n):=⟨Array.size_range,by show(Array.range n).toList.Pairwise _;refine aL Array.toList_range ?_;exact Ho,rfl,h,au (Oe n YJ5) Yk⟩
theorem h1.or{n m:Nat}{t:SetTable}(hs:ZbO)(rs:YMb)(bZ:YHs)(ld:YNN):h1 n led (t.orStandIn n):=by
 by_cases q:ZbK
 ·refine aL ZU ?_;unfold ace Od at q;have q:=of_decide_eq_true YAX.2;rw[bZ,hs]at q;exact⟨hs,rs,bZ,ld,q⟩
 ·exact aL ZN (.u6 n ld)
theorem Km(xs:YQZ)(p:Nat)(x:α):(pb xs p x).size=xs.size+1:=by
 exact aQ iv (aj ((ayr xs p x).length_eq) (aj iv ((Array.size_push ..))))
theorem TA{n:Nat}{t:SetTable}(b:YLs)(h:YXa):Y3N.1.place.size=n+1∧nV Yb9∧Y3N.1.dummies=#[]∧Y3N.1.led=led∧YBs≤n∧Yb9=pb t.place YBs j:=by
 refine⟨(Km _ _ _).trans (congrArg Y3m b.1),akA b.2 (Kl b.2 h),?_,b.4,aV b.1 ((BH b.2 j).1),rfl⟩;show(if YeH then SetTable.eraseAt t.dummies (oe t.dummies j)else t.dummies)=#[];rw[b.3,Tz];rfl
theorem akD{t:SetTable}{es:Y0W}(b:YUu)(h:Int)(x:Value):∃p,Yms.1.toList=ZNP++YBm::ZNO∧h1 Y4y led Yms.2.1:=by
 have e:Yms=match ZbL with
  |some (slot,Fx)=>(pb es YNO.2 YBm,YNO.1.orStandIn YyJ,Fx,! YNO.1.fits YyJ)
  |none=>(es.push YBm,t.standIn Y4y,false,true):=rfl
 refine Y4o
 cases q:ZbL with
 |none=>exact⟨es.size,by show(es.push YBm).toList=_;exact aj acf (HH iv (dS N0 (fH List.drop_length rfl))),.u6 _ b.4⟩
 |some z=>
  have aM:t.slot z.1=Y2P:=by
   unfold SetTable.freeSlot at q
   cases ck:t.probe (λO=>h+1) h (t.probeStart h)with
   |none=>replace q:=Ykz;exact Yig
   |some m=>cases m with
    |candidate _ _ _=>replace q:=Ykz;exact Yig
    |empty j d=>
     have w:=akC b.3 _ _ j d rfl ck
     (replace q:=Ykz;rw[w.2]at q)
     exact k7 YCv w.1
  have w:=TA b aM;refine⟨YpZ.2,Hm _ _ _,?_⟩;show h1 _ _ (YpZ.1.orStandIn (pb es YpZ.2 YBm).size);exact bW (Km ..) (.or (m:=0) w.1 Y3j Y3O.1 Y3O.2.1)
theorem TB(owner:Z2s)(l:YV)(h:l.Pairwise YEp):((l.filterMap Ys5).map Yh).Pairwise YEp:=by
 induction l with
 |nil=>exact Hk
 |cons a l ai=>
  have h:=OK h;refine bW Dm ?_
  cases q:owner.getD a none with
  |none=>exact YSU
  |some k=>
   refine Dx ⟨λb ah=>YM,YSU⟩;obtain⟨z,hz,e⟩:=ee ah;obtain⟨c,ao,aC⟩:=yf hz;refine Yb
   cases ck:owner.getD c none with
   |none=>replace aC:=ZGc;exact ZJI
   |some du=>
    replace aC:=ZGc;exact bL e (fU YGP (h.1 c ao))
theorem akE{mask f m:Nat}{pl:Bool}{hs:YCF}{t:SetTable}{o:ZB}(h:Hp mask f m led pl hs=Y59):YMb∧YHs∧YNN∧t.mask=mask∧∃owner,Z5x=some owner∧t.place=(Yte Yh).toArray∧o=(Yte Y1w).toArray:=by
 unfold Hp at h
 cases q:Z5x with
 |none=>rw[q]at h;exact Y08
 |some owner=>
  rw[q]at h;have w:=gQ Y4v;rw[←w.1,←w.2];exact⟨TB owner _ Ho,rfl,rfl,rfl,owner,rfl,rfl,rfl⟩
theorem akF{t:SetTable}{es:Y0W}(h:YNN)(wanted:Nat):h1 Yod.1.size led Yod.2.1:=by
 have e:Yod=match ZbP with
  |some (dg,order)=>if coversAll order es.size&&dg.fits (ZWW).size then(ZWW,dg,false)else YaQ
  |none=>YaQ:=rfl
 rw[e]
 cases q:ZbP with
 |none=>exact .u6 _ h
 |some z=>
  by_cases c:(ZKH)=true
  ·show ZQN;rw[ZRd];have f:=YTT.2;have w:=akE (t:=z.1) (o:=z.2) q;unfold ace Od at f;refine dG f YEQ;have f2:=ZWP;rw[Y3j,Y97]at f2;exact⟨Y97,w.1,Y3j,Y3O.1.trans h,f2⟩
  ·show ZQN;rw[if_neg c];exact .u6 _ h
noncomputable abbrev gk (es:Y0W) (ep:Nat) (t:SetTable):Obj:={cls:=YCC,dict:=none,data:=.set es ep t}
def gX(w:World)(h:Heap)(l:Y38)(us:Y3):Y1:=ZAh∧YDa=Zcl
variable{us:Y3}
theorem gX.len{l:Y38}(x:YGl):l.length=us.length:=by
 have e:=ZeW;replace e:=aQ YF e;exact e
theorem gX.keep{l:Y38}(k:Y2U)(x:YGl):gX w h' l us:=⟨x.1.keep k,x.2⟩
theorem gX.ins{l:Y38}(x:YGl)(p:Nat){y:Value}{u:V}(r:Yfz):gX w h (ZTk++(Y0Z,y)::ZTd) Zcm:=by
 refine Zmm
 ·exact aj dK (aX mF (aT acg (dU ach ((x.1.take p).append (a9.cons r (x.1.drop p))))))
 ·rw[dK,mF,acg,ach,x.2,dK,mF,acg,ach]
theorem gX.y9{l:Y38}{e:Z7}{u:V}:gX w h ZM3 YNT↔ZLs∧YGl:=⟨λx=>x.1.un λy bf aJ r rs=>by
 have aJ:=g4 aJ;have aC:=g4 x.2;exact⟨⟨YAM,aj (aJ.1:e.2=y) r⟩,by show ZAh;refine aj (aJ.2:YVa=bf) ?_;exact rs,YAN⟩,λz=>⟨a9.cons Y6h Z4,by rw[mF,mF,Y5E,Z3]⟩⟩
theorem gX.Kn{l:Y38}{e:Z7}(x:gX w h ZM3 us):∃u vs,us=u::vs:=by
 cases us with
 |nil=>exact absurd x.len Y7s
 |cons u us=>exact⟨u,us,rfl⟩
theorem gX.perm{l l':Y38}(p:Ymi):∀{us:Y3},YGl→∃d0,YTn∧gX w h l' d0:=by
 have key:∀{a b:Y38},a.Perm b→∀{us:Y3},gX w h a us→∃d0,YTn∧gX w h b d0:=by
  intro a b p
  induction p with
  |nil=>exact λ{us}x=>⟨us,Y3V,x⟩
  |cons e p ai=>
   intro us x;obtain⟨u,vs,rfl⟩:=x.Kn;have x:=ZPI;obtain⟨fX,dV,y⟩:=ai x.2;exact⟨u::fX,dV.cons u,gX.y9.mpr ⟨x.1,y⟩⟩
  |swap e f l=>
   intro us x;obtain⟨u,vs,rfl⟩:=x.Kn;have x:=ZPI;obtain⟨v,vs,rfl⟩:=x.2.Kn;have y:=gX.y9.mp x.2;exact⟨v::u::vs,Z2K,gX.y9.mpr ⟨y.1,gX.y9.mpr ⟨x.1,y.2⟩⟩⟩
  |trans p q akG akH=>
   intro us x;refine YM;obtain⟨vs,ek,y⟩:=akG x;obtain⟨ws,cO,z⟩:=akH y;exact ax (⟨ws,cO.trans ek,z⟩)
 exact λ{us}x=>key p.symm x
theorem gX.at_{l:Y38}(x:YGl){e:Z7}(he:Y54=Y5A):∃u,Yq3=YpN∧ZLs:=by
 have af:ZRA:=aV x.len Yxf;have bj:Yq3=some Zcn:=Y2q;refine⟨_,bj,?_,?_⟩
 ·have aC:YP5[i]?=Zak:=ZID
  have c1:Zcl[i]?=some (ef w Zcn):=by rw[gy,bj];rfl
  exact c4 aC ((congrArg (·[i]?) x.2).trans c1)
 ·obtain⟨y,bb,r⟩:=x.1.get bj;have aC:(YVa)[i]?=YpJ:=ZID
  exact c4 aC bb▸r
abbrev akI(w:World)(led:Bool)(h:Heap)(a:Nat)(us:Y3)(P:Y1):Y1:=∀(es:_)(ep:_)(t:_),YGr→YUu→Ykt→P
abbrev m8(w:World)(led:Bool)(h:Heap)(a:Nat)(us:Y3):Y1:=∀P:Y1,akI w led h a us P→P
theorem BI{es:Y0W}{t:SetTable}:¬kept h ZPQ:=λk=>k.elim (λe=>absurd (t8 e.1) YC) λz=>z.elim λxs z=>z.elim λn z=>absurd (t8 ZK8) YC
theorem za{es:Y0W}{t:SetTable}(aA:YGr)(kq:Y0W)(dg:SetTable):(h.update a YY4).get? a=some (gk kq Y96 dg):=q7 YY4 aA rfl
theorem TC{es:Y0W}{t:SetTable}(aA:YGr){kq:Y0W}{dg:SetTable}(b:h1 kq.size led dg)(x:gX w h kq.toList us):m8 w led (h.update a YY4) a us:=
 (λO bA=>bA kq Y96 dg (za aA kq dg) b (x.keep (qg aA BI (km h a YY4).2)))
abbrev zb(prog:Program)(w:World){K:Y4k}[YQh](knd:YRM)(ok:Y5R)(key:YRl):Y1:=jd (∀{h:Heap}{x:Value}{u:V},Y7x→ZBL→knd.is YMH x=true∧x.scannable=true) (∀u,Y7x→YVW=Y0Z) (∀u v,Y7x→ok v→YMH=key v→u=v)
theorem zb.elems{K:Y4k}[YQh]{knd:YRM}{ok:Y5R}{key:YRl}(C:Yr3){es:Y0W}(x:Ykt)(bj:∀u∈us,Y7x):ElemsOf knd es.toList:=λe he=>by
 refine YM;obtain⟨i,af⟩:=pe he;obtain⟨u,ak,av,aP⟩:=x.at_ af;refine Yb;have o:=bj u ZNX;exact⟨⟨YMH,Z3D.1,av.trans (C.2 u o).symm⟩,Z3D.2⟩
theorem TF{E:Y8}{g:Bool→Z7w}(cR:∀(b:Bool)(s1:Shared)(Q':Y5Q),Z77→wpAny YR A (g b) Q' E s1){es:Y0W}{t:SetTable}(aA:Y3g){f6:Y0W}{t1:SetTable}(b1:h1 f6.size led t1)(c6:gX w s.heap f6.toList us)(ah:us.length<4096){Fx:Bool}{R:YeJ→YP}(h:∀h' d0,YDf→YTn→ZUQ→R YNL Yx):
  wpAny YR A (do
    storeSet a f6 t1
    if YtT then do
      g YWx.2.2
      storeSet a YWx.1 YWx.2.1
      ZXQ
     else ZXQ) R E s:=by
 have fZ:f6.size<scanBound:=aQ iv (aj c6.len ah);have s1:=km s.heap a (x6 f6 t1);refine bd (wpAny_storeSet_of aA rfl ?_ (fits_of_scanBound fZ));by_cases q:YtT
 ·refine ZJd;have ar:=relayAll_perm t1 f6 YqM;have hI:=akF (es:=f6) b1.4 YqM;generalize YWx=aA4 at ar hI ⊢;refine YM;obtain⟨d0,dV,cT⟩:=(c6.keep ZY5).perm ar;refine ax (bd (cR _ _ _ (bd (wpAny_storeSet_of Zfb rfl Zm (fits_of_scanBound ?_)))))
  ·exact h _ d0 (s1.trans ZTO) dV (TC Zfb hI cT)
  ·exact aQ iv (aj ar.length_eq (aj iv fZ))
 ·exact cb ZN (wpAny_pure (h _ us s1 Y3V (TC aA b1 c6)))
theorem akJ{n:Nat}{t:SetTable}(b:YLs):h1 n led {t with plain:=false}:=⟨b.1,b.2,b.3,b.4,b.5⟩
theorem akK{K:Y4k}[YQh]{knd:YRM}{ok:Y5R}{key:YRl}{E:Y8}(C:Yr3){u:V}(Z:m8 w led s.heap a us)(bj:∀u∈us,Y7x)(pG:Y7x)(bg:YKl)(ah:Zcj<4096){Q:Y1n}(h0:Yq5)(ak:YE9→∀h' d0,YDf→YTm→ZUQ→Yec):Zdp:=by
 refine bp λax=>Z _ λes ep t aA hI hX=>Yb;have fa:=C.elems hX bj;have lp:=C.1 pG bg;have fZ:es.size<scanBound:=aQ iv (aj hX.len (Nat.lt_of_succ_lt ah));refine Ze8;dsimp only;refine aa (byScan_of lp.2 fZ fa) (bd (bd (wpAny_rule (aV Z3E (bd (wpAny_setScan_of lp.1 aA rfl hI.fits fa ?_))))))
 cases bo:List.findIdx? (λe=>knd.is YMH e.2) es.toList with
 |some j=>
  refine YM;have TG:=List.findIdx?_eq_some_iff_getElem.mp bo;obtain⟨v,aP,da,fG⟩:=hX.at_ (dy TG.1);refine Yb;have BJ:=ZHJ;have e:=C.3 u v pG BJ (knd.inj _ _ _ TG.2.1 (C.1 BJ fG).1);exact wpAny_pure (wpAny_pure (h0 (aa e ZNW)))
 |none=>
  have tm:YE9:=λhm=>by
   refine YM;obtain⟨i,af⟩:=pe hm;have li:ZR8:=aa hX.len Yae;obtain⟨v,aP,da,fG⟩:=hX.at_ YjV;refine Yb;have w:=List.findIdx?_eq_none_iff.mp bo _ Zcz;replace w:=aQ ((C.1 ZHJ fG).1) (Au (c4 af aP) w);exact nb w
  have Ko:∀(b:Bool)(s1:Shared)(Q':Y5Q),Z77→wpAny YR A (match b with | true=>rule "set.scan.the-table-gave-way" | false=>YWi) Q' E s1:=λb s1 Q' q=>by cases b <;> first | exact ZeH | exact wpAny_rule q
  refine YM;obtain⟨p,BK,u7⟩:=akD hI YVW x;refine Yb;generalize layNew t es YVW x=L at BK u7 ⊢;have BK:L.1.toList=ZNP++(YVW,x)::ZNO:=BK;rw[Z3E]at BK;have rL:=hX.ins p bg;replace rL:=aj BK rL;have pm:(YXm++YXe).Perm YNT:=by
   refine ZDi;rw[Ai]
  have qC:L.1.size=Y4y:=by rw[←iv,rL.len,pm.length_eq,g5,←hX.len,iv]
  have u7:h1 Y4y led Y7D:=u7;replace u7:=d9 qC u7;have ip:(YXm++YXe).length<4096:=aj pm.length_eq ah;have fin:=λh' d0 hW(dV:d0.Perm Zcm)z=>ak tm h' d0 hW ZL5 z;refine Yg;intro aA5 aA6 aA7;refine bd (Ko _ _ _ ?_)
  split
  ·refine bd (cb (hashByValue_scannable 8 lp.2) (wpAny_pure (TF Ko aA ?_ rL ip Zid)))
   split
   ·exact u7
   ·exact akJ u7
  ·exact bd (wpAny_pure (TF Ko aA u7 rL ip Zid))
noncomputable abbrev u9 (m:Nat):SetTable:={mask:=m,place:=#[],dummies:=#[],finger:=0,led:=true,moves:=0,plain:=true}
def hc(m n:Nat)(p:v9):v9:=n.rec p λO q=>Y9t q
noncomputable abbrev ka (m i pt:Nat):v9:={j:=i,more:=Y6S,i:=i,perturb:=pt,dummy:=none}
noncomputable abbrev mu (m i pt n:Nat):Nat:=YaW
theorem TH(m a b:Nat)(p:v9):hc m (a+b) p=hc m b (hc m a p):=by
 induction b with
 |zero=>rfl
 |succ b ai=>exact congrArg Y9t ai
theorem zc{m:Nat}(h:Y9J):i≤Z7x∧Y7q≤i+9∧Y7q≤m:=by
 unfold iS;by_cases q:i+9≤m
 ·rw[ZU];exact⟨Yk,YW,q⟩
 ·rw[ZN];exact⟨YW,Yk,h⟩
variable{pt:Nat}
theorem TJ{m:Nat}:∀k,i+k≤Z7x→ZQl={j:=i+k,more:=ZRI,i:=i,perturb:=pt,dummy:=none}:=by
 intro k
 induction k with
 |zero=>exact Zf
 |succ k ai=>
  intro h;have e:hc m (k+1) Y2w=Y9t ZQl:=rfl;exact aj e (aX (ai (ud h)) (if_pos (acj h:ZRI > 0)))
theorem TK{m:Nat}(h:Y9J):ZQk=ka m YJK YP6:=by
 have e:ZQk=Y9t (hc m Y6S Y2w):=rfl;have hs:i+Y6S=Y7q:=rd (zc h).1
 (refine aj e (aX (TJ _ (dH hs)) (aa hs (aa Yof ?_))))
 exact if_neg ZbT
theorem Fy(m i pt:Nat):YJK≤m:=ZQu
def kb(m n:Nat)(x:Y0j):Y0j:=n.rec x λO y=>ZUT
theorem Kp(m a b:Nat)(x:Y0j):kb m (a+b) x=kb m b (kb m a x):=by
 induction b with
 |zero=>rfl
 |succ b ai=>exact congrArg (λy:Y0j=>ZUT) ai
theorem TL{m:Nat}(h:Y9J)(n:Nat):(kb m n Yaa).1≤m:=by
 cases n with
 |zero=>exact h
 |succ n=>exact YQr
theorem akL{m:Nat}(h:Y9J)(L:Nat):∃n,n≤10*L∧YlU=ka m YJI YHA.2:=by
 induction L with
 |zero=>exact⟨0,YW,rfl⟩
 |succ L ai=>
  refine YM;obtain⟨n,az,e⟩:=ai;refine Yb;have aE:=TL (pt:=pt) h L;refine⟨n+(iS m YJI - YJI+1),?_,?_⟩
  ·exact gR az (dX (Nat.sub_le_iff_le_add'.mpr (zc aE).2.1))
  ·rw[TH,e,TK aE];rfl
theorem akM(m:Nat)(x:Y0j)(n:Nat):Yxp=x.2 / 32 ^ n:=by
 induction n with
 |zero=>exact(Nat.div_one _).symm
 |succ n ai=>
  show Yxp / 32=_;exact aT ai (aj (Nat.div_div_eq_div_mul ..) (bW Zeh rfl))
def Kq(m:Nat):Nat→YL
 |0,i=>i
 |n+1,i=>Kq m n YaZ
def meets(m:Nat):Bool:=(List.range (m+1)).all λi=>(di (m+1)).all λe=>(di (m+1)).any λc=>Kq m c i==e
theorem akN(m:Nat):∀n i,(kb m n YP1)=(Kq m n i,0):=by
 intro n
 induction n with
 |zero=>exact λi=>rfl
 |succ n ai=>
  intro i;have e:kb m (n+1) YP1=kb m n ZTE:=aT YDH (Z53);have aJ:ZTE=(YaZ,0):=by
   show mH m i 0=_;exact congrArg _ (Nat.zero_div ..)
  exact aj e (aX aJ (ai YaZ))
theorem akO{m:Nat}(hm:YVn)(af:Y9J)(he:YLf):∃c,c≤m∧(kb m c YP1).1=e:=by
 have h:meets m=true:=by rcases hm with q | q <;> exact ZKC <;> decide +kernel
 have h:=ju (ju h i (og (x3 af))) e (og (x3 he));refine YM;obtain⟨c,ao,h⟩:=OF h;exact ax (⟨c,hp (jK ao),aX (akN ..) Y15⟩)
theorem TM{m:Nat}(hm:YVn)(af:Y9J)(ar:pt<Yck)(he:YLf):∃L,L≤13+m∧YJI=e:=by
 have av:Ymc.2=0:=aj (akM ..) (Nat.div_eq_of_lt (ew ar Y2));refine YM;obtain⟨c,ao,mR⟩:=akO hm (TL (pt:=pt) af 13) he;exact ax (⟨13+c,c0 ao 13,aX Z53 (dU (iF rfl av:Ymc=(Ymc.1,0)) mR)⟩)
theorem akP{m:Nat}(hm:YVn)(af:Y9J)(ar:pt<Yck)(he:YLf):∃n,n<10*YQy∧ZV9=e:=by
 refine YM;obtain⟨L,eW,kd⟩:=TM hm af ar he;obtain⟨n,az,fq⟩:=akL (pt:=pt) af L;refine ax (⟨n,fF az (Nat.mul_lt_mul_of_pos_left (fF eW ?_) Y2),?_⟩)
 ·show Z2a;rw[gi];exact ZDj
 ·show YaW=e;exact aX fq kd
theorem TN(h:Int):SetTable.bits h<Yck:=by
 exact(Int.toNat_lt (Int.emod_nonneg _ YC)).mpr (Int.emod_lt_of_pos _ YC)
noncomputable abbrev w0 (m:Nat) (h:Int):Nat:=YpQ
theorem zd(m:Nat)(h:Int):YXt≤m:=ZQu
noncomputable abbrev f7 (m:Nat) (h:Int) (n:Nat):Nat:=mu m YXt YHq n
noncomputable abbrev oN (m:Nat) (h:Int) (n:Nat):v9:=hc m n (ka m YXt YHq)
theorem akQ(m:Nat)(h:Int)(n:Nat):(oN m h n).dummy=none:=by
 have a:∀p:v9,(Y9t p).dummy=p.dummy:=λp=>by
  by_cases q:Ynz
  ·exact ZCY
  ·exact ZCX
 induction n with
 |zero=>rfl
 |succ n ai=>exact(a _).trans ai
theorem akR{t:SetTable}{f:Z5o}{h:Int}(hd:YHs):∀(fuel n ne:Nat),n≤ne→ne<n+fuel→t.slot (f7 t.mask h ne)=Y2P→
  ∃k,n≤k∧k≤ne∧(∀i,n≤i→i<k→∃x,t.slot (f7 t.mask h i)=Y73 x∧f x≠h)∧
   ((ZbR=Y2P∧ZXy=some (Y2P YUc none))∨
    ∃x,ZbR=Y73 x∧f x=h∧ZXy=some (YbR YUc x (oN t.mask h (k+1)))):=by
 intro fuel
 induction fuel with
 |zero=>exact λn ne ak av O=>absurd ak (su av)
 |succ fuel ai=>
  intro n ne ak av he;have fx:ZXw=match t.slot YLj with
   |Y2P=>some (Y2P YLj (oN t.mask h n).dummy)
   |YbU=>qa t f h fuel (t.advance {YMi with dummy:=some YLj})
   |Y73 i=>if YUT then some (YbR YLj i Ynl)else ZXx:=rfl
  rcases Kk hd YLj with q | ⟨x,q⟩
  ·exact⟨n,YW,ak,Zgf,YY ⟨q,aj fx (As q (dU (akQ ..) rfl))⟩⟩
  ·by_cases z:f x=h
   ·exact⟨n,YW,ak,Zgf,YJ ⟨x,q,z,aj fx (As q (if_pos (beq_iff_eq.mpr z)))⟩⟩
   ·refine YM;obtain⟨k,dC,du,gs,jl⟩:=ai (n+1) ne (rb ak λe=>by replace he:=aQ q (dU e he);exact Hn he:n+1≤ne) (aL Y9A av) he;refine Yb;have aJ:ZXw=ZXx:=by
     exact aj fx (As q (if_neg λw=>z (eq_of_beq w)))
    refine⟨k,ud dC,du,λi a b=>?_,by rw[aJ];exact jl⟩;rcases Ob a with a | a
    ·exact gs i a b
    ·exact aV a (⟨x,q,z⟩)
theorem Kr{α:Y4k}[Y8Y][Y8Z]{L:ZC}:ZmL:=by
 induction L with
 |nil=>exact Zga
 |cons a L ai=>
  intro M bZ h;have bZ:=YE7;have aD:=YGo;have:=ZDt;replace this:=ZGM;exact ZEz
theorem akS{n:Nat}{t:SetTable}(b:YLs):∃e,e≤t.mask∧t.slot e=Y2P:=by
 refine ZHY;have aE:∀e,e∈di ZbN→e∈t.place.toList:=λe he=>by
  rcases Kk b.3 e with q | ⟨x,q⟩
  ·exact absurd ⟨e,ZQv,q⟩ az
  ·have w:=Fw q;replace w:=aj (l9) w;exact et w
 have w:=Kr (x9 (n:=ZbN)) aE;replace w:=bL b.1 (bL iv ZBw);exact absurd (au w b.5) (ayw _)
abbrev Own:=Z2s
theorem Ks{o:Own}:(o.getD j YNI).isNone=true↔YWI=Y3M:=by
 refine gT (sq) ?_
 cases YWI with
 |none=>exact⟨nb,Yrv⟩
 |some x=>cases x with
  |none=>exact⟨Zf,Zf⟩
  |some k=>exact⟨nb,λh=>cW Y4v⟩
theorem akT{n:Nat}{p:Z9}(h:(List.range n).find? p=Y6f):k<n∧p k=true∧∀i,i<k→p i=false:=by
 refine YM;obtain⟨bX,as,bs,e,aD⟩:=List.find?_eq_some_iff_append.mp h;refine Yb;have lp:∀i(l:Nat),YvY=YE3→l=i:=λi l q=>by
  replace q:=aT e q;refine YM;obtain⟨li,fa⟩:=jJ q;refine Yb;replace fa:=aQ YK8 fa;exact fa.symm
 have i5:=lp as.length k ZIG;refine⟨jK (ayi h),bX,YES⟩;replace af:=bL i5 af;have aq:YvY=some (as[i]'af):=by refine aj ZY1 ?_;exact Y2q
 have w:=aD _ Zcy;replace w:=k7 (lp i _ aq) w
 cases q:p i with
 |false=>rfl
 |true=>replace w:=YCo;exact nb w
theorem akU{m:Nat}{o:Own}:∀(fuel i pt:Nat),Y9J→(∃L,L<fuel∧o[YJI]?=Y3M)→
  ∃N,Hr m o fuel i pt=some ZV7∧o[ZV7]?=Y3M∧∀k,k<N→ZWH:=by
 intro fuel
 induction fuel with
 |zero=>exact λO O O z=>z.elim λL z=>absurd z.1 (pa L)
 |succ fuel ai=>
  intro i pt af z;obtain⟨L,eW,az⟩:=z;have fx:Hr m o ZOj i pt=match YwM with
   |Y6f=>some (i+k)
   |none=>Hr m o fuel YJK YP6:=rfl
  have w:∀k,Ylc→ZV8=i+k:=λk h=>by
   show(hc m k Y2w).j=i+k;exact congrArg _ (TJ k h)
  cases q:YwM with
  |some k=>
   have f:=akT q;have aR:Ylc:=hp (by have z:=Nat.add_lt_of_lt_sub' f.1;exact z);refine⟨k,by exact aj fx (dT q (bW ZdR rfl)),by refine aX ZdR ?_;exact Ks.mp f.2.1,λa aD e=>?_⟩;replace e:=bN (w a (au (c0 (h9 aD) i) aR)) e;have z:=f.2.2 a aD;replace z:=aQ Z54 z;exact nb z
  |none=>
   have full:∀k,k≤Y6S→ZWH:=λk aR e=>by
    have BL:Ylc:=au (c0 aR i) (dH ZYk);replace e:=bN (w k BL) e;have z:=List.find?_eq_none.mp q k (og (Nat.lt_sub_of_add_lt (by rw[gi];exact x3 BL)));exact z Z54
   cases L with
   |zero=>
    have z:=full 0 Z0;exact absurd az z
   |succ L=>
    rw[gi,Kp]at az;refine YM;obtain⟨N,ak,av,aP⟩:=ai YJK YP6 YQr ⟨L,Nat.lt_of_succ_lt_succ eW,az⟩;refine Yb;have ad:∀k,mu m i pt (YVB+k)=mu m YJK YP6 k:=λk=>by
     show(hc m _ Y2w).j=_;exact aX (TH ..) (dU (TK af) rfl)
    refine⟨YVB+N,by refine aj fx (dT q (bW ZDo ?_));exact ak,by refine ZCU;exact av,YOH⟩;by_cases z:k≤Y6S
    ·exact full k z
    ·obtain⟨d,iW⟩:=ayx (Dl z)
     (rw[ZZe]at aR;refine dU ZZe ?_)
     refine ZCU;exact aP d (ayy aR)
abbrev rM(m:Nat)(hs:Y8a)(o:Own)(n:Nat):Y1:=hr (o.size=m+1) (∀(j k:Nat),Yno→k<n) (∀(k:Nat)(h:Int),k<n→hs[k]?=YpK→∃N,o[Y99]?=Y5i∧∀i,i<N→∃oq,o[f7 m h i]?=some (some oq)) (∀(j h2 k:Nat),Yno→o[h2]?=Y5i→j=h2)
variable{hs:Y8a}
theorem rM.TO{m n:Nat}{o:Own}(x:Yoa)(aM:j≤m)(h:YWI≠Y3M):∃k,Yno:=by
 have l:j<o.size:=aL x.1 (x3 aM)
 cases q:o[j]'l with
 |none=>exact absurd ZHj h
 |some k=>exact⟨k,ZHj⟩
theorem rM.room{m n:Nat}{o:Own}(x:Yoa)(h:YB6):∃e,YLf∧o[e]?=Y3M:=by
 refine ZHY;have kv:∀e,e∈di (m+1)→o[e]?=some (some Ytn):=λe he=>((λe he=>x.TO he λq=>az ⟨e,he,q⟩:∀e,YLf→∃k,o[e]?=Y5i) e ZQv).elim λk q=>by rw[q];rfl
 have w:=Kr (M:=Y6L) (yg (ayz (λ{a b}aD ah n e=>n (x.4 a b _ (kv a aD) (aa e (kv b ah)))) (x9 (n:=m+1))):((di (m+1)).map λe=>Ytn).Nodup) λk aR=>(ee aR).elim λe z=>aV z.2 (og (x.2 e _ (kv e z.1)));replace w:=aQ fN ZGU;exact absurd (au w h) (ayw m)
theorem Kt{m:Nat}(af:Y9J)(n:Nat):ZV9≤m:=by
 have key:∀n,YxL≤m∧YaW+(hc m n Y2w).more=iS m YxL:=by
  intro n
  induction n with
  |zero=>exact⟨af,ZYk⟩
  |succ n ai=>
   have e:hc m (n+1) Y2w=Y9t YlU:=rfl;rw[e];generalize YlU=p at ai;by_cases q:Ynz
   ·have aC:Y9t p={p with j:=p.j+1,more:=p.more - 1}:=ZU;rw[aC];refine⟨Y7T,Eq.trans ?_ YCi⟩;exact aj ZO (congrArg _ (rd q))
   ·have aC:Y9t p={p with j:=YP7,more:=iS m YP7 - YP7,i:=YP7,perturb:=YMR.2}:=ZN;rw[aC];exact⟨YQr,rd (zc YQr).1⟩
 have k:=key n;exact au (au Yk (dH k.2)) (zc k.1).2.2
theorem rM.put{m n N:Nat}{o:Own}(x:Yoa){h:Int}(bJ:hs[n]?=YpK)(aJ:o[Y99]?=Y3M)(aC:∀k,k<N→o[ZOB]?≠Y3M):rM m hs YWD (n+1):=by
 have rH:Y99<o.size:=(wh aJ).1;have g:∀i,Yap=if Y99=i then some Y5j else o[i]?:=λi=>by
  refine aj (Array.getElem?_setIfInBounds) ?_;by_cases q:Y99=i
  ·exact aL ZU (aj ZU ((if_pos rH)))
  ·exact aL ZN (ZN)
 have up:∀{i k:Nat},ZWG→Yap=Y5i:=λ{i k}q=>by
  (refine aj Yke ?_;rw[if_neg]);exact q
  intro e;replace aJ:=aQ q ZGd;exact sk _ YLM
 have of:∀{i k:Nat},Yap=Y5i→(i=Y99∧k=n)∨ZWG:=λ{i k}q=>by
  replace q:=aQ Yke q;by_cases z:Y99=i
  ·replace q:=ZBo;exact YY ⟨z.symm,(cu YCv).symm⟩
  ·replace q:=aQ Ylw q;exact YJd
 refine⟨by refine aj Array.size_setIfInBounds ?_;exact x.1,λj k q=>(of q).elim (λz=>aa z.2 (o9 n)) λz=>p9 (x.2 j k z),λk h' aR aF=>?_,λj h2 k q bS=>?_⟩
 ·rcases Ao aR with l | l
  ·refine YM;obtain⟨M,a,b⟩:=x.3 k h' l aF;exact ax (⟨M,up a,λi af=>(b i af).imp λO z=>up z⟩)
  ·replace aF:=aQ bJ (bN l aF);have akV:=cu aF;subst akV;refine⟨N,by exact aj Yke (aj Y0c (fH l rfl)),λi af=>YM⟩;obtain⟨oq,z⟩:=x.TO (Kt Yr4 i) (aC i af);exact ax (⟨oq,up z⟩)
 ·rcases of q with z | z
  ·rcases of bS with k9 | k9
   ·exact aj z.1 (k9.1.symm)
   ·exact absurd (x.2 _ _ k9) (dS z.2 ZbU)
  ·rcases of bS with k9 | k9
   ·exact absurd (x.2 _ _ z) (dS k9.2 ZbU)
   ·exact x.4 j h2 k z k9
theorem akW{m:Nat}(hm:YVn){hs:YCF}(aE:hs.size≤m+1):∃o,Of m hs=YB∧rM m hs.toList o hs.size:=by
 have key:∀(l d:Y8a)(o:Own),hs.toList=d++l→rM m hs.toList o d.length→∃o',l.foldl (λ(acc:Option (Own×Nat))h=>do
   let (owner,k) ←acc;let j ←Hr m owner YQy YpQ YHq
   pure (owner.setIfInBounds j Y6f,k+1)) (some (o,d.length))=some (o',hs.toList.length)∧rM m hs.toList o' hs.toList.length:=by
  intro l
  induction l with
  |nil=>exact λd o e x=>⟨o,by refine aa e (aa Y1U ?_);rfl,by rw[show hs.toList.length=d.length by rw[e,eL]];exact x⟩
  |cons h l ai=>
   intro d o e x;have gY:d.length<hs.toList.length:=by refine bW e (aL cj (bW g5 ?_));exact ZDM
   have hd:hs.toList[d.length]?=YpK:=YT4
   refine YM;obtain⟨r,bo,fB⟩:=x.room (hp (ew gY (by refine aj iv ?_;exact aE)):d.length≤m);obtain⟨L,eW,kd⟩:=TM hm Yr4 (TN h) bo;obtain⟨N,f1,f2,cz⟩:=akU (o:=o) YQy YXt YHq Yr4 ⟨L,fF eW (by show Z2a;rw[gi];exact ZDj),by refine aX kd ?_;exact fB⟩;have ld:(d++[h]).length=Y5Z:=YGD
   obtain⟨o',bk,z⟩:=ai (d++[h]) _ Yi6 (by refine aL ld ?_;exact(x.put hd f2 cz));refine ax (⟨o',?_,z⟩);refine aj NI (bL bk (aa ld ?_));refine congrArg (λa=>Hc _ a l) ?_;show(do
    let j ←Hr m o YQy YpQ YHq
    pure (o.setIfInBounds j (some d.length),Y5Z))=_
   refine aT f1 ?_;rfl
 have no:∀j k:Nat,(Array.replicate (m+1) (none:Y0X))[j]?≠Y5i:=λj k q=>by
  rw[Array.getElem?_replicate]at q;by_cases z:j<m+1
  ·replace q:=ZBo;exact absurd (cu q).symm ZZh
  ·rw[Ylw]at q;exact Yig
 refine YM;obtain⟨o,e,x⟩:=key hs.toList [] (Array.replicate (m+1) none) rfl ⟨Array.size_replicate,λj k q=>ZDZ,λk O q=>absurd q ZX2,λj O k q=>ZDZ⟩;refine ax (⟨o,?_,by replace x:=bL iv x;exact x⟩);unfold Of;refine bN (Array.foldl_toList ..) ?_;exact(congrArg (Option.map Yh) e)
def BM(m:Nat)(place:ZB)(es:Y38):Y1:=∀(i:Nat)(e:Z7)(j:Nat),YD7=Y5A→place[i]?=Y0N→∃N,f7 m e.1 N=j∧∀k,k<N→∃f5:Nat,ZX7=some (f7 m e.1 k)
theorem TP{f:YO2}{g:YIV}(h:∀x∈l,f x=some (g x)):ZTe=l.map g:=by
 induction l with
 |nil=>rfl
 |cons a l ai=>exact aj Dm (dT YGo (aL mF (congrArg _ (ai λx aq=>h x ZMT))))
theorem akX{f mv:Nat}{pl:Bool}{es:Y0W}(az:es.size≤31):∃t o,Z4a=Y59∧YyB=es.size∧YUu∧YXY∧(YMf).toList.Perm es.toList∧BM 31 t.place (YMf).toList:=by
 refine YM;obtain⟨lg,aJ,x⟩:=akW (m:=31) Y62 (hs:=Y1W) (by refine aj Array.size_map ?_;exact kn az);refine Yb;replace x:=bL Array.size_map x;have aq:∀{k:Nat}{e:Z7},ZNR→(Y1W).toList[k]?=Zak:=λh=>by rw[Array.toList_map,gy,l9,h];rfl
 generalize kd:((di (31+1)).filterMap λj=>(lg.getD j none).map ZjP)=L;revert L;refine Y18;intro L kd;have aC:Z4a=some ({mask:=31,place:=(YKD).toArray,dummies:=#[],finger:=f,led:=led,moves:=mv,plain:=pl},(YR5).toArray):=by
  dsimp only [Hp];refine aT aJ (aV kd ?_);rfl
 have mem:∀{z:Y0j},z∈L↔z.1≤31∧lg[z.1]?=some (some z.2):=λ{z}=>by
  have mS:∀{j k:Nat},ZU6=Y6f↔lg[j]?=Y5i:=λ{j k}=>by
   refine aT (sq) ?_
   cases q:lg[j]? with
   |none=>exact⟨Yrv,Yrv⟩
   |some y=>exact⟨λh=>ZKE,λh=>Y4v⟩
  refine eT kd (aj (propext abN) ?_);refine⟨λh=>h.elim λj w=>?_,λh=>⟨z.1,og (x3 h.1),by rw[mS.mpr h.2];rfl⟩⟩
  cases q:ZU6 with
  |none=>rw[q]at w;exact cW w.2.symm
  |some k=>
   rw[q]at w;rw[←cu w.2];exact⟨hp YVL,mS.mp q⟩
 have rs:(YKD).Pairwise YEp:=aV kd (TB lg _ Ho);have pr:(YR5).Perm (di es.size):=(Dr (yg (ayz (λ{a b}aD ah n e=>absurd (x.4 a.1 b.1 a.2 (mem.mp aD).2 (aa e ((mem.mp ah).2))) (ej n)) (HC rs)):(YR5).Nodup) x9).mpr λk=>by
  refine⟨λh=>Ywx λz w=>og (x.2 z.1 k (aV w.2 ((mem.mp w.1).2))),Y6k⟩;have lk:=jK h;refine YM;obtain⟨N,a,O⟩:=x.3 k _ lk (aq Ynp);exact ax (kp ⟨(_,k),mem.mpr ⟨Kt Zfc N,a⟩,rfl⟩)
 have ex:∀z∈L,ZNS=some Yk2:=λz hz=>by
  rw[sq,od (x.2 z.1 z.2 ZUh.2:z.2<es.size)];rfl
 have jy:((YR5).toArray.filterMap Y4a).toList=L.map ZlF:=by
  refine aj Array.toList_filterMap (aj ayA ?_);exact TP ex
 have BN:L.length=es.size:=by
  have w:=pr.length_eq;replace w:=ZGU;exact w
 have akY:(L.map ZlF).Perm es.toList:=by
  have w:=pr.filterMap Y4a;replace w:=aQ ayA (bL (filterMap_getElem?_range ..) w);refine aV (TP (f:=Y4a ∘ Y1w) ex) ?_;exact w
 refine⟨_,_,aC,by rw[←iv,jy,bt,BN],⟨?_,rs,rfl,rfl,az⟩,rfl,by refine ZEa;exact akY,λi e j he aM=>?_⟩
 ·show(YKD).toArray.size=es.size;exact aL Ac (aj YF (BN))
 ·rw[jy,gy]at he;have aM:(YKD)[i]?=Y0N:=by refine bL aM ?_;exact(q8).symm
  replace aM:=aQ (gy) aM
  cases q:L[i]? with
  |none=>rw[q]at aM;exact cW aM.symm
  |some z=>
   rw[q]at he aM;have hz:z∈L:=et q;have m1:=ZUh;refine YM;obtain⟨N,a,b⟩:=x.3 z.2 e.1 (x.2 _ _ m1.2) (aq ((ex z hz).trans he:ZNS=Y5A));refine ax (⟨N,(x.4 _ _ _ a m1.2).trans (cu aM:z.1=j),YOH⟩);obtain⟨oq,c⟩:=b k aR;obtain⟨f5,j5⟩:=pe ((@mem (f7 31 e.1 k,oq)).mpr ⟨Kt Zfc k,c⟩);refine⟨f5,?_⟩;rw[q8,gy,j5];rfl
theorem Fz{v:V}(h:Y9I):YTr:=ZY7.1
theorem akZ{v u:V}(h:Y9I)(h':YM5):YGO:=ZY7.2.2 u h'
abbrev ak0(h:Heap)(x:Value)(P:Y1):Y1:=∀(a:Nat)(y:Value)(bf:Yn),Y86→TupAt h a YBX→(∃s t,y=YJp)→(∀z∈bf,ZmS)→P
abbrev ak1(h:Heap)(x:Value):Y1:=∀P:Y1,ak0 h x P→P
theorem ze{v:V}(aO:Y9I)(r:Y2G):ak1 h x:=by
 refine YM;obtain⟨vs,e,aO⟩:=V.ph (aO:Zcr=true);refine Yb;subst e;refine r.gj.elim λa r=>r.elim λitems r=>?_
 cases vs with
 |nil=>exact nb aO
 |cons u us=>
  have aO:=cL aO;refine r.2.2.un λy bf e b6 dv=>(λO bA=>bA a y bf r.1 (aV e YWq) ?_ YOM)
  ·obtain⟨n,fq⟩:=V.kr aO.1;subst fq;exact b6.elim λt w=>w.elim λs w=>⟨s,t,w.2⟩
  ·refine YM;obtain⟨i,af⟩:=pe hz;have li:ZRA:=aV dv.length Yae;obtain⟨k9,ak,av⟩:=dv.get YjV;obtain⟨n,fq⟩:=V.jM (ju aO.2 _ Zcz);refine Yb;replace av:=bL fq av;exact aa (c4 af ak) (av.elim λt w=>⟨n,t,w⟩)
theorem TQ{E:Y8}{v:V}(aO:Y9I)(r:Y2m){Q:Y1n}(h:YCP):wpAny YR A (ofAClassStatement 8 x) Q E s:=by
 refine ze aO r _ λa y bf e k8 bb TR=>jg e (k8.elim ZjO);delta ofAClassStatement;show wpAny _ _ (typeOf YA >>= _) _ _ _;refine bd (wpAny_typeOf ZRz (bd (wpAny_pure ZJZ)));show Ze1;refine Z2r;have it:∀z∈YBX,(∃s t,z=YJp)∨ZmS:=λz hz=>(dz hz).elim (λe=>YY (aa e bb)) λhz=>YJ (TR z hz);generalize YBX=l at it;show wpAny _ _ (forIn l _ _) _ _ s
 induction l with
 |nil=>exact ZJf
 |cons z l ai=>
  refine Yim;intro ak2 ak3;refine bd (bd (wpAny_of_eq (a:=false) ?_ Zm))
  ·rcases it z b3 with⟨s,t,e⟩ | ⟨i,t,e⟩ <;> subst e <;> rfl
  exact ai λz hz=>it z ZMU
theorem ak4{E:Y8}{v:V}(aO:Y9I)(r:Y2m){Q:Y1n}(h:YCP):wpAny YR A (hashByValue 8 x) Q E s:=by
 refine ze aO r _ λa y bf e k8 BO TR=>?_;obtain⟨TS,ty,fy⟩:=BO;refine jg e (k8.elim λk aA=>bd (wpAny_specialOf ZRz G9.lookup Yho));show Ze1;refine Z2r
 (refine cb Y4Q (aa fy ?_))
 exact bd (bd (wpAny_pure (wpAny_pure YNg)))
theorem ak5{E:Y8}{v:V}(aO:Y9I)(r:Y2m){l:Yn}(aE:∀y∈l,∃u,YM5∧Yg3){Q:Y1n}(h:YCP):wpAny YR A (searchCouldBeSeen x l) Q E s:=by
 refine Y6I
 induction l with
 |nil=>exact ZJf
 |cons y l ai=>
  obtain⟨u,bj,gA⟩:=aE y b3;have ai:=ai λz hz=>aE z ZMU;refine Yim;intro Jm Jn;refine bd (bp λax=>ze aO r _ λa O O bx O O O=>ze bj gA _ λb O O cM O O O=>Yb);subst bx;subst cM;show wpAny _ _ (if YvE then _ else _) _ _ _;by_cases q:YvE
  ·exact cb ZU ZeG
  ·refine cb ZN Y0K;intro aA8 aA9;exact bd (HQ 8 _ _ _ _ (Fz aO) r (cb Y2u (bd (HQ 8 _ _ _ _ (Fz bj) gA (cb Y2u (bd (TQ aO r (cb Y2u (bd (TQ bj gA (cb Y2u ZeG)))))))))))
abbrev FA(n:Nat)(led:Bool)(t:SetTable)(es:Y38):Y1:=jd YLs ((YXZ∧n≤4)∨YXY) (BM t.mask t.place es)
theorem FA.way{n:Nat}{t:SetTable}{es:Y38}(x:FA n led t es):t.gaveWay=false∧(YXZ∨YXY):=by
 unfold SetTable.gaveWay;rcases x.2 with h | h
 ·rw[h.1];exact YZM
 ·rw[h];exact ZnZ
theorem ak6{E:Y8}{Q:Y9f}{c:Bool}{m:YFf}{T U:Y7I}(hm:∀R:Y1n,R false s→wpAny M A m R E s)(h:wpAny M A T Q E s):wpAny M A (if c=true then m >>= λb=>if Y6G then U else T else T) Q E s:=by
 cases c with
 |true=>exact bd (hm _ h)
 |false=>exact h
theorem ak7{E:Y8}(bj:Y3W){u:V}(az:∀v∈us,Y9I)(tm:YM5)(bg:YKl){es:Y0W}{t:SetTable}(aA:Y3g)(T:Z49)(hX:ZPH){Q:SetFound→YP}(BP:Yq4→Q (.there none) s)(J1:YE9→∀N,ZbQ→(∀k,k<N→∃f5:Nat,t.place[f5]?=some ZOC)→Q (Y6z YUb false) s):wpAny YR A (setSearch a x Y0Z true) Q E s:=by
 have hI:=T.1;refine YM;obtain⟨e,he,hs⟩:=akS hI;obtain⟨ne,iA,ak8⟩:=akP (pt:=Zax) T.way.2 (zd t.mask Y0Z) (TN _) he;refine Yb;have ak9:ne<100000:=lD iA (by rcases T.way.2 with q | q <;> refine dU q ?_ <;> decide);have hs:t.slot (f7 t.mask Y0Z ne)=Y2P:=by
  show t.slot (mu t.mask (w0 t.mask Y0Z) Zax ne)=_;exact aX ak8 hs
 have fa:∀{i:Nat}{v:V},Yq3=Ym→∃y,YD7=some (YU7,y)∧aK s.heap y v:=λ{i v}h=>by
  have li:ZR8:=aa hX.len (YmG.1);have bb:=YjV;refine YM;obtain⟨ov,ak,av,aP⟩:=hX.at_ bb;refine Yb;have ev:=c4 h ak;subst ev;replace bb:=aQ (l9) bb;exact⟨(es.toList[i]'li).2,aj bb (HG av rfl),aP⟩
 have FC:∀N,ZbQ→(∀k,k<N→Zmd)→YE9:=λN cf aO hm=>by
  obtain⟨i,af⟩:=pe hm;obtain⟨y,bb,O⟩:=fa af;have li:i<t.place.size:=by exact aL hI.1 ((wh bb).1)
  have ar:YHt=some (t.place[i]'li):=od li;obtain⟨M,FD,ala⟩:=T.3 i _ _ (by refine aj (l9) ?_;exact bb) ar;rcases Nat.lt_trichotomy M N with l | l | l
  ·obtain⟨z,hz,Eo⟩:=aO M l;have dD:=Fw hz;replace dD:=fU FD dD;have qA:z=i:=aQ (Ki hI.2 dD) ((Ki hI.2 ar));exact Eo (aa qA af)
  ·replace cf:=bN FD (dU l cf);exact Kl hI.2 cf i ar
  ·obtain⟨f5,h'⟩:=ala N l;exact Kl hI.2 cf f5 h'
 have loop:∀d n fuel(u6:Option v9),n+d=ne→d<fuel→u6.getD (t.probeStart Y0Z)=ZWC→(∀k,k<n→Zmd)→wpAny YR A (setSearchFrom a x Y0Z true fuel u6) Q E s:=by
  intro d
  induction d using Nat.strongRecOn with
  |ind d ai=>
   intro n fuel u6 hd hf alb aO
   cases fuel with
   |zero=>exact absurd hf (pa d)
   |succ fuel=>
   refine YM;obtain⟨k,dC,du,gs,jl⟩:=akR (f:=λi=>(es[i]?.map Yh).getD 0) (h:=Y0Z) hI.3 (10*Hq t.mask) n ne (aV hd (cx n d):n≤ne) (ew iA Y1X) hs;refine Yb;have Ku:∀i,i<k→∃y:Nat,t.slot (f7 t.mask Y0Z i)=Y73 y∧Zco:=λi af=>by
    by_cases q:i<n
    ·exact aO i q
    ·obtain⟨y,ak,av⟩:=gs i Y9F af;refine⟨y,ak,λe=>av YM⟩;obtain⟨z,hz,O⟩:=fa e;refine ax (gT hz ?_);rfl
   refine YL6;dsimp only;refine aa T.way.1 (aa alb Yil);generalize cR:t.probe _ _ ZWC=mt;rcases jl with⟨gZ,oO⟩ | ⟨y,gZ,oO,BQ⟩
   ·exact iy (cA cR oO) (wpAny_pure (J1 (FC k gZ Ku) k gZ λi af=>(Ku i af).elim λy z=>⟨y,Fw z.1⟩))
   ·refine iy (cA cR BQ) ?_;have BR:y<us.length:=by exact bL hX.len (aL iv (bL hI.1 ((wh (Fw gZ)).1)))
    refine YM;obtain⟨z,hz,Fe⟩:=fa ZLj;refine Yb;have Kv:=az _ Zcx;refine ak6 (λR q=>ak5 tm bg Y8C q) ?_
    ·refine YM;obtain⟨bk,rJ,ev⟩:=YU6;refine Yb;have m1:bk∈es.toList:=by
      have dD:=rJ;replace dD:=bL Array.toList_filter dD;exact(ri dD).1
     refine YM;obtain⟨i,af⟩:=pe m1;obtain⟨ov,ak,O,aP⟩:=hX.at_ af;exact ax (⟨ov,az ov ZNX,aV ev aP⟩)
    refine iy hz (bd (wpAny_holding (yq _ 8 8 _ _ _ _ _ (Fz Kv) (Fz tm) (akZ Kv tm) YLk Fe bg YL6)));by_cases q:us[y]'BR=u
    ·exact aa q (aa Y3t (wpAny_pure (BP (aV q Zcx))))
    ·refine aa (ic q) (bp λax=>ze Kv Fe _ λJu O O qA O O O=>Yb);have nI:t.sameMemory t.moves t.mask=YNL:=ZRX;refine aa nI (aa gZ ?_);show wpAny _ _ (match es[y]? with | some (fst,mP)=>_ | none=>_) _ _ _;refine iy hz ?_;show wpAny _ _ (isSame z z >>= _) _ _ _;refine aa qA (bd (wpAny_isSame_ref_self YGB));obtain⟨eJ,u3⟩:=ayx (rb du λe=>by replace hs:=aQ gZ (dU e hs);exact Hn hs:k<ne);have ld:eJ<d:=by
      have w2:n+eJ<n+d:=aL (hd.trans u3:n+d=k+1+eJ) (aL Y9A (x3 (h7 dC eJ)));exact ayy w2
     refine ai eJ ld (k+1) fuel YHp u3.symm (ew ld (hp hf)) rfl YES;rcases Ao af with l | l
     ·exact Ku i l
     ·refine⟨y,aa l gZ,λe=>q ?_⟩;replace e:=aQ ZLj e;exact Y4I
 exact loop ne 0 100000 none (l8 ne) ak9 rfl λk h=>absurd h ZX2
theorem alc{m:List β}{p:Nat}{a x:α}{b y:β}(aE:l.length=m.length)(ar:p≤l.length)(aq:(ZTk++a::ZTd)[i]?=YQ)(bb:(m.take p++b::m.drop p)[i]?=Y06):(x=a∧y=b)∨∃k:Nat,l[k]?=YQ∧m[k]?=Y06:=by
 have l1:(l.take p).length=p:=Oi ar;have l2:(m.take p).length=p:=Oi (aV aE ar);by_cases q:i<p
 ·replace aq:=aQ Z5j (aQ (qb ZTl) aq);replace bb:=aQ Z5j (aQ (qb ZTm) bb);exact YJ ⟨i,aq,bb⟩
 ·have q:=Y9F;replace aq:=k7 l1 (aQ (ra ZTl) aq);replace bb:=k7 l2 (aQ (ra ZTm) bb)
  cases e:i - p with
  |zero=>
   (replace aq:=YhZ;replace bb:=Yha)
   exact YY ⟨(cu aq).symm,(cu bb).symm⟩
  |succ d=>
   (replace aq:=aQ (acd) (aQ (ayB) YhZ);replace bb:=aQ (acd) (aQ (ayB) Yha))
   exact YJ ⟨p+d,aq,bb⟩
theorem TU{xs:YQZ}{p:Nat}{j x:α}(h:Y3y):∃f5:Nat,(pb xs p j)[f5]?=YQ:=by
 have m:x∈(pb xs p j).toList:=(ayr xs p j).mem_iff.mpr (by
  exact aj acf (ko _ (et (by rw[l9];exact h))))
 obtain⟨f5,h'⟩:=pe m;exact⟨f5,by refine aQ (l9) ?_;exact h'⟩
theorem ald{m p N:Nat}{place:ZB}{es:Y0W}{h:Int}(hs:es.size=place.size)(ar:p≤place.size)(r:BM m place es.toList)(aO:∀k,k<N→∃f5:Nat,ZX7=some ZOB):BM m (pb place p Y99) (pb es p YBm).toList:=λi e j he aM=>by
 have aE:es.toList.length=place.toList.length:=aL iv (aL iv hs);replace he:=eT YdN he;replace aM:=eT YdN ZEM;rcases alc aE (aL iv (aL hs ar)) he aM with⟨aJ,aC⟩ | ⟨k,ak,av⟩
 ·refine aa aJ (⟨N,aC.symm,YOH⟩);obtain⟨f5,h'⟩:=aO k aR;exact TU h'
 ·replace av:=aQ (l9) av;refine YM;obtain⟨M,a,b⟩:=r k e j ak av;refine ax (⟨M,a,λoq aR=>?_⟩);obtain⟨f5,h'⟩:=b oq aR;exact TU h'
abbrev ale(w:World)(led:Bool)(h:Heap)(a:Nat)(us:Y3)(P:Y1):Y1:=∀(es:_)(ep:_)(t:_),YGr→Z49→Ykt→P
abbrev qH(w:World)(led:Bool)(h:Heap)(a:Nat)(us:Y3):Y1:=∀P:Y1,ale w led h a us P→P
theorem qH.set(x:qH w led h a us):m8 w led h a us:=x _ λes ep t c6 cT eY=>(λO bA=>bA es ep t c6 cT.1 eY)
theorem alf{n m:Nat}(h:(m=7∧n≤4)∨(m=31∧n≤18)):decide (n*5≥m*3)=false:=decide_eq_false (su (by
 rcases h with⟨e,h⟩ | ⟨e,h⟩
 ·exact ZKy
 ·exact ZKy))
theorem alg{E:Y8}{es:Y0W}{t:SetTable}(aA:Y3g)(hI:YUu)(hX:ZPH)(fG:es.size=5){Q:Y5Q}(h:∀h' d0,YDf→YTn→ZXr→Q () Yx):wpAny YR A (setRelay a Zda) Q E s:=by
 refine YM;obtain⟨dg,o,aJ,aC,BS,TV,pm,rc⟩:=akX (f:=t.finger) (mv:=t.movedTo 31) (led:=t.led) (pl:=t.plain) (es:=es) (by refine aj fG ?_;decide);obtain⟨d0,dV,Kw⟩:=(hX.keep (qg aA BI (km s.heap a (x6 (YMf) dg)).2)).perm pm;refine ax (bd (wpAny_setState_of aA rfl hI.fits (cb (if_neg (by refine bW sizeLine_eq ?_;decide)) ?_)));refine bd (jg (aJ:t.relaid Y9m Zda=some (dg,o)) ?_);show wpAny _ _ (if(YyB !=es.size)=true then _ else _) _ _ _;refine cb (if_neg (by refine OP aC (dS Yhw ?_);decide)) ?_;refine wpAny_pure (wpAny_storeSet_of aA rfl (h _ d0 ZTO dV (λO bA=>bA _ _ _ (za aA _ dg) ⟨?_,YJ TV,d9 TV rc⟩ Kw)) (by refine aj aC (aj fG YSD);decide));exact d9 aC (⟨BS.1,BS.2,BS.3,BS.4.trans hI.4,BS.5⟩)
theorem alh{E:Y8}(bj:Y3W){u:V}(az:∀v∈us,Y9I)(tm:YM5)(bg:YKl)(Z:qH w led s.heap a us)(ah:Yq2){Q:Y1n}(h0:Yq5)(ak:YE9→∀h' d0,YDf→YTm→ZXr→Yec):Zdp:=by
 refine bp λax=>Z _ Yrr;have hI:=T.1;refine ze tm bg _ λaBa O O ex O O O=>ax Ze8;dsimp only;rw[show byScan x es=false by rw[ex];rfl];refine bd (ak7 bj az tm bg aA T hX (λhm=>wpAny_pure (h0 hm)) λhm N cf aO=>YL6);have pt:=TA hI cf;have fZ:ZNN:=by exact ZGV
 generalize aM:YUb=j at cf pt ⊢;have rL:=hX.ins YBs bg;rw[←Hm]at rL;have pm:(us.take YBs++u::us.drop YBs).Perm YNT:=by
  refine ZDi;rw[Ai]
 have rc:=ald (x:=x) (hI.1.symm) (aa hI.1 YWh.2.1) T.3 aO;rw[aM,←YWh.2.2]at rc;have qC:(pb es YBs (Y0Z,x)).size=Y4y:=Km _ _ _;generalize pb es YBs (Y0Z,x)=f6 at rL rc qC ⊢;have main:∀cy:SetTable,cy.place=Yb9→cy.dummies=#[]→cy.led=led→cy.mask=t.mask→wpAny YR A (do
   storeSet a f6 cy
   if(YtO&&cy.tooFull)=true then do
    setRelay a (wa Y4y)
    YMn
   else YMn) Q E s:=λcy ek cO ky kS=>by
  have s1:=km s.heap a Zeg;have dC:=ZY5;have Kx:ZNM:=aV fZ.symm ah;have cp:cy.tooFull=decide (Y4y*5≥t.mask*3):=by
   delta SetTable.tooFull Od;refine aa ek (aa cO (aa pt.1 (aa kS ?_)));rfl
  have ali:Y4y≤cy.mask:=by
   refine aL kS ?_;rcases T.2 with q | q
   ·refine aL q.1 ?_;exact au (dX q.2) Y2
   ·refine aL q ?_;exact ZF2
  have TX:h1 f6.size led cy:=by refine d9 qC ?_;exact⟨ek▸pt.1,ek▸pt.2.1,cO,ky,ali⟩
  have alj:BM cy.mask cy.place f6.toList:=by refine aj ek (d9 kS ?_);exact rc
  refine bd (wpAny_storeSet_of aA rfl ?_ (by refine aj qC YSD;exact ZF2));have fin:YzA→Q true {s with heap:=s.heap.update a Zeg}:=λq=>ak hm _ _ s1 pm (λO bA=>bA f6 Y96 cy Zfa ⟨TX,by rw[kS,qC];exact q.imp id λq=>q.1,alj⟩ ZYc);by_cases q:YzA
  ·refine aa cp (aa (alf q) ?_);exact wpAny_pure (fin q)
  ·have rN:YXZ∧es.size=4:=by
    rcases T.2 with z | z
    ·refine⟨z.1,mG z.2 (hq λl=>q (YY ⟨z.1,l⟩))⟩
    ·exact absurd (YJ ⟨z,Kx⟩) q
   refine aa cp (aa rN.1 (aa rN.2 ?_));exact bd (alg Zfa TX ZYc (by exact aj qC (congrArg _ rN.2)) λh' d0 hW dV z=>wpAny_pure (ak hm h' d0 (s1.trans hW) ZL5 z))
 show wpAny _ _ (if YzC then _ else _) _ _ _;by_cases pl:YzC
 ·rw[if_pos pl];exact bd (ak4 tm bg (main {Y3N.1 with plain:=false} rfl YHZ.1 YWh.1 rfl))
 ·rw[if_neg pl];exact bd (wpAny_pure (main Y3N.1 rfl YHZ.1 YWh.1 rfl))
abbrev BU(prog:Program)(w:World)(S:Nat)(inv:Z5V)(ok:Y5R):Y1:=hr (∀{A:Around}{E:Y8}{s:Shared}{us:Y3}{u:V}{x:Value}{Q:Y1n},Y3W→(∀v∈us,ok v)→ZRs→Y7x→YKl→Yq2→Yq5→(YE9→∀h' d0,mE S s.heap h'→YTm→ZRq→Yec)→wpAny YR A (setAddHashed S x Y0Z) Q E s) (∀{us:Y3}{h h':Heap},ZRr→Y2U→YlA→Ym5) (∀{A:Around}{E:Y8}{s:Shared}{u:V}{x:Value}{Q:YdQ},Y3W→Y7x→YKl→(∀tk,Q Y0Z YIS)→Zdo) (∀{us:Y3}{h:Heap},ZRr→ZmQ)
abbrev lQ(us vs:Y3):Y1:=hR us.Nodup ZmD
theorem lQ.snoc{d0:Y3}{u:V}(m:YMK)(bj:YE9)(p:YTm):lQ d0 ZdJ:=⟨p.nodup_iff.mpr (ma ⟨bj,m.1⟩),λO=>aj (propext p.mem_iff) (aj YHY (aL YMl (bW ZXL (aX ZXF ZWU))))⟩
theorem lQ.same{u:V}(m:YMK)(bj:Yq4):lQ us ZdJ:=⟨m.1,λv=>by
 exact aj ZXF (aL YMl (bW ZXL (⟨YY,λh=>h.elim id λe=>aa e ((m.2 u).mp bj)⟩)))⟩
theorem lQ.len(m:YMK):us.length≤vs.length:=by
 have:∀{L M:Y3},Ydg:=λ{L M}=>by
  classical
  exact @Kr V instBEqOfDecidableEq inferInstance L M
 exact this m.1 λv aO=>Yxw
variable{inv:Z5V}
theorem alk{R:Y4A}{S l:Nat}{ok:Y5R}(C:Z36)(bJ:YJy)(bj:Ycp)(alm:l≠I)(FE:S≠I)(Ky:S≠l)(aR:∀v∈vs,ok v)(jR:YNa):
  ∀(rest d:Y3)(s:Shared)(us:Y3),vs=YLN→s.heap.IsListIter I l d.length→YN4→YS3→ZRs→lQ us d→
   (∀h' tk d0,ZRq→lQ d0 vs→(∀b o,YGE→ZIO)→R YPo Y0w)→
   codeAny YR A Z0G R s:=by
 have W:=ab9 (prog:=prog) (w:=w) bJ I l alm items;intro rest
 induction rest with
 |nil=>
  intro d s us e iV eW bo af m gI;have fq:items.size=d.length:=bL iv (aj bo.length (aX e ZKB));refine ZJv;intro aBb aBc aBd;refine bd (W.done s _ _ ⟨aa fq iV,eW⟩ λh' tk k=>?_);have aln:S∉[I]:=Zk6;refine YM;obtain⟨es,ep,t,aA⟩:=C.4 af;refine Yb;have ax:∀b o,ZIO:=Zhv;replace e:=ZGQ;refine wpAny_pure (gI h' tk us (C.2 af (λb o q z=>ax b o (λcM=>?_) q) ((k S _ aln aA).trans aA.symm)) (aa e m) λb o O n q=>ax b o n q);obtain⟨AO,qn,ao,O⟩:=iV;replace q:=ZBy;replace z:=ZBV;exact ZfQ
 |cons u rest ai=>
  intro d s us e iV eW bo af m gI;have gY:d.length<items.size:=bL iv (aL bo.length (bW e (aL cj ZDM)));have hd:vs[d.length]?=YpN:=YT4
  have TY:Y7x:=aR u (et hd);refine ZJv;intro akq akr aks;refine bd (W.item d.length s _ _ gY ⟨iV,eW⟩ λv ak tk dk sM k=>?_);have ax:∀b o,b≠I→Y9Y→ZEg=YB:=Zhv;have dC:eU s.heap ak:=λb o q z=>ax b o (λcM=>by
   obtain⟨AO,qn,ao,O⟩:=iV;replace q:=ZBy;replace z:=ZBV;exact ZfQ) q
  obtain⟨es,ep,t,aA⟩:=C.4 af;have TZ:=C.2 af dC ((k S _ (Zk6:S∉[I]) aA).trans aA.symm);have zf:=bo.keep dC;obtain⟨ov,Kz,bz⟩:=zf.get hd;replace Kz:=aQ dk (aQ (l9) Kz);have ev:=cu Kz;subst ev;have aC:vs=Yj5++rest:=Yi6
  have alo:(d++[u]).length=Y5Z:=YGD
  have alp:Yq2:=au (dX m.len) (au (bW e (aL cj YLB)) jR);have go:∀av w1 d0,inv d0 av→lQ d0 Yj5→mE S ak av→wpAny YR A.in1 (again Z0G) ZiY ZiP Zft:=λav w1 d0 dt aH hW=>by
   have get:∀b,YGE→ZFK=ZEg:=hW.2;refine wpAny_pure ⟨plainId_quiet acm _,ai Yj5 Zft d0 aC ?_ ?_ (zf.keep (qg (ax S _ FE aA) BI hW.2:ZMk)) dt aH λaP alq alr als bF gs=>gI aP alq alr als bF λb o dn fI q=>gs b o dn fI ((get b dn).trans (ax b o fI q))⟩
   ·refine aL alo ?_;obtain⟨AO,qn,z⟩:=sM.1;exact⟨AO,(get I (q6 FE)).trans qn,z⟩
   ·obtain⟨ol,uF,z⟩:=sM.2;exact⟨ol,(get l (q6 Ky)).trans uF,z⟩
  refine bd Ze9;intro aBe aBf aBg;refine wpAny_holding (bd (C.3 bj TY bz λw1=>C.1 (s:={s with heap:=ak,toks:=w1}) bj (λv aO=>aR v (aj e (ko _ Yxw))) TZ TY bz alp Zip λhm av d0 hW p dt=>?_))
  ·exact go ak w1 us TZ (m.same hm) (ayf S ak)
  ·exact go av w1 d0 dt (m.snoc hm p) hW
def lq(w:World):Bool:=! YNd
theorem alu{E:Y8}(a:Value){Q₁:Y8}(h:Q₁ Y2C Zfu):
  codeAny YR A (Y5y (ZK "set.__new__") Yt3) Zdb s:=by
 refine YLK;show wpAny _ A.in1 (do checkBuiltinCall "set.__new__" Yt3;again (ZK "set.__new__" Yt3)) _ _ s;refine bd (wpAny_of_eq (PySem.F.newCall_set_1 a) (wpAny_pure ⟨plainId_quiet ayD _,codeAny_builtin PySem.F.entry_set_new (kK (Ah ayD _) ?_)⟩));have qk:=sub_set_self;refine Yg;intro alv alw alx
 wp_walk
 exact wpAny_askSetting (wpAny_pure (bd (wpAny_alloc YNg)))
theorem T1{E:Y8}{m:Y7I}{Q:Y9f}(h:∀(Q':Y9f)(E':Y8),ZlR→Zll→wpAny M A m Q' E' s):wpAny M A m Q E s:=h Q E Y33 Y33
theorem aly{E:Y8}{T newId T2:String}{args:Yn}{Q Q₁:Y8}(iB:TypeCalled T newId T2)(aBh:checkTypeCall T ⟨args,[]⟩=YWi)(alz:codeAny YR A.in1 (Y5y (ZK newId) ⟨Y67::args,[]⟩) Zdb s)(alA:∀obj hY,Q₁ obj hY→hY.TypeIs obj T∧codeAny YR A.in1 (Y5y (ZK T2) ⟨obj::args,[]⟩) (wants (λr yI=>r=Y7∧Q obj yI) E) hY):wpAny YR A (call Y67 args) Q E s:=by
 obtain⟨c,BV,FF⟩:=iB.mro;have aBi:=iB.made;have qk:=iB.sub;refine YqN;show wpAny _ _ (callAny Y67 _) _ _ _;refine wpAny_pure ⟨ZDk,codeAny_builtin PySem.F.entry_type_call (kK (Around.under_plain (weight_type_call_type T args []) rfl) (T1 λQ' E' aF he=>?_))⟩;replace aF:∀v s',Yed→Q' YPd s':=λv=>aF YPd;replace he:Zll:=he;have ak:=iB.notType;have av:=iB.canCreate
 repeat (any_goals (first | assumption | wp_step))
 refine codeAny_mono alz λr hY bo=>?_
 cases r with
 |error e=>exact he _ _ bo
 |ok eA=>cases eA with
  |ret obj=>
   obtain⟨dJ,z⟩:=alA _ _ bo;have aBj:=iB.init.lookup;have aBk:=iB.init.bind obj
   repeat (any_goals (first | assumption | wp_step))
   refine codeAny_mono z λalB yI KA=>?_
   cases alB with
   |error e=>exact he _ _ KA
   |ok alC=>cases alC with
    |ret r=>
     obtain⟨rfl,bo⟩:=KA;replace bo:=aF _ _ bo
     repeat (any_goals (first | assumption | wp_step))
    |_=>exact KA.elim
  |_=>exact bo.elim
theorem alD{E:Y8}{S l:Nat}{Q:Y8}{ok:Y5R}(bJ:Zg)(bj:Ycq)(tn:ZZF=YXK)(aE:YN4)(Ky:S≠l)(bo:YS3)(aR:∀v∈vs,ok v)(jR:YNa)(C:Z36)(qD:∀h:Heap,YAq=YXK→ZRp)(h:∀(h':Heap)(tk:Nat)(us:Y3),Ym5→YMK→(∀b o,YGE→YBH)→Q Y7 Y0w):
  codeAny YR A.in1 (Y5y (ZK "set.__init__") ⟨[YJm,Y77],[]⟩) (wants Q E) s:=by
 refine codeAny_call_builtin ayE.init.plain PySem.F.entry_set_init (check_set_init_1 ZnA (T1 λQ' E' aF O=>?_));replace aF:∀s',Q Y7 s'→Q' YJa s':=λs'=>aF YJa s';obtain⟨⟨c,lb,uj,eB⟩,uF,ao,nl,hd⟩:=aE;replace ao:c=Y4e:=ao;replace hd:uj=Y47 items nl:=hd;subst ao hd;have aBl:=PySem.F.sub_list_set;have aBm:=PySem.F.sub_list_frozenset;have iA:(Zd1==v8 "dict")=false:=YC
 unfold Builtin.«set.__init__» noKeywords Builtin.Frozenset.updateFrom;generalize alE:pyIter=aBn
 wp_walk
 subst alE;have mw:YN4:=⟨_,uF,rfl,nl,rfl⟩
 refine Yg;intro aBo aBp aBq;refine wpAny_pyIter_list mw (bd (wpAny_runValue ?_));have kt:eU s.heap (s.heap.push {cls:=Z2T,data:=Z0U}):=YF2;refine alk (A:=A.in1.in1) C bJ (fF Y6K bj) (ej (fE uF)) (ej ZOD) Ky aR jR vs [] _ [] rfl Y6l (mw.push _) ZHO (qD _ (eu _ tn)) ⟨lC,Yra⟩ λh' tk us i m k=>?_;refine Zm;show wpAny _ _ ZYn _ _ _;exact wpAny_pure (aF _ ((h h' tk us i m λb o ah e=>k b o ah Y6M Y5a)))
theorem KC{E:Y8}{l:Nat}{Q:Y8}{ok:Y5R}(bJ:Zg)(bj:Ycq)(aE:YN4)(bo:YS3)(aR:∀v∈vs,ok v)(jR:YNa)(C:BU prog w s.heap.objs.size inv ok)(qD:∀h:Heap,h.get? s.heap.objs.size=YXK→ZRp)(h:∀(h':Heap)(tk:Nat)(us:Y3),Ym5→ZTw):
  Zdk:=by
 have kt:eU s.heap ZZK:=YF2;have BW:l<s.heap.objs.size:=aE.elim λo z=>fE z.1;refine aly (Q₁:=λobj hY=>obj=Y2C∧hY=Zfu) ayE (PySem.F.typeCall_set_1 Y77) (alu Y77 Zn) λobj hY z=>?_;obtain⟨rfl,rfl⟩:=z;have tn:(s.heap.push YAp).get? s.heap.objs.size=YXK:=ZW;exact⟨ZnA,alD bJ bj tn ZBA (p8 BW) ZHO aR jR C qD λh' tk us i m k=>⟨rfl,h h' tk us i m λb o ah e=>k b o (ej ah) Y5a⟩⟩
theorem T3{x:α}(h:Ymr):(x::l.eraseIdx i).Perm l:=by
 have T4:=YmG;refine aX (List.eraseIdx_eq_take_drop_succ ..) (eT T4.2 (aci.symm.trans ?_));rw[←NV T4.1,Ai]
theorem alF(next:YL):∀(n k:Nat)(l:ZC)(o:YQZ),ZTh→(aco next n k l o).toList.Perm (o.toList++l):=by
 intro n
 induction n with
 |zero=>exact λk l o e=>bW YWU (aL Y1U Y3V)
 |succ n ai=>
  intro k l o e;have lt:YMe<l.length:=Oh _ (aa e ZSI)
  have h:l[YMe]?=some (l[YMe]'lt):=dy lt;have fx:aco next (n+1) k l o=match l[YMe]? with
   |YQ=>aco next n (k+1) (l.eraseIdx YMe) (o.push x)
   |none=>o:=rfl
  refine aX fx (ac0 h ?_);have p:=T3 h;exact(ai (k+1) _ (o.push _) ZWI).trans (aT acf (aj Y0k (p.append_left _)))
theorem alG(next:YL)(xs:YQZ):(pickOrder next xs).toList.Perm xs.toList:=alF next xs.size 0 xs.toList #[] rfl
theorem alH{E:Y8}{src:Source}{n:Nat}{Q:YRK}(h0:n≠0)(h:∀i d,i<n→Q i Zfs):wpAny M A (choose src n) Q E s:=λpn p O=>⟨h0,h _ _ (Oh _ (acp h0))⟩
theorem alI{E:Y8}:∀(n:Nat)(l:ZC){Q:ZC→YP}{s:Shared},ZTh→(∀l' d,Ymi→Q l' Zfs)→wpAny M A (drawOrder n l) Q E s:=by
 intro n
 induction n with
 |zero=>
  intro l Q s e h
  (rw[YWU]at h;refine jg YWU ?_)
  exact wpAny_pure (h [] s.drawn Y3V)
 |succ n ai=>
  intro l Q s e h
  cases l with
  |nil=>exact absurd e.symm (k5 n)
  |cons a t=>
   refine bd (alH Y7s λi d af=>?_);have g:Yfj[i]?=some (Yfj[i]'af):=Y2q;have p:=T3 g;show wpAny M A (match Yfj[i]? with
    |YQ=>do return x::(←drawOrder n YvD)
    |none=>unsupported "internal:drawOrder") Q E _
   exact iy g (bd (ai YvD ZWI λO eJ dV=>wpAny_pure (h _ eJ ((dV.cons _).trans p))))
theorem rO:Slot "set_iterator" "__next__" "set_iterator.__next__":=
 .of (owner:="set_iterator") (n:="__next__") YT7 ZL ZL ZL
  Yi3 YT5
theorem T5:Slot "set_iterator" "__iter__" "set_iterator.__iter__":=
 .of (owner:="set_iterator") (n:="__iter__") YT7 ZL ZL ZL
  Yi3 YT5
theorem FG:entryFor table "set_iterator.__next__"=some Builtin.«set_iterator.__next__»:=Yjq
theorem alJ:entryFor table "set_iterator.__iter__"=some Builtin.«dict_keyiterator.__iter__»:=
 entryFor_alias (id':="dict_keyiterator.__iter__") Y1G ZHl ZL Y1G
theorem alK:entryFor table "set.__iter__"=some Builtin.«frozenset.__iter__»:=
 entryFor_alias (id':="frozenset.__iter__") Y1G ZHl ZL Y1G
theorem T6:Manifest.owners.lookup (String.ofList ['r','o','t','a','r','e','t','i','_','t','e','s'].reverse)=some Manifest.sig_set_iterator:=Y1G
theorem FH(a:Value):argsOk "set_iterator.__next__" Zmt:=by
 refine dT (signature?_of (id:="set_iterator.__next__") (n:=['_','_','t','x','e','n','_','_']) (o:=Z9L) Y1G T6) ?_;kernel_rfl
theorem alL(a:Value):argsOk "set_iterator.__iter__" Zmt:=by
 refine dT (signature?_of (id:="set_iterator.__iter__") (n:=['_','_','r','e','t','i','_','_']) (o:=Z9L) Y1G T6) ?_;kernel_rfl
noncomputable abbrev pH (f:Value) (i a n ep:Nat):Obj:={cls:=Z2U,data:=ZY #[f,YI i 0,YA,YI n 0,Z0j]}
theorem alM{E:Y8}{es:Y0W}{t:SetTable}{Q:Y5N}{f dZ:Nat}(af:ZZH)(aA:Y3g)(iB:YBO)(g:∀{A:Around}{E:Y8}{Q:YFU},Q (some (x,dZ)) s→Zdq)(h:∀h',YlC=some (pH (YI dZ 0) (i+1) a es.size ep)→YMQ→Q YQ Yx):YNf:=by
 have dJ:YN3:=YZH
 refine YSu;refine Y0K;intro aBr aBs;refine Yhm;intro aBt aBu aBv;refine YSv;dsimp only;refine Yg;intro afO afP aBw;refine bd (bd (wpAny_setState_of aA rfl iB (wpAny_pure (cb YLz (bd (g ?_))))));have ak:=q7 (x5 (YO1 0 (rawInt dZ))) af rfl;refine Yg;intro akm akn aBx;refine bd (wpAny_setField af rfl YwT (bd (wpAny_setField ak rfl YwW ?_)));have av:=q7 YPP ak rfl;exact wpAny_pure ⟨_,rfl,wpAny_pure (h _ av (Yxs ZTP))⟩
theorem T7{E:Y8}{Q:Y5N}{h0:Heap}{Q':Y9f}(bJ:Zg)(aR:ZdC)(h:∀h',ZdB→Yea):
  wpAny YR A.in1 ZVk Q' (λe s'=>wpAny YR A (do if ←isInstance e YJr then return none else throw e) Q E s') s:=
 Ih (A:=A.in1) bJ λh' e k z=>bd (wpAny_isInstance (T:="StopIteration") (b:=true) z isSubtype_stop (wpAny_pure (h _ (k aR))))
theorem alN{E:Y8}{es:Y0W}{t:SetTable}{Q:Y5N}{f:Nat}(bJ:Zg)(af:ZZH)(aA:Y3g)(iB:YBO)(g:∀{A:Around}{E:Y8}{Q:YFU},Z75→Zdq)(h:Yso):YNf:=by
 have dJ:YN3:=YZH
 refine Yg;intro PY PZ P0;refine YSu;refine Yhm;intro P1 P2 P4;refine YSv;dsimp only;exact bd (bd (wpAny_setState_of aA rfl iB (wpAny_pure (cb YLz (bd (g (bd (wpAny_setField af rfl Ywb (T7 (h0:=s.heap) bJ (km s.heap it _).extBut h)))))))))
variable{J:Nat}
theorem alO{E:Y8}{es:Y0W}{t:SetTable}{Q:Y5N}{ps:Y1N}{tk c:Nat}{x:Z7}(af:YX7=YpB)(aA:Y3g)(iB:YBO)(va:ZZE)(ar:YWg=Yov)(aq:es[k]?=YQ)(h:∀h',YlC=some (pH Z1i (i+1) a es.size ep)→YMQ→Q (some x.2) Yx):YNf:=by
 have dJ:YN3:=YZH
 refine YSu;refine ZH4;dsimp only;refine bd (bd (wpAny_setState_of aA rfl iB (wpAny_pure (cb YLz (bd (wpAny_seqItems va rfl (DD (ar:ZXO=Yov) (bd (bd (wpAny_setState_of aA rfl iB (cb (if_neg (mL (rfl:((ep:Nat):Int).toNat=ep) ZKw)) (iy (aq:es[((k:Nat):Int).toNat]?=YQ) Zm))))))))))));have ak:=q7 YPP af rfl;refine Yg;intro aBy aBz aBA;exact bd (wpAny_setField af rfl YwW (wpAny_pure ⟨_,rfl,wpAny_pure (h _ ak (km s.heap it _))⟩))
theorem alP{E:Y8}{es:Y0W}{t:SetTable}{Q:Y5N}{ps:Y1N}{c:Nat}(bJ:Zg)(af:YX7=YpB)(aA:Y3g)(iB:YBO)(va:ZZE)(ar:YWg=none)(h:Yso):YNf:=by
 have dJ:YN3:=YZH
 refine YSu;refine ZH4;dsimp only;refine Yg;intro akc akd aBB;refine bd (bd (wpAny_setState_of aA rfl iB (wpAny_pure (cb YLz Yg))));intro Jm Jn RZ;refine bd (wpAny_seqItems va rfl (DD (ar:ZXO=none) ?_));have ak:=q7 (x5 (YO1 0 YWw)) af rfl;exact bd (wpAny_setField af rfl YwT (bd (wpAny_setField ak rfl Ywb (T7 (h0:=s.heap) bJ (Yxs ZTP).extBut h))))
abbrev Given(ord:Y38)(i:Nat)(v:Value):Y1:=∃e,Ynu∧v=e.2
theorem T8{o:Obj}{E:Y8}{Q:Y8}(af:YX7=YB)(ao:o.cls=Z2U)(h:Q Y46 s):wpAny YR A (pyIter Y46) Q E s:=by
 have dJ:YN3:=⟨_,af,ao⟩
 exact wpAny_pyIter_slot dJ T5 (wpAny_call_entry T5 dJ alJ (wpAny_pure ⟨_,rfl,"set_iterator",_,dJ,rO.lookup,h⟩) (alL _))
theorem FI(x:Heap.ExtBut I h h')(b:Nat)(o:Obj)(ah:b∉[I])(e:YDK):YGp:=x b o (λq=>ah (je q)) e
theorem T9{es:Y0W}{t:SetTable}(bJ:Zg)(ne:a≠I)(iB:YBO)(ord:Y38)(f:YL)(g:∀(i:Nat)e,Ynu→∀{A:Around}{E:Y8}{s:Shared}{Q:YFU},Y3g→Q (some (e.2,f (i+1))) s→wpAny YR A (setNext a (f i) i ep) Q E s)(m9:∀{A:Around}{E:Y8}{s:Shared}{Q:YFU},Y3g→Z75→wpAny YR A (setNext a (f ord.length) ord.length ep) Q E s):
  Z8u where
 sub:=Zhi
 frame:=λi h h' st k=>⟨ZSf,k a ZMQ _ Zb⟩
 item:=λi s Q E af st k=>alM Y0f Zb iB (g i _ Y2q Zb) λh' ak hW=>k _ h' s.toks Zn5 ⟨ak,YxK Zb⟩ Z4A
 done:=λs Q E st k=>alN bJ Y0f Zb iB (m9 Zb) Zic
 self:=Zj4
theorem alQ{es:Y0W}{t:SetTable}{c:Nat}{ps:Y1N}(bJ:Zg)(ne:a≠I)(alR:J≠I)(iB:YBO)(ord:Y38)(aE:ps.size=ord.length)(g:∀(i:Nat)e,Ynu→∃(k:Nat)(tk:Nat),YWg=Yov∧ZNR):
  Walks prog w A I [I,a,J] [I] ord.length YK6 (λi h=>YlF=YpB∧YGr∧h.get? J=YpP) where
 sub:=Zhi
 frame:=λi h h' st k=>⟨ZSf,k a (eI _ YhH) _ YE6,k J (eI _ ZMQ) _ YXQ⟩
 item:=λi s Q E af st k=>(g i _ Y2q).elim λn z=>z.elim λtk z=>alO Y0f YE6 iB YXQ z.1 z.2 λh' ak hW=>k _ h' s.toks Zn5 ⟨ak,YxK YE6,(hW.2 J alR).trans YXQ⟩ Z4A
 done:=λs Q E st k=>alP bJ Y0f YE6 iB YXQ (acq (dH aE)) Zic
 self:=Zj4
theorem KD{E:Y8}{b:Bool}(ah:YNd=b){Q:Y1n}(h:Q b s):Zdr:=bd (wpAny_askSetting (wpAny_pure (aV ah.symm h)))
theorem Ua{es:Y0W}{t:SetTable}{E:Y8}(ah:YNd=true)(iB:YBO){eB:Nat}{Q:YFU}(aA:Y3g)(h:Q (((pickOrder ZdX es)[i]?).map λe=>(e.2,eB)) s):wpAny YR A (setNext a eB i ep) Q E s:=by
 refine bd (wpAny_setState_of aA rfl iB Yg);intro Ub Uc alS;exact bd (KD ah (cb Y0c (cb YLz (bd (bd (wpAny_setState_of aA rfl iB (bd (KD ah (cb Y0c (bd (wpAny_askSetting YNg)))))))))))
theorem Ud{es:Y0W}{t:SetTable}{E:Y8}(ah:YNd=false)(T:ZQO)(pl:YtU){eB:Nat}(hs:oe t.place eB=i){Q:YFU}(aA:Y3g)(h:Q (match YD7,YHt with | some (_,x),Y0N=>some (x,j+1) | _,_=>none) s){n:Nat}:wpAny YR A (setNext a eB n ep) Q E s:=by
 refine bd (wpAny_setState_of aA rfl T.fits (bd (KD ah Yil)));show wpAny _ _ (if YIn=true then Zby else _) _ _ _
 (refine aa pl Yil)
 show wpAny _ _ ((if YtS=true then Zby else YWi) >>= λO=>_) _ _ _;rw[show YtS=false by rw[T.4];rfl,YDR];refine YGB;subst hs;exact Y1u
abbrev Ue(prog:Program)(w:World)(A:Around)(s:Shared)(a:Nat)(es:Y0W)(I:Nat)(s1:Shared):Y1:=iG (∃kQ ord St,Ydy∧Walks prog w A I kQ [I] ord.length YK6 St∧St 0 s1.heap∧∀b∈kQ,b=a∨YN7) (hU s.heap s1.heap) (s1.gens=s.gens) (s1.os=s.os) (s.heap.objs.size≤I)
theorem alT{n b:Nat}(h:ZIN):b=a∨n≤b:=YBk (λe=>YJ (dH e.symm)) λh=>YY Y1T
theorem alU{es:Y0W}{t:SetTable}{Q:Y8}{A0:Around}(aA:Y3g)(ord:Y38)(p:ZWV)(f:YL)(f0:f 0=0)(W:∀I,a≠I→Z8u)(h:ZlL):Z6x:=
 h _ _ ⟨⟨_,ord,_,p,W _ Yjo,⟨aV f0.symm ZW,Yk6⟩,λO ah=>alT ah⟩,λO O e=>Y5a,rfl,rfl,YW⟩
theorem alV{E:Y8}{Q:Y1n}(h:∀b,YNd=b→Q b s):Zdr:=bd (wpAny_askSetting (wpAny_pure (h _ rfl)))
theorem Ug{E:Y8}{es:Y0W}{t:SetTable}{Q:Y8}(iB:YBO)(aA:Y3g)(k:Q Y2C {s with heap:=s.heap.push (pH x 0 a es.size ep)}):wpAny YR A (do
   let e ←setEpoch a;let y ←newFields "set_iterator" [x,YWw,YA,rawInt es.size,rawInt e]
   ret y) (λfin s'=>∃v,And (fin=Fin.done YQC) (∃iY r,And (s'.TypeIs v iY) (And (typeLookup (YE iY) YD3=pure Zaq) Yed))) E s:=
 bd (wpAny_setEpoch_of aA rfl iB (bd (wpAny_newObj_type (wpAny_pure ⟨_,rfl,"set_iterator",_,Yt7,rO.lookup,k⟩))))
theorem alW{E:Y8}{es:Y0W}{t:SetTable}{Q:Y8}(bJ:Zg)(jR:YUK)(aA:Y3g)(T:YlJ)(h:ZlL):wpAny YR A ZXe Q E s:=by
 have dJ:ZZ7:=Y9j
 refine wpAny_pyIter_slot dJ F.slot_set_iter (wpAny_call_entry F.slot_set_iter dJ alK ?_ (F.args_set_iter_1 _));refine YGB;refine Yg;intro aBC aBD aBE;refine bd (bd (bd (wpAny_setState_of aA rfl T.fits ZeE)));dsimp only;refine bd (bd (wpAny_setState_of aA rfl T.fits ?_));refine bd (alV YOD);show wpAny _ _ (pure YtN) _ _ _;have slot:=alU (A0:=A) (prog:=prog) (w:=w) (A:=A) (Q:=Q) aA;have text:Y6G→Z6x:=λe=>by
  subst e;exact slot _ (alG ZdX es) Y8A rfl (λI ne=>T9 bJ ne T.fits _ _ (λi e he=>λm7 k=>Ua ah T.fits m7 (by refine bN (l9) (aX he ?_);exact k)) λm7 k=>Ua ah T.fits m7 (by refine bN (l9) (aX Yo2 ?_);exact k)) h
 refine Zm;by_cases q:YtN=true
 ·refine ZJd;have bo:es.size=(di es.size).length:=fN.symm;refine bd (alI _ _ bo.symm λl d p=>?_);refine bd (wpAny_newTuple ?_ (by refine aj YF (aj (p.length_eq.trans bo.symm:l.length=es.size) ?_);exact ZFD));have m7:Yyw a=Y6c:=Yk6;refine Ug (s:={s with heap:=s.heap.push YNv,drawn:=d}) T.fits m7 ?_;have va:Yyw s.heap.objs.size=some YNv:=ZW;have z:(s.heap.push YNv).objs.size=Y1J:=YBJ;refine h _ _ ⟨⟨_,l.map λk=>ZNJ,_,?_,alQ (a:=a) (J:=s.heap.objs.size) bJ (ej (fE m7)) (ej (fE va)) T.fits _ (by exact aL Ac (aL YF (YF))) (λi e he=>?_),⟨ZW,eu _ m7,eu _ va⟩,YOD⟩,λO O e=>YUM,rfl,rfl,aa z Y1I⟩
  ·refine(p.map _).trans (.of_eq Ye8);refine aj (gy) (aL (l9:es.toList[i]?=YD7) ?_);by_cases af:Ylg
   ·refine aX (q9 af) (aL ZWL ?_);show some (es.getD i _)=_;refine aX (sq) (gS ZWL ?_);rfl
   ·rw[p6 (by rw[fN];exact YlZ),acq YlZ];rfl
  ·replace he:=aQ (gy) he
   cases aR:Y54 with
   |none=>replace he:=ZGb;exact ZJJ
   |some k=>
    replace he:=ZGb;have lk:k<es.size:=jK (p.mem_iff.mp (et aR));refine⟨k,0,by rw[q8,gy,aR];rfl,?_⟩;have he:ZNJ=e:=cu he;replace he:=eT Ynp (aQ (sq) he);refine aj Ynp ?_;exact congrArg some he
  ·rcases YLU with e | ah
   ·exact YJ (aa e (z▸Y1I))
   ·rcases YLU with e | ah
    ·exact YPg
    ·exact YJ (dH Yvn)
 ·refine cb ZN ?_;refine bd (wpAny_pure (Ug T.fits aA ?_))
  cases b with
  |true=>exact text rfl
  |false=>
   have T:ZQO:=by rw[show YDd=true by unfold lq;rw[ah];rfl]at T;exact T
   have pl:YtU:=HA q;have lk:∀i,Ylg→∃j,YpX:=λi af=>⟨_,od (aV T.1.symm af)⟩
   have ei:∀i,i≤es.size→oe t.place (Nat.rec 0 ZjN i)=i:=λi af=>by
    cases i with
    |zero=>exact aky T.2
    |succ k=>
     obtain⟨j,aM⟩:=lk k af;show oe t.place YpW=k+1;refine gS (sq) (aa aM ?_);exact akz T.2 aM
   refine slot es.toList Y3V (Nat.rec 0 ZjN) rfl (λI ne=>T9 bJ ne T.fits _ _ (λi e he=>ZjW) ZjW) h
   ·have af:Ylg:=aV iv Yxf;obtain⟨j,aM⟩:=lk i af;replace he:=aQ (l9) he;refine Ud ah T pl (ei i YUw) m7 ?_;refine As he (dT aM ?_);have aJ:t.place.getD i 0=j:=by refine aj (sq) (aT aM ?_);rfl
    exact aV aJ k
   ·refine ix iv ?_;refine Ud ah T pl (ei _ YW) m7 ?_;refine As (acq YW) ?_;exact k
theorem alX{E:Y8}{r:Nat}{Q:Y1n}(dJ:s.TypeIs Z1y "set")(h:YCP):wpAny YR A (Builtin.List.listLengthHint Z1y) Q E s:=by
 refine bd (wpAny_specialOf dJ PySem.F.slot_set_len.lookup ?_);generalize Uh:("set.__len__":String)=alY
 wp_delta
 rw[show splitId alY=some ("set","__len__")from by subst Uh;decide +kernel];subst Uh;exact bd (wpAny_isInstance (T:="set") (b:=true) dJ YT5 (wpAny_ite_split (λwq=>absurd wq YC) (λO=>wpAny_ite_split (λO=>bd (wpAny_typeOf dJ Y1u)) (λwq=>absurd ZL wq))))
theorem alZ{es:Y0W}{t:SetTable}{R:Y4A}(bJ:YJy)(jR:YUK)(aA:Y3g)(T:YlJ){S:Nat}(Ui:S≠a)(res:Value)(tn:ZZF=Zat)(gI:∀s' gC ft ord,Ydy→(∀b o,YGE→YN5)→Y57→Y4R→s'.heap.get? S=Zau→Z4p→R (.ok (YS res)) s'):
  wpAny YR A.in1 (Builtin.List.listExtendWith YJm YA res)
   ZiY ZiP s:=by
 refine Yg;intro PU PV al0;refine bd (wpAny_typeOf (Y9j:ZZ7) ?_);have ak:ayG YJm YA=false:=by simp[ayG,Ui]
 simp -iota only [ak,show(Zd2==Zd1)=false by decide,show(Zd2==Zd3)=false by decide,Ds,Bool.false_eq_true,if_false];refine bd (alW bJ jR aA T λI s1 B=>YM);obtain⟨⟨kQ,ord,St,p,W,st,hf⟩,b5,cR,lR,fr⟩:=B;refine Yb;have Uj:S∉kQ:=λm=>(hf S m).elim Ui λq=>absurd ZOD (sm q);have az:ord.length≤sizeLine:=aj p.length_eq (aj iv ZFD);have key:∀(h:Heap)(c₁ tk:Nat),St 0 h→(∀b o,YGE→s1.heap.get? b=YB→YDK)→
   YAq=some {cls:=Y4e,data:=Y47 #[] c₁}→codeAny YR A (ZK "list.extend.loop" ⟨[YJm,Y1C,res],[]⟩) R {s1 with heap:=h,toks:=tk}:=by
  intro h c₁ tk qu aR w3;refine codeAny_extend_loopS W.toS az S Uj res ord.length 0 _ #[] c₁ rfl Z0 qu w3 (ItemsOf.nil _) λs' gC ft hm w4 oP=>gI s' gC ft ord p (λb o ah e=>hm.heap b o (λKG=>?_) (aR b o ah YhJ)) (hm.gens.trans cR) (hm.os.trans lR) w4 oP;rcases dz KG with bk | KG
  ·exact ah bk
  ·exact absurd YDB (dS (bR KG) (sm fr))
 have w3:=b5 _ _ tn;refine Yg;intro P1 P2 P4;refine bd (wpAny_holding (alX ⟨_,ZFt,rfl⟩ (wpAny_ite_split (λO=>bd (wpAny_rule ZGw)) (λO=>wpAny_pure ⟨ZXA,key _ 0 _ st ZgH w3⟩))));intro al1 al2 aBF;refine bd (wpAny_updateSeq w3 rfl ?_);have Uk:=q7 (l7 (YrH l6)) w3 rfl;refine wpAny_updateSeq (hz:=by seq_fits) Uk rfl ?_;have al3:=q7 (l7 (·.pop)) Uk rfl;refine wpAny_pure ⟨ZXA,key _ _ _ ?_ (λb o ah e=>?_) al3⟩
 ·refine W.frame 0 _ _ st λb ah o e=>?_;have Ul:YGE:=λh=>Uj (aV h ah);exact YuZ (YuZ e)
 ·exact YZr (YZr e)
theorem al4{E:Y8}{es:Y0W}{t:SetTable}{R:YR9}(bJ:Zg)(jR:YUK)(aA:Y3g)(T:YlJ)(h:∀s' xs(ord:Y38),ZWV→Y7m→Y57→Y4R→xs=ord.map Y1w→R xs s'):
  wpAny YR A Yis R E s:=by
 refine bd (wpAny_runValue (codeAny_builtin entry_proto_collect' (kK (Ah PySem.F.plain_proto_collect _) ?_)));show wpAny _ A.in1 (YW4 >>= λl=>again (ZK "list.__iadd__" ⟨[l,YA],[]⟩)) _ _ s;refine bd (wpAny_newObj_type (wpAny_pure ⟨plainId_quiet ayI _,codeAny_builtin entry_list_iadd' (kK (Ah ayI _) ?_)⟩));have w3:(s.heap.push Zfo).get? s.heap.objs.size=Zat:=ZW;have key:=alZ (prog:=prog) (A:=A) (s:={s with heap:=s.heap.push Zfo})
  (R:=λ(q:Result)(s':Shared)=>∃gC ft ord,q=.ok (YS Y2C)∧Ydy∧Y7m∧Y57∧Y4R∧
   s'.heap.get? s.heap.objs.size=Zau∧Z4p)
  bJ jR Yk6 T (p8 YDA) Y2C w3
  (λO gC ft ord p aR cR lR w4 oP=>⟨gC,ft,ord,rfl,p,λb o e=>aR b o Y6M Y5a,cR,lR,w4,oP⟩)
 refine wpAny_mono key (λfin s' x=>?_) λe s' x=>?_
 ·cases fin with
  |done f=>
   refine YM;obtain⟨gC,ft,ord,e,p,b5,cR,lR,w4,oP⟩:=x;refine Yb
   cases e
   exact bd (wpAny_load w4 (wpAny_pure (h s' gC.toList ord p b5 cR lR Z4u)))
  |again c₁=>
   refine⟨x.1,codeAny_mono x.2 λq yI y=>YM⟩;obtain⟨gC,ft,ord,rfl,p,b5,cR,lR,w4,oP⟩:=y;exact ax (bd (wpAny_load w4 (wpAny_pure (h yI gC.toList ord p b5 cR lR Z4u))))
 ·refine YM;obtain⟨O,O,O,bk,O⟩:=x;refine Yb
  cases bk
theorem m8.stays{S:Nat}(x:Yn2)(k:Y2U)(e:YlA):m8 w led h' S us:=ZeT
theorem qH.stays{S:Nat}(x:ZXq)(k:Y2U)(e:YlA):qH w led h' S us:=ZeT
theorem m8.obj{S:Nat}(x:Yn2):ZmQ:=x _ λes ep t c6 O O=>⟨es,ep,t,c6⟩
theorem Um{S:Nat}{K:Y4k}[YQh]{knd:YRM}{ok:Y5R}{key:YRl}(C:Yr3)(led:Bool){c:Nat}(ao:∀u,Y7x→ZPG):BU prog w S (λus h=>Yn2) ok:=
 ⟨λbj aR i pG bg jR h0 ak=>akK C i aR pG bg (fF jR Y2) h0 ak,
  m8.stays,
  λbj pG bg h=>yr (ao _ pG) bg bj (h _),
  m8.obj⟩
theorem al5{S:Nat}(led:Bool):BU prog w S (λus h=>ZXq) (λu=>YM5):=
 ⟨λbj aR i pG bg jR h0 ak=>alh bj aR pG bg i jR h0 ak,
  qH.stays,
  λbj pG bg h=>yr (c:=3) pG bg bj (h _),
  λi=>i.set.obj⟩
def al6(v:V):Int:=Zcv
def Un(v:V):Str:=(v.onStr none tab).getD jc
def al7(v:V):Y1:=∃n s,v=ZM∧YBQ
theorem al8:zb prog w ZDP (λu=>Zbq) al6:=
 ⟨λ{h x u}o r=>YZv λn e=>(YUQ:aK h x Y72).elim λt q=>by rw[e,q];exact⟨intKind_is prog w _ _,rfl⟩,
  λu o=>YZv λn e=>YCd,
  λu v o o' q=>YZv λn e=>(V.jM o').elim λm bk=>by(replace q:=fU bk ZGe;refine aj e (aL bk ?_));exact ZKA⟩
theorem al9:zb prog w YHT al7 Un:=
 ⟨λ{h x u}o r=>o.elim λn o=>o.elim λs o=>(o.1▸r:ZBJ).elim λt q=>q.elim λs' q=>by
  have e:Un u=s':=aX o.1 (congrArg (Ha · jc) q.1);rw[e,q.2];exact⟨ZbB,rfl⟩,
  λu o=>o.elim λn o=>o.elim λs o=>by rw[o.1];rfl,
  λu v o o' q=>o.elim λn o=>o.elim λs o=>o'.elim λm o'=>o'.elim λs' o'=>by
  (replace q:=fU o'.1 (bN o.1 q);refine aj o.1 (aL o'.1 ?_))
  have q:YzI=YzH jc:=q;replace q:=um o'.2 (eT o.2 q);exact congrArg V.str (AA o.2 (aa (show s=s' from q) o'.2))⟩
theorem KH{S:Nat}(e:YAq=some (gk #[] 0 (.fresh 0 0 led))):qH w led h S []:=(λO bA=>bA (#[]) 0 _ e (⟨⟨rfl,Hk,rfl,rfl,Z0⟩,YY ⟨rfl,Y2⟩,λO O O he=>ZJJ⟩) ⟨a9.nil,rfl⟩)
abbrev Uo(vs:Y3):Y1:=(∀v∈vs,YEB)∨(∀v∈vs,YEA)∨(∀v∈vs,Y9I)
theorem ama{E:Y8}{l:Nat}{Q:Y8}(bJ:Zg)(bj:Ycq)(aE:YN4)(bo:YS3)(aR:Uo vs)(jR:YNa)(h:∀(h':Heap)(tk:Nat)(us:Y3),m8 w YDd h' s.heap.objs.size us→ZTw):
  Zdk:=by
 rcases aR with aR | aR | aR
 ·refine KC bJ bj aE bo Y8C jR (Um al9 YDd (c:=1) λO o=>o.elim λO o=>o.elim λO o=>aa o.1 rfl) Zgk h;obtain⟨i,af⟩:=pe aO;obtain⟨y,O,r⟩:=bo.get af;obtain⟨n,e⟩:=V.kr (aR v aO);exact(YUQ:aK _ y ZM).elim λt q=>q.elim λs' q=>⟨n,s',e,q.1⟩
 ·exact KC bJ bj aE bo aR jR (Um al8 YDd (c:=2) λO o=>o) Zgk h
 ·exact KC bJ bj aE bo aR jR (al5 YDd) (λO e=>KH e) λh' tk us i=>h h' tk us i.set
def BX(nm:String)(c:bP)(e:aI):Y68:=YbD none λx=>cond (decide YqS) (l1 Y1K none λy=>(yA c y).elim none λz=>cond (decide (Y5E=Yjz)) (some Y6h) none) none
abbrev tp(vs:Y3):Y1:=jd YNa YVm (Uo vs)
def amb(vs:Y3)(m:ag)(Q:Yj):Y1:=one vs False λa=>lst a m λO O l=>YHz∧∀us:Y3,us.Nodup→YZC→j9 us→alloc m Z0m Q
def amc(vs:Y3)(m:ag)(Q:Yj):Y1:=one vs False λa=>lst a m λO O l=>YHz∧∀us:Y3,us.Nodup→YZC→Q (YI (us.length:Int)) m
abbrev amd(n:Str)(c:bP)(e:aI)(es:Ye)(P:Y1):Y1:=∀(p pos:Pos),e=Yzt→Y5f→YGF→Y5v→P
abbrev KI(n:Str)(c:bP)(e:aI)(es:Ye):Y1:=∀P:Y1,amd n c e es P→P
theorem Up{n:Str}{c:bP}{e:aI}(x:YrD)(q:decide (Y2b=n)=true):KI n c e Y1K:=
 YHU▸YIF λp z=>z.elim λpos aJ=>(λO bA=>bA p pos aJ YIG YXz YY1)
theorem Uq{nm:String}{c:bP}{e:aI}{es:Ye}(h:Ycz):∃y,KI Y3c c e [y]∧KI Yjz c y es:=
 j7 h λx O h=>rB h λq h=>Jv h λy fy h=>j7 h λz O h=>rB h λck h=>⟨y,aV fy (Up x q),Y4v▸Up z ck⟩
theorem Ur{nm:String}{c:bP}{e:aI}{es:Ye}{P:aI→Y1}(hm:Ycz)(h:∀f es p,P (Y0Q f es [] p)):P e:=Yux λy z=>z.1 _ λp pos aJ O O O=>aa aJ (h _ _ _)
theorem Us{c:bP}{nm:String}(B:Ynk){e:aI}{es:Ye}(K:ZG)(L:ZI)(hm:Ycz){P:Ys}(h:gH g k env c.ns r es mh λvs m=>one vs False λa=>lst a m λO O l=>YHz∧P l m)(go:∀{A:Around}{s:Shared}{m:ag}{l us:Y3}{a:Nat},Z5→Y4n→m8 g.w (lq g.w) s.heap a us→lQ us l→YHz→P l m→fW g A cX s m (call x Y8l) Zi):YK5:=λA s aG ae aN=>by
 refine Yux λy z=>z.1 _ λp pos fx O dC uV=>z.2 _ λcO ame aC hs du i3=>?_;clear z hm;subst fx aC;refine wpAny_Call_NameR (AR K.1 ae aN (rq L dC) uV B.1 B.2 B.3 (ix (nJ (es:=[Y0Q (Y09 Yjz cO) es [] ame]) rfl ..) (B.4 YAR (uH lh (NT Yg)))));intro PY PZ P0;refine wpAny_Call_NameR (AR K.1 ae aN (rq L du) i3 Fj.1 Fj.2 Fj.3 (ix YDk (Fj.4 YAR (uH lh (YPI λxs s1 z=>YM)))));obtain⟨m1,z⟩:=z;obtain⟨vs,bg,q⟩:=z.3;refine ax (rr q λb cM ck=>jN ck λl t fX fa hm gD=>?_);subst cM;subst fa;obtain⟨y,fy,gA⟩:=bg.one
 (refine ix fy (aa (gA.fP rfl) ?_))
 refine z.1.list hm λbf ep aA hM=>ama Y2l (fF (c0 (show 40≤60 by exact Y2) _) aG.D3) YDS hM gD.1.3 gD.1.1 λh' tk us S m b5=>NS ?_;have Ut:YlR:=λb o e=>b5 b o YDB e;exact nE (Y0m (Step.grow (s':=YrC) Ut)) (go (s:=YrC) aG (YEH (s':=YrC) Ut rfl rfl) S m gD.1 gD.2)
theorem tp.dI{l:Y3}(h:YHz){v:V}(aO:YNb):YTr∧v≠Y37:=by
 rcases h.3 with q | q | q
 ·exact⟨D1 (c:=1) YWl,Yro⟩
 ·exact⟨D1 (c:=2) YWl,Yro⟩
 ·exact⟨D1 (c:=3) YWl,Yro⟩
theorem lQ.sortable{l:Y3}(m:lQ us l)(ok:YHz)(p:vs.Perm us):YNq:=by
 have oB:∀v,v∈vs→YNb:=λv aO=>Yak ZWl;exact⟨by refine aj p.length_eq ?_;exact fF m.len (fF YHV Y2),⟨λa aD b ah=>ok.2.1 a Ynj b (oB b ah),λa aD=>YWL a Ynj⟩,λa aD=>ok.dI Ynj⟩
def FJ:dj:=lL ⟨λO c e=>BX "sorted" c e,λO vs m Q=>amb vs m Q⟩ Zir λK L hm h=>Us y3 K L hm h λ{A s m l us a}aG ae S mt ok q=>by
 refine S _ Yrr;have jR:YUK:=aQ iv (aj hX.len ZFG);refine Tg aG (al4 (A:=A.in1) Y2l jR aA T λs1 xs ord p b5 cR lR ex=>?_);obtain⟨d0,dV,Kw⟩:=hX.perm p;subst ex;refine⟨d0,mt.sortable ok dV,⟨cR,lR,b5,Kw.1.keep Y64⟩,λh' bf Pn fX rK bb gA pm mc=>?_⟩;have pu:=pm.trans dV;exact hy.go Yeu (BD (s':=YEK) (ae.grow b5 cR lR) rK rfl rfl Y1f bb gA (q fX (pu.nodup_iff.mpr mt.1) (λv=>pu.mem_iff.trans (mt.2 v)) mc))
def amf:dj:=lL ⟨λO c e=>BX "len" c e,λO vs m Q=>amc vs m Q⟩ Zir λK L hm h=>Us S3 K L hm h λ{A s m l us a}aG ae S mt ok q=>by
 refine S _ Yrr;have fZ:ZNN:=ZGV;exact call_len_set aA YtG rfl T.fits (by rw[fZ];exact fit (au ZFG Y2)) (gT fZ (me _ ae Y4G (q us mt.1 mt.2)))
def KJ(v:V)(mh:ag)(Q:Y1D):Y1:=v.casesOn False Y3z Y3z Y3z (λa=>∃t l,Y0d=Zac∧Z74) Y3z ZjT
theorem amg{v:V}{Q:Y1D}(ae:Y4n)(st:YFh)(bz:Y2m)(q:Z51):YKV:=by
 cases v with
 |ref a=>exact q.elim λt q=>q.elim λl q=>(bz.fP rfl).symm▸Qd ae st q.1 q.2
 |tup l=>exact Qe ae st bz q
 |_=>exact q.elim
def BY:gq:=⟨yD KJ,AV amg⟩
noncomputable abbrev v (i:Nat):E:=Y8X
noncomputable abbrev qI:E:=.op (Bs Y7) []
noncomputable abbrev pI (b:Bool):E:=.op (Bs Y1x) []
noncomputable abbrev bY (i:Int):E:=.op (Bs Y3T) []
noncomputable abbrev bK (n:Nat):E:=.op (Bs ZM) []
def amh:S:=YS (Y6w (.op oEq [.op i4 YT,Y1c]) (.op oEq [.op aiD [.op fi [v 0,Y0I]],bK 2]))
def ami:YH:=["t"]
def amj:S:=YS (.op FJ [ZF hb [.op ZJG YT] Ycf 2 [] [Z1E] Y3n])
def amk:YH:=["t"]
def aml:S:=Y01 (Ya Fo (v 1) [ZF hb [.op ZJG Y2E] Ycf 2 [2] [] (.op oTup [.op rE [.op oTup Y1a,v 0],v 1])]) YO
def amm:S:=YcM
def amn:S:=Y0A It [.op kT YT] Ycg (aml) amm
def amo:S:=Yi YEz (.op fj [.op oTup [Yc8,v 0]]) amn
def amq:YH:=["t","found","k","kid"]
def amr:S:=Yi (.fd 198 3 (v 0)) Y0x YO
def ams:S:=Yi (.fd 198 2 (v 0)) Y0x amr
def amt:S:=Yi (.fd 198 1 (v 0)) YPt ams
def amu:S:=Yi (.fd 198 0 (v 0)) Y0x amt
def amv:YH:=Y6B
def amw:S:=YS YPx
def amx:YH:=Y6B
def amy:S:=YS (.op fc [Ybm,v 3])
def amz:S:=.cV (YF1 (.chain Y0I (v 4) YPx)) Y8S YO YO
def amA:S:=YS (.op nR [YPx,Y1c])
def amB:S:=Y01 (Ya mr (.op ZFo YT) [.op oI [Y1c,.op ajv [.op Bt [ZF iK [YPz] ZQ 1 [0] [] (.op gW [.op ZFo Zh,v 0]),Z1M]]]]) amA
def amC:S:=Y01 (Ya mr (.op ZFn YT) [.op oI [Y1c,.op S9 [ZF iK [YPz] ZQ 1 [0] [] (.op gW [.op ZFn Zh,v 0])]]]) amB
def amD:S:=Y01 (Ya mr YC4 Y2E) amC
def amE:S:=Yi (.hA Ybm (v 3)) YPx amD
def amF:S:=Y0A iK [YPz] YPp (amz) amE
def amG:S:=Y01 (Ya (c3 198 129) (v 0) Zh) amF
def amH:S:=.cV (.op JF [v 3,Ybm]) (amy) YO amG
def amI:S:=Yi Y74 (.op rE [.op oTup Zh,Z1R]) amH
def amJ:YH:=["self","op","kids","node","kid"]
def amK:S:=.cV (.or (YF1 (.op (cU 79) Zh)) (.op oEq [.op aiB YfQ,bK 2])) Y8S YO YO
def amL:YH:=["self","op"]
def amM:S:=YS (.op fi [Z1N,Y0I])
def amN:YH:=YRr
def amO:S:=YS (.op kT [Z1N])
def amP:YH:=YRr
def amQ:S:=Yi (.fd 236 0 (v 0)) (v 1) YO
def amR:YH:=Z9K
def amS:S:=YS (.cV (.op oEq [Ya wV (v 1) [v 4,v 2],v 2]) (.op fj [v 5]) Y0x)
def amT:S:=Yi (.hA (v 5) (v 4)) (v 2) amS
def Uu:S:=Yi Z0r (.op ajZ Zh) amT
def amU:S:=.yR 8 Z25 YO
def amV:S:=Y01 (Ya Fo (v 6) [v 8]) YO
def amW:S:=Y0A Qj [Z1Q,YPz] (YCB 9 10) (amU) amV
def amX:S:=Yi Z0s (.op fj Zh) amW
def amY:S:=.cV (Y6w (.op oEq [Z1L,v 4]) (.op oEq [.op i4 [v 7],.op i4 Y2E])) (amX) YO YO
def amZ:S:=YS (v 6)
def am0:S:=Y0A hb [Ya (c3 617 595) Ybn Y1a] (Y1L 7) (amY) amZ
def Uv:S:=Yi Ybj Y0x am0
def am1:S:=.cV (.op Yie Y2E) (Uu) YO Uv
def am2:S:=Yi YJg (.op fi ZA9) am1
def am3:YH:=["self","table","c","pattern","op","late","found","node","tables","kid","part"]
def am4:S:=Yi (.hA (v 3) (.op nT [.op Ti YCX])) YHX YO
def am5:S:=YS (.op ajL Y2E)
def am6:S:=Y0A hb [Ya ZIl (v 0) [.op (tl 1) [],Ya YTG Ybn Zh,v 2]] YPp (am4) am5
def am7:S:=Yi Y74 (.op (tl 5) []) am6
def am8:YH:=["self","c","pattern","substs","table"]
def am9:S:=YS (.sX hb [Ya (c3 617 583) Ybn []] ZQ hb [Ya (c3 236 228) (v 2) [v 0,v 3]] Z0z 2 [0,1] (.op oTup ZA4))
def ana:YH:=["self","pattern"]
def Uw:S:=.cV (.op wQ [YBR,Y0x]) Y8S YO YO
def Ux:S:=.yR 10 (ZF hb [.op Bt [.op Yif [v 8],.op Yif [v 9]]] ZQ 1 [5] Z9U (v 0)) Uw
def anb:S:=.cV (.op Sm [v 7,.op oTup [bK 5,bK 33]]) Y8S YO Ux
def anc:S:=Yi (.fd 263 3 (v 0)) (.op nT YCX) YO
def ane:S:=Yi (.fd 263 2 (v 0)) (v 3) anc
def anf:S:=Yi (.fd 263 1 (v 0)) (v 2) ane
def ang:S:=Yi (.fd 263 0 (v 0)) (v 1) anf
def Uy:S:=Y0A hb [v 6] (YcZ 7 8 9) (anb) ang
def anh:S:=Yi Ybj (.op Bt [.op fj [.op oTup [bK 5,v 3,v 3]],.op BE YCX]) Uy
def Uz:S:=Yi Z0r (.op Yif Y1a) anh
def ani:S:=.cV (.op Yie Y1a) Y8S YO Uz
def anj:YH:=["self","name","left","right","needs","known","asked","kind","one","other","lost"]
def ank:S:=Yi (.fd 301 0 (v 0)) (v 1) YO
def anl:YH:=Z9K
def UA:S:=YS Ybz
def UB:S:=YS (Ya ZIq (.op (b2 301 0) YT) [Y3n,ZF iK Y8k ZQ 1 YKb [] (Ya YiH (v 1) YfP)])
def anm:S:=.cV Z1E (UA) YO UB
def ano:YH:=["self","pattern","table"]
def anp:S:=Yi (.fd 358 8 (v 0)) Ybw YO
def anq:S:=Yi (.fd 358 7 (v 0)) Ybw anp
def anr:S:=Yi Z0T Y0I anq
def ans:S:=Yi (.fd 358 5 (v 0)) Y0x anr
def ant:S:=Yi (.fd 358 4 (v 0)) (.op (cU 301) Zh) ans
def anu:S:=Yi (.fd 358 3 (v 0)) (.op (cU 236) Zh) ant
def anv:S:=Yi (.fd 358 2 (v 0)) (v 3) anu
def anw:S:=Yi (.fd 358 1 (v 0)) (.op BE Y1a) anv
def UC:S:=Yi (.fd 358 0 (v 0)) (v 1) anw
def UD:S:=.cV (.op oLt [.op amf YCX,.op i4 YCX]) Y8S YO UC
def UE:S:=.yR 4 (ZF hb Y1a ZQ 1 [] [] (.op YKx YT)) UD
def anx:S:=.cV (.op Sm [Ya wV (v 3) Z9q,.op (wN Ycb) []]) Y8S YO UE
def anz:YH:=["self","heap","rules","options","names"]
def anA:S:=YS (.op oJ [Ya ZIo Ybo [],Ya wV YPq [bK 15,bY 10000]])
def anB:YH:=Y6B
def anC:S:=YcO
def anD:S:=YcO
def anE:S:=Y01 (Ya mr Z17 [.op oTup [YJi,Z14,Yc3,Y0I]]) anD
def anF:S:=Yi (.eB Z19 (v 1)) (.op oI [Z1W,.op gW [Z18,v 1]]) anE
def anG:S:=Yi (.eB Z18 (v 1)) Z1I anF
def anH:S:=Z22
def anI:S:=.cV (Y6w (.op oEq [Z0p,bK 25]) (.op oJ [Yc3,Ya wV YPq [YSl,bY 100]])) (anG) YO anH
def UG:S:=Yi Y63 (Ya ZIm (.op ZFr YT) [.op YhG [YF5]]) anI
def anJ:S:=.cV (.op oJ [.op gW [Z19,v 1],YJi]) (anC) YO UG
def anK:YH:=["self","k","found"]
def anL:S:=YbV
def anM:S:=YF9
def UH:S:=YS (Ya (c3 617 555) Ybo [v 4,v 5,.op oTup [bK 26,.op YKx Zh,Z1R]])
def UI:S:=.wJ [4,5] [Ya YiH Z16 [.op YhG Zh,v 3],Ya YiH Z16 [.op (b2 263 2) Zh,v 3]] UH
def UJ:S:=.cV (.op wQ [ZF iK [Z15] ZQ 1 [0,3] [Z1I] (v 0),Y0x]) (anM) YO UI
def anN:S:=.cV (.op aiu [Z15,Yc8]) (anL) YO UJ
def anO:S:=Yi Y74 Z1H anN
def anP:YH:=["self","rule","subst","table","left","right"]
def anQ:S:=Yi Y74 (.op oI [v 3,Y1c]) YO
def anR:S:=.cV Z0A (anQ) YO YO
def anS:S:=YcN
def anT:S:=Y01 (Ya mr Z17 [.op oTup [YJi,Z14,Yc3,v 3]]) anS
def anU:S:=Y0A hb Y1a Ych (anR) anT
def anV:S:=Yi Y74 Y0I anU
def anW:YH:=["self","k","found","joined","c","subst"]
def UK:S:=YbV
def anY:S:=Yi YEz (.op oI [v 1,Ya YiI (v 0) [v 3,Ya ZIn (v 0) Y2E]]) UK
def UL:S:=Y0A nM Y1a Z12 (anY) YO
def anZ:S:=YbV
def UM:S:=Yi YEz (.op S9 [ZF nM Y1a ZQ 1 [0,4] [.op aiw [YPw,qI]] (Ya YiI (v 1) [v 0,YPw])]) anZ
def KL:S:=Yi YJg (ZF nM Y1a ZQ 1 [0] [] (Ya ZIn (v 1) YT)) UM
def an0:S:=YcM
def UN:S:=Yi Z0T Z1W an0
def an1:S:=.cV (.op oEq [Z0p,YL1]) (UL) (KL) UN
def UO:S:=Y01 YPm an1
def an2:S:=.wJ [1,2] [Y0I,.op qG [Z1P]] UO
def an3:YH:=["self","joined","some","k","lists"]
def an4:S:=Yi (.fd 405 0 (v 0)) (v 1) YO
def an5:YH:=["self","runner"]
def UP:S:=YS (Ya (c3 405 388) (v 0) [YA1])
def UQ:S:=YS (.op oJ [Ya (c3 358 348) YC5 [],Y0I])
def UR:S:=YS (.op wQ [ZF hb [ZF iK Y8k ZQ 1 [0] [] (Ya YTE (v 1) YT)] ZQ 1 [] YT Y1c,Y0x])
def US:S:=YS (Ya (c3 405 395) (v 0) Y8k)
def UT:S:=YS (Ya (c3 405 402) (v 0) [YA1,YPv])
def an6:S:=.cV Z1T (UT) YO Y8S
def an7:S:=.cV Yc4 (US) YO an6
def an8:S:=.cV Yc5 (UR) YO an7
def an9:S:=.cV YQ1 (UQ) YO an8
def UU:S:=.cV YJk (UP) YO an9
def aoa:S:=Yi Y63 Y3n UU
def rP:YH:=["self","plan","kind"]
def aob:S:=Z21
def aoc:S:=Y01 Z0o aob
def aod:S:=Yi YJg (Ya YiI YC5 [v 2,Ya ZIm (.op ZFr [YC5]) [.op YhG Y2E]]) aoc
def UW:S:=Y01 Z0o aod
def UX:S:=.cV (.op oEq [.op YKx Y2E,v 1]) (UW) YO YO
def aoe:S:=Y0A yE Z9T Ycg (UX) Y8S
def BZ:YH:=["self","name","k","rule","joined"]
def aof:S:=YS YHX
def FK:S:=.cV (Ya YTE (v 0) Y1a) (aof) YO YO
def UY:S:=YF9
def aog:S:=Y0A iK Zh Z11 (FK) UY
def aoh:YH:=["self","plans","plan"]
def aoi:S:=YS (.op oJ ZA9)
def aoj:S:=.cV (YF1 (Ya YTE (v 0) Zh)) (aoi) YO YO
def aok:S:=YS (.op oJ [v 2,Y0I])
def aol:S:=Y0A nM [.op qG Y1a] Z12 (aoj) aok
def aom:YH:=["self","plan","most","lap"]
def aon:S:=Yi (.fd 487 2 (v 0)) Y0x YO
def aoo:S:=Yi (.fd 487 1 (v 0)) Y0x aon
def aop:S:=Yi (.fd 487 0 (v 0)) Y0x aoo
def aoq:YH:=Y6B
def aor:S:=YS (.op nR [YPy,Y1c])
def aos:S:=Y01 (Ya mr YJj [.op fj [.op i4 [YJj]]]) aor
def aot:S:=Y01 (Ya mr Y9z [YPy]) aos
def aou:YH:=Y6B
def aov:S:=YS YPy
def aow:YH:=Y6B
def aox:S:=Yi YEz Z1O YO
def aoy:S:=YcM
def aoz:S:=.Be (.op wO [Z1O,v 1]) (aox) aoy
def aoA:YH:=Z9I
def aoB:S:=YcO
def aoC:S:=YS Z1c
def aoD:S:=Y01 (Ya mr (.op (b2 487 2) YT) [Z1c]) aoC
def aoE:S:=Y01 (Ya Fo (.op gW [YJj,v 3]) [.op gW [YJj,v 4]]) aoD
def aoF:S:=Yi (.eB Y9z (v 4)) (v 3) aoE
def UZ:S:=.cV (.op oEq ZAA) (aoB) YO aoF
def aoG:S:=.wK true 3 4 (.op Fp [.op fj [Z0n,Ya YTF (v 0) Y1a]]) UZ
def aoH:YH:=["self","a","b","kept","gone"]
def aoI:S:=YS (.op Fp [.op gW [YJj,Z0n]])
def aoJ:YH:=Z9I
def aoK:S:=YS (ZF nM [.op qG [YPy]] ZQ 1 [0] [.op oEq [.op gW [.op ZFs Zh,v 0],v 0]] (v 0))
def aoL:YH:=Y6B
def aoM:S:=Yi (.fd 617 6 (v 0)) Y0x YO
def aoN:S:=Yi (.fd 617 5 (v 0)) (.op (tl 2) []) aoM
def aoO:S:=Yi (.fd 617 4 (v 0)) YPt aoN
def aoP:S:=Yi (.fd 617 3 (v 0)) Y0x aoO
def U0:S:=Yi (.fd 617 2 (v 0)) Y0x aoP
def U1:S:=Yi (.fd 617 1 (v 0)) (.op (cU 487) []) U0
def aoQ:S:=Yi (.fd 617 0 (v 0)) (.op (cU 198) []) U1
def aoR:YH:=Y6B
def aoS:S:=YS (Ya (c3 198 117) YPr [])
def aoT:YH:=Y6B
def aoU:S:=YS (.op rE [.op oTup [Ya (c3 198 155) YPr Zh],.op nT [ZF iK [Ya (c3 198 162) YPr Zh] ZQ 1 [0] [] YEy]])
def aoV:YH:=YRr
def aoW:S:=YcN
def aoX:S:=Y01 (Ya mr (.op fc [YF4,v 4]) Y2E) YO
def aoY:S:=YcN
def aoZ:S:=Y01 (Ya ZIs (v 0) Y2E) aoY
def ao0:S:=Y0A hb [.op FJ [ZF BY Y1a ZQ 1 [0] [] YEy]] YPp (aoX) aoZ
def ao1:S:=Yi (.hA YF4 (v 3)) Y0x ao0
def ao2:S:=Y01 (Ya (c3 487 430) YF3 []) ao1
def ao3:S:=.cV (.op oLt [v 3,Ya (c3 487 437) YF3 []]) (aoW) YO ao2
def ao4:S:=Yi Y74 (Ya (c3 198 122) YPr ZA6) ao3
def ao5:YH:=["self","op","numbers","n","c"]
def ao6:S:=YS (Ya ZIq (v 0) [Y3n,.op nT [ZF iK Y8k ZQ 1 [0] [] (Ya ZIr (v 1) YT)]])
def ao7:YH:=["self","term"]
def ao8:S:=Y01 (Ya ZIt (v 0) [v 2,v 1,.op oTup [bK 12]]) YO
def KN:S:=.cV (.op wO [Ya YTG (v 0) Y1a,Ya YTG (v 0) Zh]) (ao8) YO YO
def ao9:S:=Yi Y63 (Ya Tc (.op (b2 617 4) YT) [Ya ZIp (v 0) Zh,v 1]) KN
def apa:YH:=["self","n","other"]
def apb:S:=YS (Ya YTF YF3 Zh)
def apc:YH:=YRr
def apd:S:=YS (Ya ZIt (v 0) ZA5)
def ape:YH:=["self","a","b","reason"]
def apf:S:=YF9
def apg:S:=YS YHX
def aph:S:=Yi (.hA YF4 (v 5)) (.op Bt [.op fc [YF4,v 5],Ya ajD YF4 [v 6]]) apg
def api:S:=Y01 (Ya Fo Ybq [.op fc [YF4,v 6]]) aph
def U2:S:=Y01 (Ya mr (.op (b2 617 3) YT) [.op nR [.op i4 [Z1A],Y1c]]) api
def apj:S:=.wK false 5 6 (v 4) U2
def apk:S:=.cV (.op Bu [v 4,qI]) (apf) YO apj
def apl:S:=Yi YJg (Ya (c3 487 451) YF3 ZA6) apk
def apm:S:=Y01 (Ya mr Z1A [.op oTup ZA5]) apl
def apn:YH:=["self","a","b","reason","merged","kept","gone"]
def apo:S:=Y01 (Ya ZIs (v 0) [Ya ajB Ybq []]) YO
def apq:S:=.Be (.op oJ [.op i4 [Ybq],Y0I]) (apo) YO
def apr:YH:=Y6B
def aps:S:=YS (Ya (c3 487 463) YF3 [])
def apt:YH:=Y6B
def apu:S:=YS (Ya (c3 487 458) YF3 Zh)
def apv:YH:=Z9J
def apw:S:=YS (.op FJ [ZF hb [Ya (c3 617 590) (v 0) Zh] ZQ 1 [0] [] (Ya ZIp (v 1) YT)])
def apx:YH:=Z9J
def apy:S:=YS (.op YI3 [bK 32,.op oTup [Z1b,Z1X],bK 28,.op oTup [.op oTup [bK 1,Y75,Z1Z],.op oTup [bK 1,Z1Z,Y75]],bK 11,.op oTup [Z1X,.op oTup [bK 8,Z1b]],bK 16,.op oTup [.op oTup [bK 1,Y75,Z1Y],Y75]])
def apz:YH:=[]
def U3:S:=YS (.op oMod [Ya ajC Z1J [Y0I],v 1])
def KO:S:=YS (.op oMod [.op aiq [.op oMod [.op oI [.op aip [Z1K,bY 29],bY 17],bY 97],bY 3],v 1])
def U4:S:=.cV (.op wQ [Z1J,Y0x]) (U3) YO KO
def apA:S:=Yi (.hA (v 0) (bK 9)) (.op oI [Z1K,Y1c]) U4
def apB:YH:=["pack","cards"]
def U5:S:=YS (.op oTup [bK 1,YPs,YPs])
def apC:S:=YS (.cV Z1V (.op oTup [bK 8,YPs]) (.op fi [.op oTup [Z1Y,.op oTup [bK 21]],v 2]))
def KP:S:=.cV Z1U (U5) YO apC
def apD:S:=Yi Y63 (.op Y7d [v 0,.cV Yc6 (bY 4) YGA]) KP
def apE:YH:=Z9H
def apF:S:=YS Z1a
def apG:S:=YS (.op rE [.op oTup [bK 27],.op nT [ZF nM [.op qG [.op oI [Y1c,.op Y7d [v 0,YGA]]]] ZQ 1 [0,1] [] (.op YGL [v 1,.op nR ZA8])]])
def apH:S:=YS (.op oTup [bK 10,Ybt,Ybt])
def apI:S:=YS (.op oTup [bK 24,Ybt,.op Y7d [v 0,bY 3]])
def apJ:S:=YS (.op oTup [bK 19,.op fi [YPu,.op Y7d [v 0,bY 4]]])
def apK:S:=.cV (.op oEq [v 2,bY 4]) (apI) YO apJ
def apL:S:=.cV Z1V (apH) YO apK
def apM:S:=.cV Z1U (apG) YO apL
def FL:S:=.cV (.op oEq ZA8) (apF) YO apM
def apN:S:=Yi Y63 (.op Y7d [v 0,.cV Yc6 (bY 6) YGA]) FL
def apO:YH:=Z9H
def apP:S:=Y01 (.op Yid YfP) YO
def apQ:S:=Y01 (Ya mr YC6 Zh) YO
def U6:S:=Yi (.hA Yby (v 1)) Yc2 apQ
def U7:S:=YS (.op fc [Yby,v 1])
def KQ:S:=.cV (.op aiv [v 1,Yby]) (U6) YO U7
def apR:S:=Y0A iK Y8k Z11 (apP) KQ
def apS:YH:=["book","t","kid"]
def U8:S:=Yi Y63 (ZF hb Y1a ZQ 1 [6,7] [] (.cV (.op oEq YfP) (v 1) (v 0))) YO
def U9:S:=.wK true 6 7 (.op Fp [.op fj [.op gW [v 2,v 4],.op gW [v 2,v 5]]]) U8
def Va:S:=Y01 (Ya mr (v 9) [.op oTup [v 12,YBR]]) YO
def Vb:S:=.cV (.op wO [.op gW [v 2,v 12],.op gW [v 2,YBR]]) (Va) YO YO
def apT:S:=Yi (.nm 12) (Ya Tc (v 8) [.op rE [.op oTup [.op fi ZA7],.op nT [ZF iK [.op kT [v 11]] ZQ 1 YKb [] Yc1]],YBR]) Vb
def apU:S:=Yi Y74 (v 9) YO
def Vc:S:=Y0A yE Zh (YCB 10 11) (apT) apU
def apV:S:=.wJ [8,9] [YPt,Y0x] Vc
def Vd:S:=Y0A hb Y2E Ych (U9) apV
def apW:S:=Z22
def apX:S:=.Be (.op wQ [v 3,Y0x]) (Vd) apW
def Ve:S:=Yi Y74 Z1F apX
def apY:S:=.Bd [YEz,Y63] [YC6,.op BE [.op qG [Yc2]]] Ve
def apZ:YH:=["book","terms","least","wanted","a","b","low","high","seen","late","at","t","other"]
def Vf:S:=YS Ybz
def Vg:S:=YS (Ya wV (v 0) [.op rE [Yc7,.op nT [ZF iK Y8k ZQ 1 YKb [] (.op ZJE YfS)]],.op (Ts 1) []])
def ap0:S:=.cV Z1G (Vf) YO Vg
def ap1:YH:=["known","pattern","table"]
def ap2:S:=Yi (.hA (v 5) (.op rE [.op oTup [Z1L],.op nT [ZF iK [Z1Q] ZQ 1 [0,1] [] Yc1]])) (.op gW [v 1,v 6]) YO
def Vh:S:=Y01 (Ya mr (v 4) [.op oTup [v 11,.op nT [.op Ti [YBR]]]]) YO
def ap3:S:=.cV (.op aix ZA7) (Vh) YO YO
def Vi:S:=Yi Z0q (.op ZJE [v 5,.op fi [.op fc [Ybs,v 2],Y0I],YBR]) ap3
def Vj:S:=Yi Ybi Z0I Vi
def Vk:S:=Y0A hb [Z0K] Z13 (Vj) YO
def ap4:S:=YS (.op Fp YCX)
def Vl:S:=Y0A hb Y2E (Y1L 8) (Vk) ap4
def Vm:S:=Y0A yE [YC6] Z2S (ap2) Vl
def ap5:S:=.wJ [3,4,5] [.op FJ Zh,Y0x,YPt] Vm
def ap6:YH:=["book","least","name","lots","found","known","at","t","x","y","table","c"]
def Vn:S:=YS (.op gW [YC6,Ybz])
def Vo:S:=YS (.op rE [Yc7,.op nT [ZF iK Y8k ZQ 1 YKb [] (.op ZJF YfS)]])
def ap7:S:=.cV Z1G (Vn) YO Vo
def ap8:YH:=["book","pattern","table"]
def Vp:S:=Y01 (Ya mr (v 3) [.op oTup [v 8,v 9]]) YO
def Vq:S:=.wK true 8 9 Z0O Vp
def Vr:S:=.cV (.op oLe [Yc2,.op fc [v 0,YSl]]) (Vq) YO YO
def ap9:S:=Y0A hb [v 5] Z2S (Vr) YO
def KR:S:=YS (.op wQ [ZF hb Y2E Ycf 2 [10] [.op wO [YPw,.op gW [v 2,v 1]]] Y1c,Y0x])
def Vs:S:=Yi (.hA (v 0) YhT) (.op Bt [v 2,v 3]) KR
def aqa:S:=Yi Ybi Ybu Vs
def Vt:S:=Y0A hb Zh Ych (ap9) aqa
def aqb:S:=.wJ [2,3] [Z1F,Y0x] Vt
def aqc:YH:=["book","lots","elder","fresh","name","hits","c","row","one","other","least"]
def aqd:S:=YS (.op YTY [v 0,.op fj [.op oTup [YA1,.op YTX [v 0,Ybu,YA1]]]])
def Vu:S:=YS (.op JE [YHX,ZF iK [YPu] ZQ 1 [0] [] (.op YTY [v 1,.op fj [.op oTup [v 0,.op YTX [v 1,.op YAZ Zh,v 0]]]])])
def aqe:S:=YS (.op YTY [v 0,ZF iK [YPu] ZQ 1 [0,3] [] (.op oTup [v 0,.op YTX [v 1,v 2,v 0]])])
def aqf:S:=Yi Y74 Ybu aqe
def aqg:S:=YS (.op JE [YHX,ZF iK Y8k ZQ 1 [0] [] (.op YTZ [v 1,v 0])])
def aqh:S:=YS (.or Z1D (.op YTZ [v 0,YPv]))
def aqi:S:=Z21
def aqj:S:=.cV (YF1 Z1D) (aqi) YO YO
def aqk:S:=YS (.op oJ [YPv,Y0I])
def aql:S:=Y0A nM [.op qG [YPv]] YPp (aqj) aqk
def aqm:S:=.cV Yc4 (aqh) YO aql
def aqn:S:=.cV Yc5 (aqg) YO aqm
def KS:S:=.cV YQ1 (aqf) YO aqn
def aqo:S:=.cV (Y6w YQ1 (.op fc [v 0,YL1])) (Vu) YO KS
def FN:S:=.cV YJk (aqd) YO aqo
def aqp:S:=Yi Y63 Y3n FN
def aqq:YH:=["book","plan","kind","least","lap"]
def Vv:S:=Y01 (Ya mr (v 4) [.op Yic YAK]) YO
def aqr:S:=YF9
def Vw:S:=.cV (.op wO [Ya ZIr (v 2) [v 5],.op Yid [v 3,v 5]]) (aqr) YO YO
def aqs:S:=YF9
def aqt:S:=YF9
def Vx:S:=.cV (.op wQ [ZF nM [.op qG [YPl]] ZQ 1 [2] [] YEy,Ybv]) (aqt) YO YO
def Vy:S:=.cV (.op wO [Ya YTE (v 8) [YBR],.op YTZ [v 3,YBR]]) (aqs) YO Vx
def Vz:S:=Yi Ybi (.op YGL [v 1,.op nR [YGA,v 9]]) Vy
def FO:S:=YS (Y6w (.op oEq [YPl,v 11]) (.op Sl [ZF nM [.op qG [v 11]] ZQ 1 [2] [] YEy,Ybv]))
def aqu:S:=Yi Z0q YPl YO
def KU:S:=Y0A nM [.op qG [.op oI [Y1c,Z1C]]] Z13 (Vz) aqu
def aqv:S:=Yi Z0s (.op (cU 405) [.op (cU 358) [v 2,v 7,v 6]]) KU
def aqw:S:=.yR 7 Z0N aqv
def VA:S:=Yi Ybj (.op YI3 [bK 20,Z0J,bK 15,.op fc [v 3,YSl]]) aqw
def FP:S:=.Bd [(.hA (v 3) YL1),(.hA (v 3) YSl)] [Z1S,.op oI [bY 6,.op Y7d [v 1,bY 5]]] VA
def KV:S:=Y0A hb YCX (Y1L 5) (Vw) FP
def VB:S:=.cV Z1S (Vv) YO KV
def VC:S:=Yi YJg (.op fj [.op Yic YfR]) VB
def VD:S:=.Bd [Y63,Y74] [.op (cU 617) [],.op YI3 [bK 29,Y0x,bK 23,.op (tl 4) [],YhT,Y0x]] VC
def FQ:S:=Yi YEz (.op YI3 [bK 7,ZF hb [.op aiG YT] ZQ 1 [] [] (.op oMod [.op Ta YT,bY 1000003]),bK 9,Y0I]) VD
def rQ:YH:=["script","pack","heap","book","lots","t","options","rules","plans","lap","plan","many"]
noncomputable abbrev sn (s:String):Str:=er s
def br:ih where
 gl:=[(sn "is_op",Y0 79),(sn "is_variable",Y0 86),(sn "variables",Y0 91),(sn "parts",Y0 96),(sn "_law_sides",Y0 629),(sn "_law_deal",Y0 636),(sn "_law_bloom",Y0 643),(sn "_law_scheme",Y0 648),(sn "_law_enter",Y0 655),(sn "_law_closure",Y0 660),(sn "_law_stands",Y0 665),(sn "_law_hits",Y0 670),(sn "_law_laid",Y0 675),(sn "_law_done",Y0 680),(sn "_law_carried",Y0 685),(sn "_law_is_refused",YQ3),(sn "law",YcA),(sn "Bank",Y0 198),(sn "Walker",Y0 236),(sn "Rule",Y0 263),(sn "Placer",Y0 301),(sn "Runner",Y0 358),(sn "Plans",Y0 405),(sn "Unions",Y0 487),(sn "Heap",Y0 617),(ZZj,Ycb),(ZZk,Ycc)]
 mt:=[(198,Y83,110),(198,You,117),(198,sn "take",122),(198,sn "require",129),(198,sn "op",155),(198,sn "kids",162),(236,Y83,216),(236,sn "extended",221),(236,sn "found_in",228),(236,sn "found",233),(263,Y83,253),(301,Y83,281),(301,ZZp,286),(358,Y83,317),(358,sn "is_full",324),(358,sn "matches",331),(358,sn "apply",336),(358,sn "apply_all",343),(358,sn "one_round",348),(405,Y83,376),(405,sn "do",381),(405,sn "once",388),(405,sn "either",395),(405,sn "repeat",402),(487,Y83,423),(487,sn "make",430),(487,You,437),(487,ZZm,444),(487,ZZo,451),(487,ZZn,458),(487,ZZl,463),(617,Y83,505),(617,You,512),(617,sn "node",517),(617,sn "add",522),(617,ZZp,527),(617,sn "look_at",534),(617,ZZm,541),(617,ZZo,555),(617,sn "join",562),(617,sn "settle",569),(617,ZZl,583),(617,ZZn,590),(617,sn "nodes_of",595)]
 eA:=[(198,["nodes","numbers","weights","depths"]),(236,Z9G),(263,["name","left","right","needs"]),(301,Z9G),(358,["heap","rules","options","walker","placer","history","rounds","rests","wakes"]),(405,["runner"]),(487,["above","lots","merged"]),(617,["bank","unions","edges","forest","known","above","waiting"])]
def hN(n:Nat):Bool:=ZVR
def VE:List (Nat×YH×Nat×S):=[(86,ami,1,amh),(91,amk,1,amj),(96,amq,1,amo),(110,amv,1,amu),(117,amx,1,amw),(122,amJ,3,amI),(129,amL,2,amK),(155,amN,2,amM),(162,amP,2,amO),(216,amR,2,amQ),(221,am3,4,am2),(228,am8,3,am7),(233,ana,2,am9),(253,anj,5,ani),(281,anl,2,ank),(286,ano,3,anm),(317,anz,4,anx),(324,anB,1,anA),(331,anK,2,anJ),(336,anP,3,anO),(343,anW,3,anV),(348,an3,1,an2),(376,an5,2,an4),(381,rP,2,aoa),(388,BZ,2,aoe),(395,aoh,2,aog),(402,aom,3,aol),(423,aoq,1,aop),(430,aou,1,aot),(437,aow,1,aov),(444,aoA,2,aoz),(451,aoH,3,aoG),(458,aoJ,2,aoI),(463,aoL,1,aoK),(505,aoR,1,aoQ),(512,aoT,1,aoS),(517,aoV,2,aoU),(522,ao5,3,ao4),(527,ao7,2,ao6),(534,apa,2,ao9),(541,apc,2,apb),(555,ape,4,apd),(562,apn,4,apm),(569,apr,1,apq),(583,apt,1,aps),(590,apv,2,apu),(595,apx,2,apw),(629,apz,0,apy),(636,apB,2,apA),(643,apE,2,apD),(648,apO,2,apN),(655,apS,2,apR),(660,apZ,1,apY),(665,ap1,3,ap0),(670,ap6,3,ap5),(675,ap8,3,ap7),(680,aqc,2,aqb),(685,aqq,2,aqp)]
abbrev b7(g:G):Y1:=hR (∀{k:Nat}{mh:ag}{Q:Yj}{n:Nat},ZQb→Z6t→ZC9) (VE.all (λx=>yW g.K br x.1 Y2L YIG Y6g)=true)
theorem b7.f(F:YZ){f:Nat}{st:S}(h:VE.lookup f=some (ns,np,st)):yW g.K br f ns np st=true:=ju F.2 (f,ns,np,st) ((List.lookup_eq_some_iff.mp h).elim λO z=>z.elim λO z=>z.1▸Y23)
theorem aBG{cl:Calls}{s:S}(h:let bI:=r;let ab:=m;ZAd):Y4E:=h
theorem aBH{cl:Calls}{s:S}(h:let ab:=m;ZAe):Y4E:=h
theorem aBI{cl:Calls}{e:E}(h:let bI:=r;let ab:=m;let Q':=Q;Zd bI ab Q'):Zd r m Q:=h
theorem aBJ{cl:Calls}{es:Yv}{Q:Ys}(h:let bI:=r;let ab:=m;let Q':=Q;Y2d bI ab Q'):Y2d r m Q:=h
theorem fS{f:Nat}{st:S}(ao:ZfA)(K:ZG)(hlen:YSX)(hh:YW7)(h:let cl:=ZH;let Qn:hg:=ZS;let r:=YHw;a6 cl st r mh Qn Q):ZCB:=gJ ao K hlen hh h
theorem dh{cl:Calls}{s:S}(h:let bI:=r;a6 cl s bI m Qn Qr):Y4E:=h
theorem f9{cl:Calls}(h:YCQ):a6 cl YO r m Qn Qr:=h
theorem cZ{cl:Calls}{e:E}(h:Yve):a6 cl Z24 r m Qn Qr:=h
theorem hO{cl:Calls}{e:E}{s:S}(h:Zd r m λO ab=>ZAe):a6 cl Z0S r m Qn Qr:=h
theorem el{cl:Calls}{e:E}{s:S}(h:Yvf):a6 cl (Yi (.nm i) e s) r m Qn Qr:=h
theorem zg{cl:Calls}{e:E}{s:S}{o:E}(h:Zd r m λv ab=>YEa r ab λa m1=>inst a C m1 λp t fs=>yS YDT YDF r ZcP YsH):a6 cl (Yi (.fd C i o) e s) r m Qn Qr:=h
theorem aqx{cl:Calls}{e:E}{s:S}{o i:E}(h:Zd r m λv ab=>YEa r ab λa m1=>YOe r m1 λb aH=>lst a aH λp t vs=>Y2a∧b.iU False λn=>ZVP∧a6 cl s r ZcA Qn Qr):a6 cl (Yi (.eB o i) e s) r m Qn Qr:=h
theorem tq{cl:Calls}{e:E}{s:S}{o i:E}(h:Zd r m λv ab=>YEa r ab λa m1=>YOe r m1 λb aH=>lb a aH λp t c es=>yS Ykq Y6N r Zc9 YsH):a6 cl (Yi (.hA o i) e s) r m Qn Qr:=h
theorem FR{cl:Calls}{e:E}{s:S}(h:Yvf):a6 cl Z2X r m Qn Qr:=h
theorem B0{cl:Calls}{s:S}{es:Yv}(h:Y2d r m λvs ab=>a6 cl s Yd2 ab Qn Qr):a6 cl Z2W r m Qn Qr:=h
theorem KW{cl:Calls}{s:S}{ts:Y8b}{es:Yv}(h:Y2d r m λvs ab=>Bg cl ts vs r ab YIg):a6 cl Yzp r m Qn Qr:=h
theorem KX{cl:Calls}{e:E}{s:S}(h:Zd r m λv ab=>lst v ab λO O vs=>Zbk):a6 cl (.wK true i j e s) r m Qn Qr:=h
theorem aqy{cl:Calls}{e:E}{s:S}(h:Zd r m λv ab=>v.eM False λvs=>Zbk):a6 cl (.wK false i j e s) r m Qn Qr:=h
theorem en{cl:Calls}{t:E}{a b s:S}(h:YBg r m λx ab=>cond x (a6 cl a r ab YIg Qr) (a6 cl b r ab YIg Qr)):a6 cl Z0M r m Qn Qr:=h
theorem KY{cl:Calls}{t:E}{b s:S}(h:∃J:YRL,∃n,YFM∧∀n r m,YFM→YBg r m λx m1=>cond x ZAc (a6 cl s r m1 Qn Qr)):a6 cl Yzq r m Qn Qr:=h
theorem VF{cl:Calls}{b s:S}{d5:gq}{as:Yv}{t:dY}(h:YaL r m λvs ab=>d5.o.ij vs ab λvals need aH=>∃P:Y2j,YeP∧Zm4∧∀v vs r m,Y7H→Y3K∧j3 t d5.o.weak v r YIe):a6 cl Z0V r m Qn Qr:=h
theorem t1{x:V}{Q:Y7Z}(h:Q YMv):j3 YJh false x r Q:=h
theorem cy{a b:V}{w:Bool}{Q:Y7Z}(h:Q Y5w):j3 YA5 w Ycd r Q:=h
theorem t3{l:Nat}{a b d:V}{w:Bool}{Q:Y7Z}(h:Q YZc):j3 YJq w (YD [a,b,d]) r Q:=h
abbrev aB(p:Z9)(m ab:ag):Y1:=∀b x,Ymx→p x.1=false→YgZ
noncomputable abbrev cl (k:Nat) (t:Nat):Bool:=YXT==k
noncomputable abbrev no (_:Nat):Bool:=false
theorem aB.refl{p:Z9}:aB p m m:=YO4
theorem aB.trans{p:Z9}{bF:ag}(x:Yfn)(y:aB p aH bF):aB p m1 bF:=λb o e h=>y b o (x b o e h) h
theorem aB.weak{p q:Z9}(x:Yfn)(h:∀t,ZWf→q t=true):aB q m1 aH:=λb o e aF=>x b o e (by
 cases z:p o.1 with
 |false=>rfl
 |true=>replace aF:=aQ (h _ z) aF;exact aF)
theorem aB.iO{p:Z9}(x:aB no m1 aH):Yfn:=λb o e O=>x b o e rfl
theorem aB.new{p:Z9}{x:Y1E}(h:Ymu):aB p m (upd m a x):=λb y e O=>ZEG
variable{o':ct}
theorem aB.at{p:Z9}{o:ct}(h:Ymw)(ar:ZWf):aB p m (upd m a Yb8):=λb y e bb=>by
 exact aj (dE (λq=>by replace e:=YgE;replace bb:=dU Y4I bb;exact vV (cA ar bb))) e
theorem cg{b u:Nat}{o:ct}{o2:ct}(h:Ymw)(e:m b=Zae)(az:o5 u t=false:=by rfl):ZcF=Zae:=by
 exact aj (dE (λq=>by replace e:=YgE;exact G4 az (congrArg NW Y4I).symm)) e
theorem cY{b:Nat}{x:Y1E}(h:Ymu)(e:Ymx):ZcF=YQ:=by
 exact ZEG
theorem zh{K:Ys}{T:YKU}(L:Y3)(F:V→Y3)(vb:Y3)(Inv:Y6)(ah:(vb++Z59).length≤1000000)(az:Zlv)(h0:Inv m0)(step:∀v∈L,∀acc m N,acc.length+(F v).length≤1000000→YFL→(∀ab,Inv ab→N ZDc ab)→Z8C)(fin:∀m,YFL→K (vb++Z59) m):∃P:Y1O,P L vb m0∧YVN:=by
 refine⟨λvs acc m=>∃d,L=d++vs∧acc=vb++d.flatMap F∧YFL,⟨[],rfl,Y8L,h0⟩,λacc m z=>ZfS,λv vs acc m z=>ZfS⟩
 ·have e:=z.1;replace e:=ZGQ;exact aj Z4 (k7 e (fin m Z3))
 ·have e:L=ZKS++vs:=ZI2
  have aC:vb++(d++[v]).flatMap F=ZDc:=dS Z4 (aX rg (aL Y0k (dU (List.flatMap_singleton ..) rfl)));refine step v (aa z.1 Y23) acc m _ ?_ Z3 λab hm=>⟨ZKS,e,aC.symm,hm⟩
  (rw[e]at ah;replace ah:=eT cj (aQ cj (yj aC (aX Y0k (k7 rg ah)))))
  exact au Yk ah
theorem comp_map{K:Ys}{T:YKU}(L:Y3)(F:V→V)(Inv:Y6)(ah:L.length≤1000000)(az:Zlv)(h0:Inv m0)(step:∀v∈L,∀acc m N,Y8s→YFL→(∀ab,Inv ab→N (acc++[F v]) ab)→Z8C)(fin:∀m,YFL→K Z5C m):∃P:Y1O,P L [] m0∧YVN:=by
 have e:L.flatMap Zke=Z5C:=by
  exact ayJ.symm
 exact zh L Zke [] Inv (aX e (aX YK9 (aj YF ah))) az h0 (λv aO acc m N aE=>step v aO acc m N (au Yk aE)) λm hm=>aj e (aj YK9 (fin m hm))
theorem KZ{o:ct}(t:Nat)(h:∀a,Ymu→YeV):alloc m o Q:=λa aD=>⟨t,YUo⟩
theorem lS{b:Bool}{P Q:Y1}(h:Y6G)(x:P):ZK2:=d9 h x
theorem iP{b:Bool}{P Q:Y1}(h:YhQ)(x:Q):ZK2:=d9 h x
noncomputable abbrev ay (n:Nat):V:=Ybc
noncomputable abbrev a4 (l:YV):Y3:=l.map ay
abbrev a8:=Nat×YV
def bO(x:a8):V:=YD (YC9::YCY)
theorem V.aqz{a b:Int}(h:V.int a=V.int b):a=b:=YRj
theorem V.tu{a b:Y3}(h:V.tup a=V.tup b):a=b:=YRj
theorem V.VG{b:Nat}(h:YKR=V.ref b):a=b:=YRj
theorem nW{b:Nat}(h:Y1F=Y3C):a=b:=Int.ofNat.inj (V.aqz h)
theorem K0{f:YIV}(hf:∀a b,YD9→a=b){l':ZC}(h:Ymm=l'.map f):l=l':=by
 induction l generalizing l' with
 |nil=>cases l' with
  |nil=>rfl
  |cons _ _=>exact absurd h.symm Y03
 |cons a l ai=>cases l' with
  |nil=>exact absurd h Y03
  |cons b l'=>
   have h:=YUk;exact aT (hf _ _ h.1) (congrArg _ YSU)
theorem nc{a b:a8}(h:bO a=bO b):a=b:=by
 have h:=g4 Yf3;exact iF Z8T (K0 Zgb h.2)
theorem K1(l:YV):(a4 l).all V.isInt=true:=by
 induction l with
 |nil=>rfl
 |cons a l ai=>exact ai
theorem w5(x:a8):isNode Y4s=true:=K1 x.2
theorem qJ(l:YV):hv Y4C=true:=by
 cases l with
 |nil=>rfl
 |cons a l=>cases l with
  |nil=>rfl
  |cons b l=>cases l <;> rfl
theorem aqA(l:YV)(i:Nat):Y4C[i]?=(l[i]?).map ay:=gy
theorem jm{l:YV}{v:V}(h:v∈Y4C):∃n,n∈l∧v=Y3D:=(ee h).imp λn z=>⟨z.1,Yqz⟩
def dW(kv:Y6i)(L:YCN):dm:=L.map λp=>Yxt
variable{kv:Y6i}
theorem qK[Y8Y][Y8Z]{L:YCN}{x:α}(af:YON):ZIx=(L.lookup x).map ay:=by
 induction L with
 |nil=>rfl
 |cons p L ai=>
  have e:c8 ZL8 Y3v=cond ZG6 Yp5 ZIx:=rfl;refine aj e (bW nz (aX ai ?_));by_cases q:p.1=x
  ·(refine aa q (dT Y3t (DF Y3G ?_)));rfl
  ·refine dT ZRK (DF YSw ?_);rfl
theorem zi[Y8Y][Y8Z]{L:YCN}{x:α}(af:YON)(h:Z5B):ZM9=dW kv (L++[(x,j)]):=by
 induction L with
 |nil=>rfl
 |cons p L ai=>
  have e:eE ZL8 Y3v Y8w=cond ZG6 ((YVY,Y8w)::YLR) (Yxt::ZM9):=rfl;replace h:=YFs;by_cases q:p.1=x
  ·replace h:=Ykx;exact cW h
  ·replace h:=Ykw;refine aj e (dT ZRK YjI);rfl
theorem tv[Y8Y][Y8Z]{L:YCN}{x:α}(h:YFO=Y0N):(x,j)∈L:=by
 induction L with
 |nil=>exact Y08
 |cons p L ai=>
  replace h:=YFs;by_cases q:YY6
  ·replace h:=Yky;exact ZKz
  ·replace h:=Ykv;exact ZMP
theorem VH[Y8Y][Y8Z]{L:YCN}{x:α}(h:Z5B):x∉YKD:=by
 induction L with
 |nil=>exact cS
 |cons p L ai=>
  replace h:=YFs;by_cases q:YY6
  ·replace h:=Yky;exact cW h
  ·replace h:=Ykv;exact λhm=>(dz hm).elim q YFx
theorem FT[Y8Y][Y8Z](a b:YCN)(x:α):(a++b).lookup x=((a.lookup x).or (b.lookup x)):=by
 induction a with
 |nil=>rfl
 |cons p a ai=>
  rw[Oj,nz,nz,ai];by_cases q:YY6
  ·rw[q,beq_self_eq_true];rfl
  ·rw[YCr]
def hi(N:ZC):YCN:=N.zipIdx
theorem VI(N:ZC):(hi N).length=N.length:=Ol
theorem VJ(N:ZC)(x:α):hi YA9=YV2++[(x,N.length)]:=by
 unfold hi;rw[List.zipIdx_append,List.zipIdx_singleton,l8]
theorem pJ{N:ZC}{x:α}(h:(x,j)∈YV2):YeA:=axO.mp h
theorem K2(N:ZC):(hi N).map Yh=N:=List.zipIdx_map_fst _ _
theorem K3[Y8Y][Y8Z]{N:ZC}{x:α}(h:x∉N):YxM:=by
 cases e:YEh with
 |none=>rfl
 |some j=>exact absurd (et ZWt) h
theorem w6[Y8Y][Y8Z]{N:ZC}{x:α}(h:x∈N):∃j,YEh=Y0N∧YeA:=by
 cases e:YEh with
 |some j=>exact⟨j,rfl,ZWt⟩
 |none=>exact absurd ((K2 N).symm▸h) (VH e)
open Classical in
theorem m5.sub{l l':Y3}(C:m5 l)(h:∀v,v∈l'→YNb):m5 l':=⟨λa aD b ah=>C.1 a YUo b ZPl,λa aD=>C.2 a YUo⟩
theorem VK(C:YVm)(dn:us.Nodup)(fI:vs.Nodup)(h:ZmD)(b6:j9 us)(dv:j9 vs):us=vs:=JX C ((Dr dn fI).mpr h) b6 dv
theorem nX{n m:Nat}(h:Y2X)(hm:YJv:=by decide):YB6:=au h hm
theorem vc{n m:Nat}(h:Y2X)(hm:Z2Y:=by decide):n+1≤m:=au ZLA hm
def rR(v:V)(m:ag)(l:Y3):Y1:=v=Yce∨∃p t,v=Y0V∧m p=Zac
theorem rR.of{v:V}{l:Y3}(h:ZYe){Q:Y7F}(q:Q l):Fi v m Q:=h.elim (λe=>d9 e q) λz=>z.elim λp z=>z.elim λt z=>d9 z.1 (⟨t,l,z.2,q⟩)
theorem rR.ij{v:V}{l:Y3}(h:ZYe){Q:Y1D}(q:∀need:Y6,(∀ab,(∀b x,Ymx→YgZ)→need ab)→Q l need m):Z51:=h.elim (λe=>d9 e (q _ YIb)) λz=>z.elim λp z=>z.elim λt z=>by
 exact d9 z.1 (⟨t,l,z.2,q _ λO k=>⟨t,k _ _ z.2⟩⟩)
structure tw where
 (b n m w d:Nat)
abbrev kV(mh:ag)(A:tw)(N:Yd):Y1:=iG (mh A.b=some (1,ZD 198 [Y0 A.n,Y0 A.m,Y0 A.w,Y0 A.d])) (mh A.n=some (9,Y5 Z5h)) (mh A.m=some (17,Y9 3 YLQ)) (∃W,mh A.w=ZaH∧W.length=N.length∧YRn) (∃D,mh A.d=some (33,Y5 D)∧D.length=N.length∧D.all V.isInt=true)
variable{N:Yd}
theorem kV.dq{p:Z9}{A:tw}(B:YH9)(f:Yfo)(ar:∀t,Yip→YMj):ZT7:=
 ⟨f _ _ B.1 (ar 1 rfl),f _ _ B.2 (ar 9 rfl),f _ _ B.3 (ar 17 rfl),YK1 λW z=>⟨f _ _ z.1 (ar 25 rfl),z.2⟩,Ycv λO z=>⟨f _ _ z.1 (ar 33 rfl),z.2⟩⟩
theorem kV.no{A:tw}(B:YH9)(f:Y8q):ZT7:=B.dq f Y29
def zj(N:Yd)(x:a8):Yd:=if x∈N then N else YA9
def rS(N:Yd)(x:a8):Nat:=(Y6r x).getD N.length
theorem VL{o:Nat}(h:Y4M):∃j,yY o=Y0N∧j≠2:=by
 rcases YGi with h | h
 ·exact aa Y15 (⟨17,rfl,Yf⟩)
 ·rcases YGi with h | h
  ·exact aa Y15 (⟨21,rfl,Yf⟩)
  ·rcases YGi with h | h
   ·exact aa Y15 (⟨8,rfl,Yf⟩)
   ·exact aa Y15 (⟨1,rfl,Yf⟩)
theorem zk(aE:Y8d){m:Nat}(hm:YJv:=by decide):Yul≤m:=aj YF (nX aE hm)
theorem valN(N:Yd):(V.int ((Yul:Nat):Int))=YG4:=dU YF rfl
theorem aqB{A:tw}(K:YN)(F:YZ)(B:YH9)(aE:Y8d)(h:Z6y):aU g (k+1) 117 [YF6] mh Q:=
 gJ ZT K rfl Y2 (cZ ⟨_,_,B.1,_,rfl,_,_,B.2,YIR,(valN N).symm▸h⟩)
theorem aqC{A:tw}(K:YN)(F:YZ)(B:YH9)(aE:Y8d){n:Nat}{x:a8}(az:Z5m)(aq:YqZ)(h:Q YC9 mh):aU g (k+1) 155 Z9V mh Q:=
 gJ ZT K rfl Y2 (cZ ⟨_,_,B.1,_,rfl,_,_,B.2,YIR,Y4s,ZIC,ZIB,_,rfl,h⟩)
theorem aqD{A:tw}(K:YN)(F:YZ)(B:YH9)(aE:Y8d){n:Nat}{x:a8}(az:Z5m)(aq:YqZ)(h:Q (YD YCY) mh):aU g (k+1) 162 Z9V mh Q:=
 gJ ZT K rfl Y2 (cZ ⟨_,_,B.1,_,rfl,_,_,B.2,YIR,Y4s,ZIC,Y1X,ZIB,qJ x.2,h⟩)
theorem aqE(K:YN)(F:YZ){o:Nat}(aA:Y4M)(h:Q Y7 mh):aU g (k+2) 129 [YA,ZE] mh Q:=
 fS ZT K rfl Y2 (by intro gb gc gd;exact en (F.1 aA ((VL aA).elim λj aM=>⟨rfl,j,aM.1,rfl,iP ((ic λe=>aM.2 YAH):ZFx) h⟩)))
theorem VM{x:a8}(h:YEh=Y0N):Zfe:=by
 refine⟨if_pos (et (pJ Zbh)),?_⟩;unfold rS;refine YFt;rfl
theorem VN{x:a8}(h:YxM):Zfd:=by
 refine⟨if_neg λhm=>YzS ZjL,?_⟩
 ·replace z:=eT h z;exact Yih
 ·unfold rS;refine YFt;rfl
theorem K4{W:Y3}{i:Int}(h:YRn):(W++[V.int i]).all V.isInt=true:=by refine aj List.all_append YFt;rfl
theorem aqF{W L:Y3}(h:YRn)(eW:∀v∈L,v∈W):L.all V.isInt=true:=sz λv aO=>ju h v (eW v aO)
def h3(W:Y3)(v:V):V:=W.getD Y32 Y7
theorem K5{W:Y3}{c:Nat}(h:YiR):W[c]?=some ZQQ:=by
 rw[show ZQQ=W.getD c Y7 from rfl,ho,YU1];rfl
variable{aZ:YV}
theorem VO{W:Y3}(h:YRn)(aR:∀c∈aZ,YiR):(YZz YlK).all V.isInt=true:=aqF h λv aO=>Y9l λu z=>(jm z.1).elim λc w=>by
 exact bL z.2 (bW w.2 (et (K5 YgG)))
theorem aqG{A:tw}(K:YN)(F:YZ)(B:YH9)(aE:Y8d){o:Nat}{kids:V}(aA:Y4M)(aR:rR kids mh Y4m)(B1:∀c∈aZ,YLC)(qL:ZCg)(h:∀aW,aB YLG mh aW→kV aW A (zj N Z6)→Q (ay (rS N Z6)) aW):aU g (k+3) 122 [YF6,ZE,kids] mh Q:=by
 have K6:∀{m:Nat},YJv→YvB≤m:=λhm=>aj YF (nX qL hm);have K7:∀{m:Nat},Z2Y→(YKS::Y4m).length≤m:=λhm=>aj g5 (aT YF (vc qL hm));have aqH:([YKS]:Y3).length+YvB≤1000001:=aX YF (aj YDH (vc qL));refine Y02;intro gb gc gd;refine el ⟨rfl,aR.of ⟨Ydb,YWp,aqH,rfl,en ⟨_,_,B.1,_,rfl,_,_,_,B.3,YqK,?_⟩⟩⟩;have oE:c8 YLQ YG7=(Y6r Z6).map ay:=YoO
 cases q:Y6r Z6 with
 |some j=>
  replace oE:=fU q oE;have lp:=VM q;refine lS (show Yw1=true by rw[oE];rfl) (cZ ⟨_,_,B.1,_,rfl,_,_,_,B.3,YqK,Y8w,oE,?_⟩);have h:=Yl8;rw[lp.1,lp.2]at h;exact h B
 |none=>
  replace oE:=fU q oE;have lp:=VN q;rw[lp.1,lp.2]at h;refine iP (show Yw1=false by rw[oE];rfl) Yt;intro aBK;refine f9 (hO ⟨Y8D,aqE K F aA (VF ⟨Y1X,Ydc,YWp,λvs r m=>YHO∧(∃x,r=[some YF6,YHn,some kids,some YG7,x])∧∀v∈vs,v∈Y4m,⟨rfl,YOP,Y89⟩,ZkF,λv vs r m z=>YZS⟩)⟩)
  ·obtain⟨rfl,⟨x,rfl⟩,O⟩:=z;have vd:=cg (o':=YPb) B.3 B.2;have K8:=cg (o':=YPb) B.3 B.1;have hlen:(dW bO YV2).length≤1000000:=aj YF (aj Z8b YnR);refine Yt;intro aqI;refine tq ⟨_,_,B.1,_,rfl,_,_,B.2,YIR,aa (valN N) (⟨_,_,B.1,_,rfl,_,_,_,B.3,YqK,hlen,hO ⟨_,_,K8,_,rfl,⟨_,_,vd⟩,_,_,vd,YIR,?_⟩⟩)⟩;have aJ:=aB.at (p:=YLG) (o':=YPb) B.3 rfl;generalize aC:upd mh A.m (17,YPb)=m1 at vd K8 aJ ⊢;have aqJ:m1 A.m=some (17,Y9 3 ZL6):=by(exact aV aC (aj Y6J (aa (((λq=>aj YYM (bW Z8c rfl):Y6r Z6=none→YLW=ZL6) q)) rfl)))
   have f2:=aJ.trans (aB.at (p:=YLG) (o':=YBz) vd rfl);have K9:upd m1 A.n (9,YBz) A.n=some (9,Y5 (Yuk bO)):=by(refine aj Y6J YgU);rfl
   have B2:=cg (o':=YBz) vd K8;have La:=cg (o':=YBz) vd aqJ;have Lb:=(YK1 λW z=>v5 (ZB9:m1 A.w=ZaH) z.2).imp ZhI;have Lc:=(Ycv λW z=>v5 (ZB9:m1 A.d=some (33,Y5 W)) z.2).imp ZhI;generalize upd m1 A.n (9,YBz)=aH at K9 B2 La Lb Lc f2 ⊢;revert aH;refine Y18;intro aH K9 B2 La Lb Lc f2;refine YM;obtain⟨W,rT,rU,VP⟩:=Lb;obtain⟨D,iL,B3,VQ⟩:=Lc;refine YSe;intro aBL;refine hO ⟨_,_,B2,_,rfl,⟨_,_,rT⟩,Y1X,Ydc,YWp,comp_map Y4m YlK Ys8 Ydb YIb rfl ZkY YET⟩
   ·subst hm;refine YP4
    (rw[w.2]at cf;refine YGM)
    exact⟨_,_,B2,_,rfl,_,_,rT,ZI1,_,K5 (aa rU Ycy:YiR),aD,ZJk⟩
   ·subst hm;refine KZ 0 λa aD=>⟨_,_,Yc,VO VP λc ao=>aa rU Z31,_,_,cY aD rT,ZI1,?_⟩
    have kx:=cY (t:=0) (o':=Y5 YOc) aD rT;have px:=cg (o':=YC1) kx (cY aD K9);have nd:=cg (o':=YC1) kx (cY aD B2);have jl:=cg (o':=YC1) kx (cY aD La);have pK:=cg (o':=YC1) kx (cY aD iL);have f4:=(f2.trans ZB4).trans (aB.at (p:=YLG) (o':=YC1) kx rfl);have mX:=bw Zc7 A.w YuD;generalize upd Zc7 A.w YuD=eK at px nd jl pK f4 mX ⊢;revert eK;refine Y18;intro eK px nd jl pK f4 mX;refine Yt;intro aBM;refine hO ⟨_,_,nd,_,rfl,⟨_,_,pK⟩,Y1X,Ydc,YWp,comp_map Y4m ZQP (λm=>eK=m) Ydb YIb rfl (λv aO acc m gr oP hm cf=>?_) YET⟩
    ·subst hm;refine YP4
     (rw[w.2]at cf;refine YGM)
     exact⟨_,_,nd,_,rfl,_,_,pK,ZHw,_,K5 (B3▸Ycy:c<D.length),oP,cf eK rfl⟩
    ·subst hm;refine λa2 av=>⟨0,λdB aP=>⟨0,_,_,cY aP Yc,_,_,Yc,by refine aT YF YSG;exact vc qL,λeb da=>⟨0,_,_,Yc,K4 (VO VQ λc ao=>B3▸Z31),ZiU,Ys3⟩⟩⟩
     have rV:=cY (t:=0) (o':=YBy) da (cY (t:=0) (o':=YC2) aP (cY (t:=0) (o':=YBx) av pK));have w7:=cY (t:=0) (o':=YBy) da (cY (t:=0) (o':=YC2) aP (cY (t:=0) (o':=YBx) av px));have zl:=cY (t:=0) (o':=YBy) da (cY (t:=0) (o':=YC2) aP (cY (t:=0) (o':=YBx) av nd));have gZ:=cY (t:=0) (o':=YBy) da (cY (t:=0) (o':=YC2) aP (cY (t:=0) (o':=YBx) av jl));have yM:=cY (t:=0) (o':=YBy) da (cY (t:=0) (o':=YC2) aP (cY (t:=0) (o':=YBx) av mX));have gL:=((f4.trans (aB.new (x:=(0,YBx)) av)).trans (aB.new (x:=(0,YC2)) aP)).trans (aB.new (x:=(0,YBy)) da);generalize upd (upd (upd eK a2 (0,YBx)) dB (0,YC2)) eb (0,YBy)=i0 at rV w7 zl gZ yM gL ⊢;revert i0;refine Y18;intro i0 rV w7 zl gZ yM gL;have nl:YtZ≤1000001:=aj YF (aj cj (vc aE));refine⟨_,_,rV,ZHw,cZ ⟨_,_,ZJo,_,rfl,_,_,ZJn,nl,?_⟩⟩;have e:Z8M=YG4:=by
      exact aa YF (aa cj (congrArg V.int (acr (N.length:Int) 1)))
     show Q Z8M _;refine aj e (h _ (gL.trans (aB.at (p:=YLG) rV rfl)) ⟨ZJo,ZJn,cg rV gZ,⟨_,cg rV yM,by rw[cj,cj,rU];rfl,K4 VP⟩,⟨_,Yc,by rw[cj,cj,B3];rfl,K4 VQ⟩⟩)
  ·obtain⟨rfl,⟨x,rfl⟩,aO⟩:=z;refine(jm (aO v b3)).elim λc w=>d9 w.2 (t1 (en ⟨vY c,_,_,B.1,_,rfl,_,_,B.2,YIR,iP ?_ ⟨rfl,YOP,λu bj=>aO u Yjg⟩⟩));rw[bt,decide_eq_true (x1.mpr Ycy)];rfl
structure nY where
 (u p l m:Nat) (e4:YL)
abbrev lT(n:Nat)(f:YL):Y1:=hR (∀i,i<n→f i≤i) (∀i,i<n→f (f i)=f i)
theorem lT.lt{n:Nat}{f:YL}(h:YVf)(af:i<n):f i<n:=fF (h.1 i af) af
abbrev hP(mh:ag)(A:nY)(n:Nat)(f:YL)(e:Nat):Y1:=yc (mh A.u=some (2,ZD 487 [Y0 A.p,Y0 A.l,Y0 A.m])) (∃P:YV,mh A.p=some (10,Y5 YKe)∧Z6c) (mh A.l=some (18,Y5 YwR)) (∃M,mh A.m=some (26,Y5 M)∧M.length≤e) (∀i,i<n→YLg→∃L:YV,mh YFE=Yp3∧Ydh) YVf
theorem VR(i:Nat):cl 2 YFC=true:=by
 show YFC % 8==2;refine YgK;rfl
theorem hP.dq{p:Z9}{A:nY}{n:Nat}{f:YL}(B:YAr)(F:Yfo)(ar:∀t,Yiq→YMj):ZQd:=
 ⟨F _ _ B.1 (ar 2 rfl),B.2.imp λW z=>⟨F _ _ z.1 (ar 10 rfl),z.2⟩,F _ _ B.3 (ar 18 rfl),YK1 λO z=>⟨F _ _ z.1 (ar 26 rfl),z.2⟩,λi af hf=>YuP λO z=>⟨F _ _ z.1 (ar _ (VR i)),z.2⟩,B.6⟩
theorem hP.no{A:nY}{n:Nat}{f:YL}(B:YAr)(F:Y8q):ZQd:=Z2z
theorem B4{L:YV}{n:Nat}(h:L.Nodup)(aE:∀j,YVO→j<n):L.length≤n:=by
 have p:L.Perm (YwP λj=>decide YVO):=(Dr h Yqc).mpr λj=>by
  exact aL ZXG (dS (propext G5) (bW ZXJ (⟨λq=>⟨aE j q,q⟩,λq=>q.2⟩)))
 exact aj p.length_eq YKv
theorem FU(L:YV):m5 Y8o:=⟨λa aD O ah=>Yaf λn z=>(jm ah).elim λO w=>aa z.2 (w.2▸rfl),λO aD=>Yaf λO z=>z.2▸rfl⟩
theorem Ld{L:YV}(h:L.length<64):y0 Y8o:=⟨by refine Y2I;exact h,FU L,λO aD=>Yaf λO z=>z.2▸⟨rfl,λe=>V.noConfusion e⟩⟩
theorem VS{l:Y3}{L:YV}(p:l.Perm Y8o):∃fA,l=a4 fA∧fA.Perm L:=by
 have aE:∀v∈l,∃n:Nat,v=Y3D:=λv aO=>(jm ZWl).imp λn z=>z.2;have:∃fA,l=a4 fA:=by
  clear p
  induction l with
  |nil=>exact YZG
  |cons v l ai=>exact(ai λu bj=>aE u Yjg).elim λfA e=>(aE v b3).elim λn fq=>⟨n::fA,by refine aX e (aT fq ?_);rfl⟩
 refine this.imp λfA e=>⟨e,?_⟩
 replace p:=aQ e p;have q:=p.map Zkc;replace q:=aQ kJ (bL kJ q);have aC:∀l:YV,l.map (Zkc ∘ ay)=l:=λl=>List.map_id' _;replace q:=aQ ZB8 (bL ZB8 q);exact q
theorem Le{n:Nat}{F:YeG}(h:i<n):(Yuj F)[i]?=some (F i):=by rw[gy,YMt];rfl
theorem B5{n m:Nat}{F:YKG}(h:Y2X)(hm:YJv:=by decide):(Y8K F).length≤m:=aj YF (aj fN ZVe)
theorem tx{P:YV}{n m:Nat}(dk:YeQ)(h:Y2X)(hm:YJv:=by decide):Y9k≤m:=aj YF (aj dk ZVe)
theorem aqK{P:YV}{n:Nat}(dk:YeQ):(V.int ((Y9k:Nat):Int))=Y3D:=dU YF (dU dk rfl)
theorem VT{A:nY}{n:Nat}{f:YL}(K:YN)(F:YZ)(B:YAr)(az:Y2X)(h:Q Y3D mh):aU g (k+1) 437 [YA2] mh Q:=
 YCG λP dk=>gJ ZT K rfl Y2 (cZ ⟨_,_,B.1,_,rfl,_,_,Y4K,YNS,(aqK Y2T).symm▸h⟩)
theorem nZ(a b:Nat):YhL=YKg:=by
 by_cases q:a=b
 ·rw[q,iI,beq_self_eq_true]
 ·exact aj (ic λh=>q (nW h)) ((beq_false_of_ne q).symm)
theorem Lf{P:YV}{p:Nat}(h:YeT):YKe[i]?=some (ay p):=by rw[aqA,h];rfl
theorem B6{A:nY}{n:Nat}{f:YL}(K:YN)(F:YZ)(B:YAr)(az:Y2X)(aD:a<n)(h:YeY):aU g (k+1) 444 Z9Y mh Q:=
 YCG λP dk=>fS ZT K rfl Y2 (by intro gb gc gd;exact KY ⟨λc r m=>c<n∧f c=f a∧r=[some YA2,Y58]∧YHO,a,⟨aD,rfl,rfl,rfl⟩,λc r m z=>by
  obtain⟨ao,hf,rfl,rfl⟩:=z;have n0:ZJ2:=aa Y2T ao;have ar:=dy n0;have w:=ZLa;refine Zmv;by_cases q:P[c]=c
  ·refine iP (by rw[nZ,q,beq_self_eq_true];rfl) Yij;show Q Y3Z mh;exact bN (ZdW q) (aX hf h)
  ·exact lS (by rw[nZ,YCr];rfl) (el ⟨_,_,B.1,_,rfl,_,_,Y4K,YNS,_,Lf ar,P[c],rb w.1 q,fF w.1 ao,w.2.1.trans hf,rfl,rfl⟩)⟩)
def roots(n:Nat)(f:YL):YV:=YwP ZjF
theorem VU{n:Nat}{f:YL}:(roots n f).length≤n:=YKv
theorem pL{n:Nat}{f:YL}:i∈YDw↔And (i<n) YLg:=by unfold roots;rw[Dh,G5,beq_iff_eq]
theorem Lg(n:Nat):YDl=a4 Y6L:=rfl
theorem VV(p:Z9)(l:YV):((a4 l).flatMap λv=>cond (p Y32) [v] [])=a4 (l.filter p):=by
 induction l with
 |nil=>rfl
 |cons a l ai=>
  refine aX (rfl:ZAS=ZFX) (aj uf (aX ai (bW Hv ?_)));show cond (p a) [Y1F] []++_=_
  cases p a <;> rfl
theorem aqL{A:nY}{n:Nat}{f:YL}(K:YN)(F:YZ)(B:YAr)(az:Y2X)(h:ZlX):aU g (k+1) 463 [YA2] mh Q:=
 YCG λP dk=>by
 have kd:Y9k=n:=ZEE;refine Y02;intro gb gc gd;refine cZ ⟨_,_,B.1,_,rfl,_,_,Y4K,YNS,YNS,zh (nL Y9k) (λv=>cond (f Y32==Y32) [v] []) [] ZjY ?_ YIb rfl (λv aO acc m N oP hm cf=>?_) YET⟩
 ·(refine aX YK9 (aa kd (dU Z5K (aX Z8d Y2I))));exact au VU (nX az)
 ·subst hm;refine(jm (Lg n▸kd▸aO)).elim Zi6;have ao:ZJ2:=aa Y2T YVL;have ar:=dy ao;have w2:=ZLa
  (rw[w.2]at cf;refine YGM)
  refine Zmv;have cf:N (acc++cond (f c==c) [Y3Z] []) mh:=cf mh rfl;by_cases q:P[c]=c
  ·(rw[Y5m.2.mp q]at cf;replace cf:=DH Y3G cf)
   exact lS (aj YnS (aT q (Y3G))) ⟨au Yk oP,cf⟩
  ·replace cf:=DH (beq_false_of_ne λh=>q (Y5m.2.mpr h)) cf;exact iP (aj YnS (YCr)) (aV (eL acc) cf)
 ·subst hm
  (refine aX YK9 (aa kd (dU Z5K (aX Z8d ?_))))
  exact KZ 0 λb ah=>ZPk
theorem zm{b:Nat}(h:YCl):Nat.beq a b=false:=by
 cases q:ZW6 with
 |false=>rfl
 |true=>exact absurd (Nat.eq_of_beq_eq_true q) h
theorem ve{c:Nat}(h:c<34):Nat.beq YFC c=false:=Zff
def g0(f:YL)(x y:Nat):YL:=λi=>if YLh then x else f i
theorem kW{f:YL}{x:Nat}(h:YLh):YUi=x:=Ym1
theorem kz{f:YL}{x:Nat}(h:f i≠y):YUi=f i:=Ylu
theorem Lh{n:Nat}{f:YL}{x:Nat}(F:YVf)(aq:f x=x)(h:x<y):lT n (g0 f x y):=
 ⟨λi af=>by
  by_cases q:YLh
  ·exact aj YDZ (h9 (ew h (aV q Z43)))
  ·refine aj YAx ?_;exact Z43,
  λi af=>by
  by_cases q:YLh
  ·rw[YDZ,ZTY,aq]
  ·rw[YAx,kz (by rw[Z44];exact q),Z44]⟩
def i6(f:YL)(n:Nat):YL:=λi=>if i=n then n else f i
theorem tA(f:YL)(n:Nat):i6 f n n=n:=Y0c
theorem iC{f:YL}{n:Nat}(h:i<n):i6 f n i=f i:=Ylo
theorem rW{n:Nat}(h:i<n+1):i<n∨i=n:=Nat.lt_or_eq_of_le (hp h)
theorem Li{n:Nat}{f:YL}(F:YVf):lT (n+1) Yle:=
 ⟨λi af=>Yye (λh=>iC h▸F.1 i h) λh=>by rw[h,tA];exact YW,
  λi af=>Yye (λh=>by rw[iC h,iC (F.lt h),F.2 i h]) λh=>by rw[h,tA,tA]⟩
def vf(A:nY)(n a:Nat):nY:={A with e4:=λi=>if i=n then a else YFE}
theorem aqM{A:nY}{n:Nat}{f:YL}(K:YN)(F:YZ)(B:YAr)(az:Ynf)(aD:a<n)(h:ZlV):aU g (k+2) 458 Z9Y mh Q:=
 (B.5 (f a) Ycw Z2y).elim λL eW=>fS ZT K rfl Y2 (by intro gb gc gd;exact cZ ⟨_,_,B.1,_,rfl,Y8D,B6 K F B Y07 aD
  ⟨_,_,B.3,B5 Y07,_,Le Ycw,_,_,eW.1,Ld (x3 (au (B4 eW.2.1 λj aM=>((eW.2.2 j).mp aM).1) az)),λl p r=>(VS p).elim λfA z=>by
   exact aX z.1 (KZ 0 λb ah=>h b _ fA Yc (z.2.nodup_iff.mpr eW.2.1) (λj=>z.2.mem_iff.trans (eW.2.2 j)) Y11)⟩⟩)
theorem aqN{P:YV}{x p:Nat}(h:(P++[x])[i]?=YXP):YeT∨(ZRD∧p=x):=by
 by_cases q:i<P.length
 ·replace h:=ZBq;exact Y61
 ·have aE:=Yxe;replace aE:=bL cj aE;have e:ZRD:=mG (hp aE) Y9F;replace h:=ZBr;exact Z0f
theorem aqO{A:nY}{n:Nat}{f:YL}(K:YN)(F:YZ)(B:YAr)(az:n≤999)(h:∀aW a,ZAx→hP aW (vf A n a) (n+1) Yle e→Q Y3D aW):aU g (k+1) 430 [YA2] mh Q:=
 YCG λP dk=>by
 have ks:Y2X:=Y07;have kd:Y9k=n:=by exact ZEE
 have bD:=cg (o':=Y9y) Y4K B.1;have l1:=cg (o':=Y9y) Y4K B.3;refine Y02;intro gb gc gd;refine hO ⟨_,_,B.1,_,rfl,⟨_,_,Y4K⟩,_,_,B.1,_,rfl,_,_,Y4K,Ypf,_,_,Y4K,Ypf,hO ⟨_,_,bD,_,rfl,⟨_,_,l1⟩,_,_,bD,_,rfl,_,_,l1,YQa,λa aD=>⟨Ycm,_,_,cY aD l1,YQa,?_⟩⟩⟩;have bx:upd mh A.p YIt a=none:=aD;have ek:=bw mh A.p YIt;have m1:=YK1 λM z=>v5 (cg (o':=Y9y) Y4K z.1) z.2;have VW:∀i,i<n→YLg→∃L:YV,upd mh A.p YIt YFE=Yp3∧Ydh:=λi af hf=>YuP λL z=>⟨cg Y4K z.1 YBS,z.2⟩
 have f1:aB YLH mh ZcR:=aB.at Y4K rfl;generalize ZcR=aH at bD l1 ek m1 VW f1 bx ⊢;have l2:=cY (t:=Ycm) (o':=Y5 [V.int ((Ytf:Nat):Int)]) bx l1;have aC:Ytf=n:=by exact YSV
 rw[aC]at l2;refine ZCu;have du:=cg (o':=Y5 (YwR++[YKR])) l2 (cY (t:=Ycm) (o':=Z0l) bx ek);refine cZ ⟨_,_,ZJm,_,rfl,_,_,du,by refine aj cj (aT kd ?_);exact vc ks,?_⟩;have c1:Z8N=Y3D:=by
  refine aa cj (aa kd ?_);exact congrArg V.int (acr Y0q 1)
 show Q Z8N _;refine aj c1 ?_;refine h _ a ((f1.trans (aB.new bx)).trans (aB.at l2 rfl)) ⟨ZJm,⟨Z6b,?_,by rw[cj,Y2T];rfl,Zj3⟩,?_,m1.imp λM z=>⟨cg l2 ZJK,z.2⟩,YER,Li B.6⟩
 ·refine du.trans ?_;exact aa kd (aa (show a4 Z6b=YKe++[Y3D]from dK) rfl)
 ·rcases aqN ar with ar | ar
  ·have af:i<n:=aV Y2T ((jJ ar).elim Y6j);have w:=YjR i p ar;rw[YV9,iC (fF w.1 af)];exact w
  ·rw[Y8u,Y7V,Y2T,tA];exact⟨YW,rfl,Zf,Zf⟩
 ·refine Yvw ?_;refine aa List.range_succ YgU;refine congrArg (λl=>some (18,ct.list l)) (congr (congrArg _ ZbF) ?_)
  ·exact congrArg V.ref (if_neg (ej YMB)).symm
  ·exact congrArg (λx=>[V.ref x]) Yac
 ·rcases YMy with h | h
  ·have aE:YzP i=YFE:=Ylo;rw[iC h]at hf;refine YgS;refine(VW i h hf).imp λL z=>⟨cg l2 ZJK YBS,Z4,λj=>Yzc ⟨λw=>⟨p9 w.1,(iC w.1).trans w.2⟩,λw=>Yyf (λq=>⟨q,cA ZRG w.2⟩) YBa⟩⟩
   rw[q,tA]at w;exact absurd w.2 (p8 h)
  ·have aE:YzP n=a:=Y0c;refine aa h YgS;refine⟨[n],?_,Y7v,λj=>z8.trans ⟨λq=>by rw[q];exact⟨YDo,tA f n⟩,λw=>Yyf YBa id⟩⟩
   ·exact cg (o2:=Z0l) l2 Yc YBS
   ·replace w:=um ZRG w;exact absurd (B.6.1 j q) (by refine dS w.2 ?_;exact OL q)
theorem VX{x:Nat}{l:Y3}(p:l.Perm Z9n)(r:j9 l):ZTo:=by
 have key:∀a b:Nat,l=[Y1F,Y3C]→(a=x∧b=y)∨(a=y∧b=x)→ZTo:=λa b e h=>by
  replace r:=bL e r;have hle:a≤b:=hq λq=>h8 (cA ((OK r).1 _ b3:ZME) (decide_eq_true (x1.mpr q)));refine aj e ?_;rcases h with h | h
  ·(exact aV h.1 (aV h.2 (mL (Hg hle) (aa (Om hle) rfl))))
  ·(exact aV h.1 (aV h.2 (mL (acu hle) (aa (N3 hle) rfl))))
 obtain⟨L,e,vg⟩:=VS (L:=Y2F) p;have aE:=vg.length_eq
 cases L with
 |nil=>exact absurd aE (λq=>k5 _ q.symm)
 |cons a L=>cases L with
  |nil=>exact absurd aE (λq=>k5 _ (oc q).symm)
  |cons b L=>cases L with
   |cons _ _=>exact absurd aE (λq=>k5 _ (oc (oc q)))
   |nil=>
    refine key a b e ?_;by_cases q:a=x
    ·replace vg:=eT q vg;exact YY ⟨q,OM ((List.perm_cons x).mp vg).eq_singleton⟩
    ·have aD:a=y:=(dz (vg.mem_iff.mp b3)).elim (λh=>absurd h q) bR;replace vg:=eT aD vg;exact YJ ⟨aD,OM ((List.perm_cons y).mp (vg.trans Z2K)).eq_singleton⟩
theorem vh{c:Nat}(h:c<34):Nat.beq c YFC=false:=Zff
theorem aqP(h:YVI):Nat.beq YFC (34+8*j)=false:=Zfh
theorem qM(x y:Nat):(YVt=x∧YVo=y)∨(YVt=y∧YVo=x):=Yun (λh=>YY ⟨Hg h,Om h⟩) λh=>YJ ⟨acu h,N3 h⟩
theorem Lj{x:Nat}(h:x≠y):YVt<YVo:=Yun (λz=>aj (Hg z) (aL (Om z) (rb z h))) λz=>aj (acu z) (aL (N3 z) (rb z h.symm))
theorem aqQ{n:Nat}{f:YL}{P:YV}{x:Nat}(dk:Z6c)(aq:f x=x)(bb:f y=y)(h:x<y)(aqR:y<n):
  (P.set y x).length=n∧∀i p,YeS[i]?=YXP→p≤i∧g0 f x y p=YUi∧(p=i↔YUi=i):=by
 refine⟨by exact aj List.length_set Y4K,Zj3⟩;by_cases q:y=i
 ·replace ar:=aQ (List.getElem?_set_self (aV dk.1.symm aqR)) (aX q ar);rw[←q,←(cu ar:x=p),kW bb,ZTY,aq];exact⟨YUx,rfl,Hs⟩
 ·rw[NY q]at ar;have w:=dk.2 i p ar;refine⟨w.1,by unfold g0;rw[Y3j],?_⟩;by_cases z:YLh
  ·rw[YMF];exact⟨λe=>absurd (cA z (ZdW e)) q,λe=>by
    rw[e]at aq;exact absurd (e.trans (cA aq z)) YU9⟩
  ·rw[kz z];exact Y3O
theorem aqS{A:nY}{n:Nat}{f:YL}(K:YN)(F:YZ)(B:YAr)(az:Ynf)(he:e≤999999){b:Nat}(aD:a<n)(ah:b<n)(h0:YD9→∀aW,Y8q→YFV)(ak:f a≠f b→∀aW,ZAx→hP aW A n (g0 f YDj YDg) (e+1)→Q (YD Z9m) aW):aU g (k+2) 451 [YA2,Y1F,Y3C] mh Q:=
 YCG λP dk=>by
 have ks:Y2X:=Y07;refine fS ZT K rfl Y0J ?_;intro gb gc gd;refine KX ⟨Y8D,B6 K F B ks aD ⟨Y8D,B6 K F B ks ah (λt1 aqT=>⟨0,_,_,Yc,Ld (L:=[f a,f b]) ZZc,λl p r cy EV=>YOO⟩)⟩⟩;rw[VX p r];have f1:aB no mh Ypr:=(aB.new aqT).trans (aB.new EV);show a6 _ UZ _ Ypr _ _;generalize Ypr=m1 at f1 ⊢;revert m1;refine Y18;intro m1 f1;by_cases q:YD9
 ·refine en ⟨rfl,lS ?_ (cZ (h0 q m1 f1))⟩;rw[nZ,q,abX,Nat.max_self,beq_self_eq_true]
 ·have fQ:=Lj q;have hs:∀z,(z=f a∨z=f b)→f z=z∧z<n:=λz hz=>hz.elim (λe=>e▸⟨Z2y,Ycw⟩) λe=>e▸⟨B.6.2 b ah,B.6.lt ah⟩
  have aq:=hs YDj YZa;have bb:=hs YDg YOS;have ak:=ak q;generalize YDj=x at fQ aq ak ⊢;generalize YDg=y at fQ bb ak ⊢;have a3:=B.no f1;have lU:=f1 _ _ Y4K rfl;refine YM;obtain⟨L,eW,VY,w8⟩:=a3.5 x Y6F Y4H;obtain⟨fA,aqU,VZ,Lk⟩:=a3.5 y Y7c Y7b;obtain⟨M,tB,V0⟩:=a3.4;refine YSe;intro aBN;refine en ⟨rfl,iP (by exact aj YnS ((beq_false_of_ne YU8))) (f9 (aqx ⟨_,_,a3.1,_,rfl,_,_,lU,Ypf,by refine aL YF (aL Y2T ?_);exact Y7c,?_⟩))⟩;have f2:aB YLH mh ZcK:=f1.iO.trans (aB.at lU rfl);have bC:=cg (o':=Y8T) lU a3.1;have l2:=cg (o':=Y8T) lU a3.3;have cT:=cg (o':=Y8T) lU eW YBS;have d1:=cg (o':=Y8T) lU aqU YBS;have M2:=cg (o':=Y8T) lU tB;have cO:upd m1 A.p YZk A.p=some (10,Y5 (a4 YeS)):=by exact aj Y6J (aV List.map_set rfl)
  have V1:∀i,i<n→YLg→∃L:YV,upd m1 A.p YZk YFE=Yp3∧Ydh:=λi af hf=>(a3.5 i af hf).imp λL z=>⟨cg lU z.1 YBS,z.2⟩
  generalize ZcK=aH at f2 bC l2 cT d1 M2 cO V1 ⊢;refine Yt;intro aBO;refine hO ⟨_,_,bC,_,rfl,_,_,l2,YQa,_,Le Y6F,⟨_,_,cT⟩,_,_,bC,_,rfl,_,_,l2,YQa,_,Le Y7c,_,_,cT,_,_,d1,?_,hO ⟨_,_,ZJl,_,rfl,⟨_,_,Yin⟩,rfl,_,_,Yin,au V0 YKw,cZ ⟨rfl,ak _ ((f2.trans (aB.at cT (VR x))).trans (aB.at Yin rfl)) ?_⟩⟩⟩
  ·refine ZCW;exact au (gR (au (B4 VY λj aM=>((w8 j).mp aM).1) az) (au (B4 VZ λj aM=>((Lk j).mp aM).1) az)) Y2
  ·have nf:=cg (o':=Y5 (Y8o++a4 fA)) cT M2 YBT;refine⟨cg nf ZJl,⟨YeS,cg nf (cg cT cO YBT),(aqQ ⟨Y2T,YjR⟩ Y4H Y7b fQ Y7c)⟩,cg nf (cg cT l2 YBT),⟨_,Yc,by refine YKs;exact dX V0⟩,YER,Lh B.6 Y4H fQ⟩;by_cases n1:i=x
   ·refine aa n1 ?_;refine⟨L++fA,cg nf ?_ YBS,Dz ⟨VY,VZ,λu bj w hw aC=>?_⟩,λj=>?_⟩
    ·exact aj Y6J (aV dK rfl)
    ·have f3:=((w8 u).mp bj).2;replace f3:=aQ ((((Lk w).mp hw).2)) (bN aC f3);exact p8 fQ f3
    ·refine aj YMl (aT (propext (w8 ..)) (aX (propext (Lk ..)) ?_));by_cases z:f j=y
     ·rw[YMF];exact⟨λw=>⟨w.elim Yh Yh,rfl⟩,λw=>YJ ⟨w.1,z⟩⟩
     ·rw[kz z];exact⟨λw=>w.elim id λw=>absurd w.2 z,λw=>YY w⟩
   ·have zo:f i≠y:=λz=>by rw[YMF]at hf;exact n1 hf.symm
    rw[kz zo]at hf;have aqV:i≠y:=λz=>zo (hf.trans z);refine(V1 i af hf).imp λlr z=>⟨cg nf (cg cT z.1 (aqP n1)) YBS,Z4,λj=>Yzc ?_⟩
    by_cases w:f j=y
    ·rw[kW w];exact⟨λv=>absurd (cA w v.2) aqV.symm,λv=>absurd v.2.symm n1⟩
    ·rw[kz w]
structure b9 where
 (h iW dN ed ae n2:Nat) (B:tw) (U:nY) (ul:YL)
structure bu where
 (N:Yd) (f:YL) (ed:Y2R) (use:Nat→YV) (wait:YV) (e:Nat)
noncomputable abbrev ea (t:Nat):Bool:=YCu||(YTe||Yir)
abbrev d3(mh:ag)(A:b9)(S:bu):Y1:=yd YnB ZT9 (hP mh A.U S.N.length S.f S.e) (∃E,ZUn∧YdB) (∃E,mh A.dN=some (19,Y5 E)∧YdB) ZUm (∃X:dm,ZUl∧Yf8∧Ysq) Zlr (mh A.n2=some (43,Y5 Yfa))
theorem w9(i:Nat):cl 3 Y79=true:=by
 show Y79 % 8==3;refine YgK;rfl
theorem d3.dq{p:Z9}{A:b9}{S:bu}(B:Y22)(F:Yfo)(ar:Zm9):Yj7:=
 ⟨F _ _ B.1 (ar 3 rfl),
  B.2.dq F λt h=>ar t ZHr,
  B.3.dq F λt h=>ar t ZPC,
  YK1 λW z=>⟨F _ _ z.1 (ar 11 rfl),z.2⟩,
  Ycv λW z=>⟨F _ _ z.1 (ar 19 rfl),z.2⟩,
  F _ _ B.6 (ar 27 rfl),
  Ycx λW z=>⟨F _ _ z.1 (ar 35 rfl),z.2⟩,
  λi af hf=>F _ _ (B.8 i af hf) (ar _ (by unfold ea;exact dU (w9 ..) ZCc)),
  F _ _ B.9 (ar 43 rfl)⟩
theorem d3.no{A:b9}{S:bu}(B:Y22)(F:Y8q):Yj7:=Z2z
def canon(f:YL)(x:a8):a8:=(x.1,Y5B f)
abbrev xa(mh:ag)(A:b9):Y1:=YnB
theorem Ll{A:b9}(K:YN)(F:YZ)(h0:YII)(B:ZT8)(aE:Y8d)(h:Z6y):aU g (k+2) 512 YKY mh Q:=
 gJ ZT K rfl Y2 (cZ ⟨_,_,h0,_,rfl,Y8D,aqB K F B aE h⟩)
theorem zp{A:b9}{n:Nat}{f:YL}(K:YN)(F:YZ)(h0:YII)(B:YLv)(az:Y2X)(aD:a<n)(h:YeY):ZCC:=
 gJ ZT K rfl Y2 (cZ ⟨_,_,h0,_,rfl,Y8D,Z33⟩)
theorem aqW{A:b9}{n:Nat}{f:YL}(K:YN)(F:YZ)(h0:YII)(B:YLv)(az:Y2X)(h:ZlX):aU g (k+2) 583 YKY mh Q:=
 gJ ZT K rfl Y2 (cZ ⟨_,_,h0,_,rfl,Y8D,aqL K F B az h⟩)
theorem aqX{A:b9}{n:Nat}{f:YL}(K:YN)(F:YZ)(h0:YII)(B:YLv)(az:Ynf)(aD:a<n)(h:ZlV):aU g (k+3) 590 YfD mh Q:=
 gJ ZT K rfl Y2 (cZ ⟨_,_,h0,_,rfl,Y8D,aqM K F B az aD h⟩)
theorem Lm(l:YV)(F:YL):(a4 l).map (λv=>ay (F Y32))=a4 (l.map F):=(kJ (f:=ay)).trans (kJ (f:=F) (g:=ay)).symm
theorem V2{A:b9}{n:Nat}{f:YL}(K:YN)(F:YZ)(h0:YII)(B:ZT8)(U:YLv)(cf:Y8d)(az:Y2X){x:a8}(aq:Y4i)(aR:∀c∈x.2,c<n)(aE:YIH)(h:∀aW,Y8q→Q Yhc aW):aU g (k+3) 517 Z9X mh Q:=by
 have FV:YqZ:=Y7W;have sT:Yv9≤1000:=aj YF (aj YF FV);refine Y02;intro gb gc gd;refine cZ ⟨_,_,h0,_,rfl,Y8D,aqC K F B cf aq FV ⟨rfl,_,_,h0,_,rfl,Y8D,aqD K F B cf aq FV (comp_map YCY (λv=>ay (f Y32)) ZjY (aj YF (nX FV)) YIb rfl ZkZ YET)⟩⟩
 ·subst hm;refine YP4
  (rw[w.2]at pM;refine YGM)
  exact⟨⟨_,_,h0,trivial⟩,zp K F h0 U az YgG ⟨aD,pM mh rfl⟩⟩
 ·subst hm;exact λa aD=>⟨0,aa Z5Y (⟨_,_,Yc,nX sT,qJ _,by refine Ygz;exact vc sT,rfl,h _ ZB4⟩)⟩
theorem Ln(e:Y6A)(es:dm)(k v:V):YjY:=rfl
theorem V3(e:Y6A)(es:dm)(k:V):ZY9:=rfl
theorem pN(e:Y6A)(es:dm)(k:V):YiL:=rfl
theorem V4(es:dm)(k v:V):c8 YU3 k=Ym:=by
 induction es with
 |nil=>exact Y9s (by refine ZL1;rfl)
 |cons e es ai=>
  refine ZC4
  cases q:Y1z with
  |true=>exact Y9s (by refine YAe;rfl)
  |false=>exact Y9s (dT q ai)
theorem V5(es:dm){k q:V}(v:V)(h:k≠q):c8 YU3 q=c8 es q:=by
 induction es with
 |nil=>exact Y9s (by refine dT Ylj ?_;rfl)
 |cons e es ai=>
  refine ZC4
  cases z:Y1z with
  |true=>exact Y9s (by rw[pN,oo z,Ylj];rfl)
  |false=>exact YyI
theorem V6(es:dm)(k v:V):(eE es k v).length≤es.length+1:=by
 induction es with
 |nil=>exact YW
 |cons e es ai=>
  refine aX Ydz ?_
  cases Y1z with
  |true=>exact Y1I
  |false=>exact YjK
theorem aqY(es:dm){k q:V}(h:k≠q):c8 YoR q=c8 es q:=by
 induction es with
 |nil=>rfl
 |cons e es ai=>
  refine aT Z8Y ?_
  cases z:Y1z with
  |true=>refine aL ZWv (OQ (oo z) (Ar Ylj ?_));rfl
  |false=>exact YyI
theorem V7(es:dm)(k:V):(qi es k).length≤es.length:=by
 induction es with
 |nil=>exact YW
 |cons e es ai=>
  refine aX Z8Y ?_
  cases Y1z with
  |true=>exact Y1I
  |false=>exact YjK
def gM(S:bu)(x y:Nat):bu:={S with f:=ZOv,wait:=Z7p,use:=λj=>if j=x then Yeo else YFd,e:=YAE}
def tC(A:b9)(n a:Nat):b9:={A with ul:=λi=>if i=n then a else YJz}
theorem vi{c:Nat}(h:c<51):Nat.beq Y79 c=false:=Zfg
theorem xb{c:Nat}(h:c<51):Nat.beq c Y79=false:=Zfg
theorem aqZ(h:YVI):Nat.beq Y79 (51+8*j)=false:=Zfh
theorem kV.ng{B:tw}{o:ct}(b:kV mh B N)(h:YnC)(bq:YLI):kV ZcZ B N:=b.dq ZB2 λt h=>by
 show Yz8;refine YSH;rfl
theorem hP.ng{U:nY}{n:Nat}{f:YL}{o:ct}(b:ZQe)(h:YnC)(bq:YLI):hP ZcZ U n f e:=b.dq ZB2 λt h=>by
 show Yz8;refine YSH;rfl
theorem hP.more{U:nY}{n:Nat}{f:YL}(b:ZQe):hP mh U n f (e+1):=⟨b.1,b.2,b.3,b.4.imp λO z=>⟨z.1,kn z.2⟩,b.5,b.6⟩
theorem aq0{cl:Calls}{a b s:Mine.Internal.S}{l:Y3}(bo:Y1H=some Yce)(h:a6 cl b r m YIg Qr):ZAY:=by
 show YoS;exact ZEU
theorem aq1{cl:Calls}{a b s:Mine.Internal.S}(bo:Y1H=Zah)(h:ZAb):ZAY:=by
 show YoS;exact ZEU
theorem aB.go{p:Z9}{b:Nat}{o:ct}(f:YFo)(e:m b=Y59)(h:YMj:=by decide):Y1y=Y59:=f _ _ e h
theorem aq2:∀t,YLI→YAk:=λt h=>dU h ZCc
theorem V8:∀t,Yiq→YAk:=λt h=>ZPC
theorem V9:∀t,Yip→YAk:=λt h=>aT h (ZDl)
abbrev jn(mh:ag)(A:b9)(S:bu)(f:YL)(e:Nat)(E hj:Y3)(X:dm)(W:Y3):Y1:=yd YnB ZT9 (hP mh A.U S.N.length f e) ZUn (mh A.dN=some (19,Y5 hj)) ZUm ZUl Zlr (mh A.n2=some (43,Y5 W))
theorem d3.open{A:b9}{S:bu}{P:Y1}(H:Y22)(h:∀E hj X,YdB→hj.length≤S.e→Yf8→Ysq→jn mh A S S.f S.e E hj X Yfa→P):P:=
 H.4.elim λE z=>H.5.elim λhj w=>H.7.elim λX y=>h E hj X z.2 w.2 y.2.1 YNp ⟨H.1,H.2,H.3,z.1,w.1,H.6,y.1,H.8,H.9⟩
variable{hj:Y3}{E':Y3}
theorem jn.aq3{A:b9}{S:bu}{f:YL}{E W:Y3}{X:dm}(G:YDV):jn (upd mh A.iW (11,Ybe)) A S f e E' hj X W:=
 ⟨cg G.4 G.1,YQs G.4 rfl,YQt G.4 rfl,Yc,cg G.4 G.5,cg G.4 G.6,cg G.4 G.7,λi af hf=>cg G.4 YCI YBU,cg G.4 G.9⟩
theorem jn.aq4{A:b9}{S:bu}{f:YL}{E W:Y3}{X:dm}(G:YDV):jn (upd mh A.dN (19,Ybe)) A S f e E E' X W:=
 ⟨cg G.5 G.1,YQs G.5 rfl,YQt G.5 rfl,cg G.5 G.4,Yc,cg G.5 G.6,cg G.5 G.7,λi af hf=>cg G.5 YCI YBU,cg G.5 G.9⟩
theorem jn.Wa{A:b9}{S:bu}{f:YL}{E W:Y3}{X:dm}{E':dm}(G:YDV):jn (upd mh A.ae (35,Y9 2 E')) A S f e E hj E' W:=
 ⟨cg G.7 G.1,YQs G.7 rfl,YQt G.7 rfl,cg G.7 G.4,cg G.7 G.5,cg G.7 G.6,Yc,λi af hf=>cg G.7 YCI YBU,cg G.7 G.9⟩
theorem jn.Wb{A:b9}{S:bu}{f:YL}{E W:Y3}{X:dm}(G:YDV):jn (upd mh A.n2 (43,Ybe)) A S f e E hj X E':=
 ⟨cg G.9 G.1,YQs G.9 rfl,YQt G.9 rfl,cg G.9 G.4,cg G.9 G.5,cg G.9 G.6,cg G.9 G.7,λi af hf=>cg G.9 YCI YBU,Yc⟩
theorem jn.new{A:b9}{S:bu}{f:YL}{E W:Y3}{X:dm}{b:Nat}{x:Y1E}(G:YDV)(ah:YB2):jn (upd mh b x) A S f e E hj X W:=
 ⟨cY ah G.1,G.2.no Y11,G.3.no Y11,cY ah G.4,cY ah G.5,cY ah G.6,cY ah G.7,λi af hf=>cY ah YCI,cY ah G.9⟩
theorem jn.dq{A:b9}{S:bu}{f:YL}{E W:Y3}{X:dm}(G:YDV)(F:Y7N):jn m A S f e E hj X W:=
 ⟨F _ _ G.1 rfl,G.2.no F,G.3.no F,F _ _ G.4 rfl,F _ _ G.5 rfl,F _ _ G.6 rfl,F _ _ G.7 rfl,λi af hf=>F _ _ YCI rfl,F _ _ G.9 rfl⟩
variable{bk:Nat}{dZ:YL}
theorem jn.aq5{A:b9}{S:bu}{f:YL}{E W:Y3}{X:dm}(G:YDV)(F:aB YLH mh m)(U:hP m A.U S.N.length dZ bk):jn m A S dZ bk E hj X W:=
 ⟨F.go G.1,G.2.dq F YsK,U,F.go G.4,F.go G.5,F.go G.6,F.go G.7,λi af hf=>F _ _ YCI (by show(Y79 % 8==2)=false;refine YgK;rfl),F.go G.9⟩
theorem jn.close{A:b9}{S:bu}{E:Y3}{X:dm}{x na:Nat}(G:jn m A S ZOv YAE E hj (eE ZYA YCj (Y0 na)) YKc)(xc:E.length≤YAE)(Lo:hj.length≤YAE)(rX:Yf8)(qN:Ysq)(az:m na=some (51+8*x,Y5 ZAR))(aq:S.f x=x)(fQ:x<y):d3 m ZbV (gM S x y):=by
 have iA:∀{i:Nat},g0 S.f x y i=i→Za≠y∧YFb:=λ{i}hf=>by
  have q:Za≠y:=λz=>by
   replace hf:=ZBp;replace z:=aQ aq (aX hf z);exact ej fQ z
  exact⟨q,cA YAx hf⟩
 refine⟨G.1,G.2,G.3,Zmo,ZnS,G.6,⟨_,G.7,?_,YER⟩,YER,G.9⟩
 ·exact au Z8Z (dX (au Z8a rX))
 ·have z:=iA hf;by_cases n1:i=x
  ·rw[n1];exact Yv6 (congrArg ZlI Yac)
  ·exact aj (V5 _ _ λz=>n1 (nW z).symm) (aj (aqY _ λw=>z.1 (Y0m (nW w).symm)) (aj (qN i af z.2) (congrArg ZlI (if_neg n1).symm)))
 ·by_cases n1:i=x
  ·have aJ:YzD=na:=ZRh;have aC:YxF=Yeo:=ZRh
   (refine aX aJ (aa aC (aa n1 (aa (show a4 Yeo=ZAR from dK) ?_))))
   exact az
  ·have aJ:YzD=YJz:=ZRV;have aC:YxF=YCS:=ZRV
   (refine aX aJ ZCu)
   exact G.8 i af (iA hf).2
theorem Wc{A:b9}{S:bu}(K:YN)(F:YZ)(H:Y22)(az:Z7Z)(he:Yek)(hw:Z7q)(bj:Zlq){b:Nat}{r:V}(aD:YS5)(ah:YhO)(h0:Z7h)(ak:Z7j):aU g (k+3) 562 Z9W mh Q:=H.open λE hj X xc Lp rX qN G=>by
 have Wd:E.length≤1000000:=au xc YKw;refine Y02;intro gb gc gd;refine hO ⟨_,_,G.1,_,rfl,⟨_,_,G.4⟩,rfl,_,_,G.4,Wd,?_⟩;have f1:aB ea mh ZcQ:=aB.at G.4 rfl;have iq:=G.aq3 (E':=Z3o);have B7:(E++Z9k).length≤YAE:=aj cj (dX xc);generalize ZcQ=m1 at f1 iq ⊢;generalize E++Z9k=rY at iq B7;revert rY;refine Y18;intro rY iq B7;clear G xc Wd;refine el ⟨_,_,iq.1,_,rfl,⟨_,_,iq.3.1,trivial⟩,aqS K F iq.3 az YKw aD ah (λq aH f2=>aq1 rfl (cZ (h0 q aH ZO3 ?_))) λq aH f2 zq=>aq0 rfl (f9 (aqy ?_))⟩
 ·have i7:=iq.dq f2;exact⟨i7.1,i7.2,i7.3.more,⟨rY,i7.4,B7⟩,⟨hj,i7.5,kn Lp⟩,i7.6,⟨X,i7.7,kn rX,qN⟩,i7.8,i7.9⟩
 ·have fQ:=Lj q;have hs:ZmK:=λz hz=>hz.elim (λe=>e▸⟨YdJ a aD,YdK aD⟩) λe=>e▸⟨YdJ b ah,YdK ah⟩
  have aq:=hs YDi YZa;have bb:=hs YB1 YOS;have ak:=ak q;generalize YDi=x at fQ aq ak zq ⊢;generalize YB1=y at fQ bb ak zq ⊢;have i7:=iq.aq5 f2 zq;have aq6:=f1.trans ZO7;clear iq f1 f2 zq h0;show a6 Y5T U2 [Y0v,some Y1F,some Y3C,Zaq,some (YD Z9n),YE2,ZaO] aH ZS Q;refine Yt;intro aq7;refine hO ⟨_,_,i7.1,_,rfl,⟨_,_,i7.5⟩,_,_,i7.1,_,rfl,_,_,i7.4,(au B7 (au (dX he) Y2):rY.length≤1000001),_,_,i7.5,au Lp YKw,?_⟩;generalize Lq:V.int ((rY.length:Int) - 1)=xd;revert xd;refine Y18;intro xd Lq;have lV:=i7.aq4 (E':=YV3);have We:=aq6.trans (aB.at (p:=ea) (o':=Y5 YV3) i7.5 rfl);have Wf:(hj++[xd]).length≤YAE:=aj cj (dX Lp);generalize upd aH A.dN (19,Y5 YV3)=bF at lV We ⊢;generalize YV3=aBP at lV Wf;refine Yt;intro aBQ;refine hO ⟨_,_,lV.1,_,rfl,⟨_,_,lV.9⟩,_,_,lV.1,_,rfl,_,_,_,lV.7,rfl,_,ZXt,_,_,lV.9,_,_,lV.8 y Y7c Y7b,?_,?_⟩
  ·exact aX YF (aT YF (au (gR hw ZHK) Y2))
  ·refine aa (dK.symm:Yfa++a4 YAF=YKc) ?_;have nh:=lV.Wb (E':=YKc);have Lr:=We.trans (aB.at (p:=ea) (o':=Y5 YKc) lV.9 rfl);generalize upd bF A.n2 (43,Y5 YKc)=eK at nh Lr ⊢;revert eK;refine Y18;intro eK nh Lr;have Wg:X.length≤900063:=ZFI;have xe:=nh.Wa (E':=ZYA);refine Yt;intro aBR;refine tq ⟨_,_,nh.1,_,rfl,_,_,_,nh.7,rfl,_,qN x Y6F Y4H,_,_,nh.1,_,rfl,⟨_,_,_,nh.7⟩,_,_,_,nh.7,ZF3,rfl,_,ZXt,_,_,xe.8 x Y6F Y4H,_,_,xe.8 y Y7c Y7b,?_,λna zr=>⟨51+8*x,_,_,cY zr xe.1,_,rfl,_,_,_,Yii,rfl,au Z8a ZF3,cZ (ak _ ZbV ?_ rfl ((xe.new zr).Wa.close B7 Wf rX qN (cg Yii Yc YBU) Y4H fQ))⟩⟩
   ·exact aX YF (aT YF (au (gR (bj x Y6F Y4H) ZHK) Y2))
   ·exact((Lr.trans (aB.at nh.7 rfl)).trans (aB.new zr)).trans (aB.at Yii rfl)
theorem B8[Y8Y][Y8Z]{L:ZC}:ZmL:=by
 induction L with
 |nil=>exact Zga
 |cons a L ai=>
  intro M bZ h;have bZ:=YE7;have aD:=YGo;have:=ZDt;replace this:=ZGM;exact ZEz
abbrev xf(N:Yd)(P:YCK)(R:YeF):Y1:=iG (∀a,R a a) (∀{a b},R a b→R b a) (∀{a b c},R a b→R b c→R a c) (∀p∈P,Z7H) (∀(i j:Nat)(x y:a8)(f:YL),Y4i→YRJ→(∀c,R c (f c)∨(c∉x.2∧c∉y.2))→YTc→R i j)
def lu(N:Yd)(P:YCK)(f:YL):Y1:=∀R,YYA→Zlp
noncomputable abbrev cnt (S:bu):Nat:=(roots S.N.length S.f).length
abbrev eG(S:bu)(pend:YV):Y1:=acN YML S.N.Nodup (∀(i:Nat)(x:a8),Y4j→ZQc) ((Z7f).Nodup∧∀k∈Z7f,ZQa∧ZSu∧∀c∈k.2,Y2o) (∀(k:a8)(j:Nat),Yxo→∃x:a8,YRb=YQ∧canon S.f k=Y1r) (∀(i:Nat)(x:a8),Y4j→i∉S.wait→i∉pend→∃j,Yej∧YFc) (∀(i:Nat)(x:a8)(c:Nat),Y4j→c∈x.2→i∈Z7n) (∀i∈S.wait,Y2J) (∀i,Y2J→YFb→∀j∈YCS,YAv) (∀i,Y2J→YFb→YZu*YCD≤YFZ) (S.wait.length*YCD≤2*YFZ)
theorem eo{x:α}(h:Ymr):ZR9:=Yxe
variable{x0:Nat}{df:Nat}
theorem zt{S:bu}(F:YML)(aq:Z7m)(bb:Z7k)(fQ:x0<df)(rZ:ZLS):cnt Ykn+1=YLJ:=by
 have p:(roots S.N.length S.f).Perm (df::roots S.N.length Ykh):=(Dr Yqc (ma ⟨Y6k,Yqc⟩)).mpr Ys3
 ·exact p.length_eq.symm
 ·have h:=ZWu.2;replace h:=aQ (kW bb) h;exact ej fQ h
 ·show i∈ZYu↔i∈df::ZYu;refine aL YHY (aj ZXK (bW ZXK ?_));by_cases q:Za=df
  ·refine aa YDZ (⟨λh=>YY (cA h.2 q),λh=>h.elim (λh=>aa h (⟨rZ,bb⟩)) Y6k⟩);replace q:=aQ aq (aX h.2 q);exact absurd q YU8
  ·exact aa YAx (⟨YJ,λh=>h.elim (λh=>absurd (aa h bb) q) id⟩)
def Wh(x0 df z:Nat):Nat:=if z=df then x0 else z
theorem Wi(f:YL)(x:a8):ZJS=canon Z8v Y2p:=iF rfl (by
 show Y5B YUj=(Y5B f).map Z8v;refine aL kJ ?_;rfl)
theorem aq8{f:YL}{x:a8}(h:∀c∈x.2,f c≠df):ZJS=Y2p:=iF rfl (sv λc ao=>kz YUp)
variable{pend:YV}
theorem Wj{S:bu}(D:Y2r)(aq:Z7m)(bb:Z7k)(fQ:x0<df)(rZ:ZLS)(ar:∀(i:Nat)(x:a8),ZS2→Y4j→∃j,Yej∧ZOw):eG Ykn []:=
 ⟨Lh D.1 aq fQ,
  D.2,
  D.3,
  D.4,
  λk j h=>YuR λx z=>⟨z.1,(Wi S.f k).trans ((congrArg _ z.2).trans (Wi S.f x).symm)⟩,
  λi x af hw O=>by
  have hw:=λh=>hw (Aa.mpr h);show∃j,S.ed.lookup ZJR=Y0N∧ZOw;refine aa ((aq8 λc ao q=>hw (YJ (aV q Z3U)):ZJR=Y1r)) ?_;by_cases q:ZS2
  ·exact ar i x q af
  ·exact(D.6 i x af (λh=>hw Y61) q).imp λj z=>⟨z.1,by unfold g0;rw[z.2]⟩,
  λi x c af ao=>by
  have h:=Z3U;show i∈YEg (g0 S.f x0 df c);by_cases q:Y4B=df
  ·refine bW YDZ ZBY;exact d8 _ (aV q h)
  ·refine bW YAx ?_;by_cases ck:Y4B=x0
   ·refine bW ck ZBY;exact ko _ (aV ck h)
   ·refine aL (Ylt:YEg Y4B=Z7n) ?_;exact h,
  λi af=>(iw af).elim (D.8 i) (D.9 df rZ bb i),
  λi af hf j aM=>by
  by_cases q:i=x0
  ·replace aM:=bL (show YOw from Y0c) (fU q aM);exact YxZ (D.9 x0 ZTs aq j) (D.9 df rZ bb j)
  ·replace aM:=bL YxS aM;have hf:YUh=i:=hf;have zo:Z7l:=λz=>by replace hf:=ZBp;exact ZXj
   rw[kz zo]at hf;exact D.9 i af hf j aM,
  λi af hf=>by
  have e:=Zfi;have fK:Z2d:=ZHk
  show(YEg i).length*YJx≤YFZ;have half:∀l:Nat,l*YCD≤YFZ→2*(l*YJx)≤YFZ:=λl h=>by
   replace h:=aQ ZDm (bN fK h);exact h
  by_cases q:i=x0
  ·refine aa q (gT YxU ZC6);have av:=gR (half _ (YCH x0 ZTs aq)) (half _ Z3P);rw[←uh,←acy]at av;exact ayL av Dn
  ·refine gT YxS ?_;have hf:YUh=i:=hf;replace hf:=aQ (kz (λz=>by rw[YMF]at hf;exact ZXj:Z7l)) hf;exact au Z5w (half _ Z3Q),
  by
  have e:=Zfi;have fK:Z2d:=ZHk
  show(S.wait++Z7o).length*YJx≤2*YFZ;refine ZC6;have ak:=YFG;have av:=Z3P
  (rw[fK,acw]at ak;replace av:=aQ ZDm (bN fK av))
  refine aL (acy ..) ?_;exact gR (ayL ak Dn) (au Z5w av)⟩
theorem Ls{P:YCK}{f:YL}(J:YVj)(hf:∀i,Y2t→f i<N.length)(h:∀R,YYA→Zlp→R x0 df):lu N P YUj:=λR C i af=>by
 by_cases q:f i=df
 ·exact aL YDZ (C.3 (q▸Z4r) (C.2 (h R C (J R C))))
 ·exact aL YAx Z4r
def n3(S:bu)(i:Nat)(x:a8):bu:=(S.ed.lookup Y1r).elim {S with ed:=Yei} λj=>YLy
theorem B9{S:bu}(F:YML){b:Nat}(aD:YS5)(ah:YhO)(h:Z7i):
  S.f YDi=YDi∧S.f YB1=YB1∧YDi<YB1∧YB1<S.N.length:=by
 have hs:ZmK:=λz hz=>hz.elim (λe=>aa e (⟨F.2 a aD,F.lt aD⟩)) λe=>aa e (⟨F.2 b ah,F.lt ah⟩);exact⟨(hs _ YZa).1,YxO.1,Lj h,YxO.2⟩
theorem Lu{f:YL}{b:Nat}:g0 f YDj YDg a=g0 f YDj YDg b:=by
 rcases qM (f a) (f b)with z | z
 ·rw[z.1,z.2,kW (i:=b) rfl];by_cases q:YD9
  ·exact YDZ
  ·exact YAx
 ·rw[z.1,z.2,kW (i:=a) rfl];by_cases q:f b=f a
  ·exact(kW q).symm
  ·exact(kz q).symm
theorem Wk{S:bu}(F:YML){x:a8}(aq:∀c∈x.2,Y2o):canon S.f Y1r=Y1r:=iF rfl (by
 show(Y5B S.f).map S.f=Y5B S.f;exact aj kJ (sv λc ao=>F.2 c (aq c ao)))
theorem pO{S:bu}(D:Y2r){x:a8}(af:Y4j):∀c∈x.2,Y2o:=λc ao=>lD (YQf.2.2 c ao) Y4L
theorem FW{S:bu}(D:Y2r){x:a8}(af:Y4j)(h:Yej):∃y,YRb=Y06∧ZJV:=(D.5 _ _ Zbh).imp λy z=>⟨z.1,cA Z8w z.2⟩
theorem aq9{S:bu}{P:YCK}(D:Y2r){x y:a8}{R:YeF}(af:Y4j)(aM:YRb=Y06)(e:ZJV)(C:xf S.N P R)(h:∀i,Y2J→R i Za):R i j:=
 C.5 i j x y S.f af aM (λc=>by
  by_cases q:Y2o
  ·exact YY (h c q)
  ·exact YJ ⟨λao=>q (pO D af c ao),λao=>q (pO D aM c ao)⟩) e
abbrev oQ(S a7:bu):Y1:=iG Yfg (∀P,YHH→lu S.N P a7.f) (∀a b,Y8f=YCR→a7.f a=a7.f b) (YCZ≤Y1Q) Yel
theorem oQ.refl{S:bu}:oQ S S:=Znb
variable{cK:bu}
theorem oQ.trans{S qO:bu}(a:oQ S qO)(b:oQ qO cK):oQ S cK:=⟨b.1.trans a.1,λP h=>a.1▸b.2 P (aV a.1.symm (a.2 P h)),λx y h=>b.3 x y (a.3 x y h),au b.4 a.4,au a.5 b.5⟩
theorem Lv{f:YL}{b:Nat}(h:YD9):g0 f x0 df a=g0 f x0 df b:=by unfold g0;rw[h]
theorem Wl{S:bu}{x:a8}(D:ZMI)(af:Y4j):eG YVy []∧oQ S YVy:=by
 have Fs:=Y4L;unfold n3
 cases q:YFa with
 |none=>
  refine⟨⟨D.1,D.2,D.3,⟨?_,YOH⟩,Ys6,ZiX,D.7,D.8,D.9,YCH,YFG⟩,rfl,Y89,Y4V,YW,YW⟩
  ·show(Yuu).Nodup;refine aL dK (xZ xU ?_);exact⟨YFH,Y7v,λa aD b ah e=>VH q (by refine aL (Yvn:Y1r=b) ZGT;exact aD)⟩
  ·have aR:k∈Yuu:=aR;rw[dK]at aR;refine(iw aR).elim (YFI k) Y6k;refine ZCl;refine⟨YQf.1,by show(Y5B S.f).length≤2;refine Y2I;exact YQf.2.1,λO ao=>(ee ao).elim λa z=>aV z.2 (YA8 (pO D af a z.1))⟩
  ·refine Yxb (D.5 k j) Y6k;have e:=gQ Y1T;exact⟨x,aa e.2 af,aa e.1 Z8w⟩
  ·show∃j,(S.ed++YFl).lookup (canon S.f fY)=Y0N∧Y3A=S.f f5;refine ZCh;by_cases e:f5=i
   ·subst e;refine aa ((YiK:fY=x)) YgW;exact⟨f5,ZIF,rfl⟩
   ·exact(D.6 f5 fY j5 hw λh=>e Y1T).imp λj z=>⟨ZHs,z.2⟩
 |some j=>
  have Wm:=FW D af q;have aM:YAv:=Wm.elim YsZ;show eG YLy []∧oQ S YLy;by_cases e:YFc
  ·rw[YM1];refine⟨⟨D.1,D.2,D.3,D.4,D.5,ZiX,D.7,D.8,D.9,YCH,YFG⟩,oQ.refl⟩;by_cases aC:f5=i
   ·subst aC;exact⟨j,YiK▸q,e⟩
   ·exact D.6 f5 fY j5 hw λh=>aC Y1T
  ·rw[YDQ];have m:=B9 D.1 aM Fs e;refine⟨Wj D m.1 YHJ YHK YHL λf5 fY h j5=>?_,rfl,λP J=>Ls J (λO af=>Z3O) ZhG,ZgY,?_,Y1I⟩
   ·have aC:=Y1T;subst aC;exact⟨j,YiK▸q,Lu⟩
   ·refine Wm.elim YZ8;have dv:R Y3A Za:=C.3 (C.2 (h j aM)) (C.3 (C.2 (aq9 D af z.1 z.2 C h)) (h i Fs));rcases qM Y3A Za with w | w
    ·refine ZDG;exact dv
    ·refine ZDG;exact C.2 dv
   ·show YAE+cnt Ykm≤Y1Q;refine fU (Zfj) ?_;exact dH (by exact ZEH)
theorem Wn{f:YrI}{m:Nat}(h:∀a,Yx7):Yxu:=by
 induction l with
 |nil=>exact Z0
 |cons a l ai=>
  rw[uf,cj,g5,wb,gi];exact gR ai (h a)
def ara(n:Nat):List YV:=[]::(YwQ ZhV)
def Lw(n:Nat):Yd:=[17,21,8,1].flatMap λo=>(ara n).map λaZ=>Z6
theorem arb{n:Nat}(h:n≤13):(Lw n).length≤900000:=by
 have ak:(YwQ ZhV).length≤13*14:=
  au (Wn (m:=14) λO=>aj g5 (aT YF (aT fN ZLA))) (aT fN (mI _ h))
 exact au (Wn (m:=183) λO=>aj YF (dX ak)) Y2
theorem arc{n:Nat}{k:a8}(h:ZQa∧ZSu∧∀c∈k.2,c<n):k∈Lw n:=by
 have aA:k.1∈[17,21,8,1]:=by
  rcases gG h.1 with q | q
  ·refine Yg5;decide
  ·rcases gG q with q | q
   ·refine Yg5;decide
   ·rcases gG q with q | q <;> · refine Yg5;decide
 refine Ap ⟨k.1,aA,kp ⟨k.2,?_,rfl⟩⟩;have av:=h.2;generalize k.2=l at av
 cases l with
 |nil=>exact b3
 |cons a l=>
  refine eI _ (Ap ⟨a,og (YG3 a b3),?_⟩)
  cases l with
  |nil=>exact b3
  |cons b l=>cases l with
   |nil=>exact eI _ (kp ⟨b,og (YG3 b YGY),rfl⟩)
   |cons d l=>exact absurd YG2 (OL (fp 3 l.length))
theorem ard{S:bu}(D:Y2r)(h:Y2k):S.ed.length≤900000:=by
 have:=B8 (M:=Lw S.N.length) YFH λk aR=>arc (YFI k aR);replace this:=ZBm;exact au this (arb h)
theorem npow{n:Nat}(h:n≤13):n*2 ^ n≤106496:=au (Nat.mul_le_mul h (ayM Y0J h)) Y0J
theorem Wo{b c:Nat}(h:a*2 ^ c≤b):a≤b:=au (acz _ (Nat.pow_pos Y0J)) h
theorem FX{S:bu}(D:Y2r)(h:Y2k):Zlq:=λi af hf=>au (Wo Z3Q) (au ZVr Y2)
theorem FY{S:bu}(D:Y2r)(h:Y2k):Z7q:=au (Wo YFG) (au (iu 2 ZVr) Y2)
theorem arf{S:bu}{x:a8}(D:ZMI)(af:Y4j)(h:Y2k):cnt YVy*1000000+(n3 S i x).wait.length<YLJ*1000000+(S.wait.length+1):=by
 unfold n3
 cases q:YFa with
 |none=>exact YDo
 |some j=>
  show cnt YLy*1000000+(if YFc then S else Ykm).wait.length<_;by_cases e:YFc
  ·exact aa YM1 YDo
  ·refine aa YDQ ?_;have m:=B9 D.1 (YuW λO z=>YAl:YAv) Y4L e;have arh:=Zfj;have ak:(gM S ZUz ZUd).wait.length≤600000:=by
    show(S.wait++S.use _).length≤600000;exact aj cj (gR (FY D h) (FX D h _ YHL YHJ))
   exact ew (Nat.lt_of_lt_of_eq (ack (fF ak (Y2:600000<1000000)) _) (wb _ _).symm) (au (dH (congrArg (·*1000000) arh)) Yk)
theorem ari(l:Y3)(x:V):(l++[x]).eraseIdx ((l++[x]).length - 1)=l:=by
 induction l with
 |nil=>rfl
 |cons a l ai=>
  ((replace ai:=yj cj ai;rw[sx]at ai;replace ai:=bN (ayN ..) ai);rw[cj,sx,ayN])
  exact congrArg (a::·) ai
theorem arj(L:Y2R):(dW bO L).length=L.length:=bt _
theorem d3.ark{A:b9}{S:bu}{l:Y2R}(H:Y22):d3 (upd mh A.ed (27,Y9 3 (dW bO l))) A {S with ed:=l}:=
 ⟨cg H.6 H.1,H.2.ng H.6 rfl,H.3.ng H.6 rfl,YQv ZhJ,YQw ZhJ,Yc,YdL λO z=>YtA,λi af hf=>cg H.6 Z4R YBU,cg H.6 H.9⟩
theorem d3.arl{A:b9}{S:bu}{l:YV}(H:Y22):d3 (upd mh A.n2 (43,Y5 Y4C)) A {S with wait:=l}:=H.open λE hj X xc Lo rX qN G=>
 have G:=G.Wb (E':=Y4C)
 ⟨G.1,G.2,G.3,Zmo,ZnS,G.6,⟨X,G.7,rX,qN⟩,G.8,G.9⟩
abbrev arn(mh:ag)(A:b9)(S:bu)(c:Nat)(r:bG)(m:ag)(P:Y1):Y1:=∀(bl:b9)(a7:bu),YS7→Y0Y→ZKd→YLX→Ynm→r=[some YcD]→c=cnt a7*1000000+a7.wait.length→P
abbrev aro(mh:ag)(A:b9)(S:bu)(c:Nat)(r:bG)(m:ag):Y1:=∀P:Y1,arn mh A S c r m P→P
theorem Wq{A:b9}{S:bu}(K:YN)(F:YZ)(H:Y22)(D:Y2r)(az:Y2k)(he:Yek){x:a8}(af:Y4j)(h:∀aW bl,Y4F→Y0Y→d3 aW bl YVy→YFV):aU g (k+4) 534 Z9X mh Q:=by
 have dn:YRa:=Y07;have fI:Z7Z:=Y07;have th:=Y4L;refine gJ ZT K rfl Y2 (el ⟨_,_,H.1,_,rfl,⟨_,_,_,H.6⟩,Zmw,V2 K F H.1 H.2 H.3 dn dn af ZWw YQf.2.1 λm1 f1=>?_⟩);have H1:=H.no f1;refine⟨_,_,_,H1.6,au (dH (arj _)) (au (ard D az) Y2),w5 _,d9 YoO ?_⟩;unfold n3 at h
 cases q:YFa with
 |none=>
  rw[q]at h;show a6 ZCD KN [Y0v,Y3h,Y3h] (upd m1 A.ed (27,Y9 3 (eE ZL7 (bO Y1r) Y4q))) ZS Q;refine aa YYM ?_;have hK:=H1.ark (l:=Yei);have f2:aB ea mh (upd m1 A.ed (27,Y9 3 (dW bO Yei))):=f1.iO.trans (aB.at H1.6 rfl);refine en ⟨Zmz,zp K F hK.1 hK.3 dn th ⟨Zmz,zp K F hK.1 hK.3 dn th ⟨rfl,iP (by rw[nZ,beq_self_eq_true];rfl) (f9 (f9 (h _ A f2 rfl hK)))⟩⟩⟩
 |some j=>
  rw[q]at h;have Bx:YAv:=YuW YsZ;have h:∀aW bl,Y4F→Y0Y→d3 aW bl YLy→YFV:=h;show a6 ZCD KN [Y0v,Y3h,YBL] m1 ZS Q;refine Yt;intro aBS;refine en ⟨Yt4,zp K F H1.1 H1.3 dn Bx ⟨Yt4,zp K F H1.1 H1.3 dn th Y42⟩⟩;by_cases e:YFc
  ·rw[YM1]at h;exact iP (by rw[nZ,e,beq_self_eq_true];rfl) (f9 (f9 (h _ A f1.iO rfl H1)))
  ·rw[YDQ]at h;exact lS (by rw[nZ,Yhs];rfl) (hO ⟨Yt4,rfl,Wc K F H1 fI he Z4C Z4B Bx th ZlD λO O bl f2 bx hK=>f9 (f9 (h _ bl (f1.iO.trans f2) bx hK))⟩)
theorem arp{A:b9}{S:bu}(K:YN)(F:YZ)(H:Y22)(D:Y3b)(az:Y2k)(he:Y1Q≤900000)(h:∀aW bl a7,Y4F→Y0Y→Yj8→YLX→Ynm→YS1→YFV):YgM:=by
 refine Y02;intro gb gc gd;refine KY ⟨aro mh A S,_,(λO bA=>bA A S Yy rfl H D Yy rfl rfl),λc r m z=>?_⟩;refine bp λax=>z _ λbl a7 f1 bx H1 lx n4 ni mR=>?_;subst ni;refine Yb;have ak:=H1.1;have dn:a7.N.length≤13:=aa n4.1 az;have wl:=FY lx dn;refine⟨_,_,ak,_,rfl,_,_,H1.9,ZHu,?_⟩;rcases List.eq_nil_or_concat a7.wait with oR | oR
 ·exact iP (by refine aa oR ?_;rfl) (f9 (h m bl a7 f1 bx H1 lx n4 oR))
 ·obtain⟨w,i,oR⟩:=oR;replace oR:=bL List.concat_eq_append oR;have Wr:a4 a7.wait=a4 w++[Y4q]:=aX oR dK;have th:i<a7.N.length:=lx.8 i (aa oR YCx);have aq:=dy th;have r0:eG Yr5 [i]:=⟨lx.1,lx.2,lx.3,lx.4,lx.5,λf5 fY j5 hw ar=>lx.6 f5 fY j5 (λz=>(iw (aV oR z)).elim hw ar) (cS),lx.7,λj aM=>lx.8 j (oR▸ko _ aM),lx.9,lx.10,by
   have:=lx.11;replace this:=aQ ZDn (eT cj (Au oR this));exact au Yk this⟩
  have ld:=Wl r0 aq;have hlen:a7.wait.length=w.length+1:=by rw[oR,cj];rfl
  refine lS (decide_eq_true (bW YF (bW hlen (x1.mpr Y3I)))) (hO ⟨⟨_,_,ak,trivial⟩,_,_,ak,_,rfl,⟨_,_,H1.9⟩,_,_,H1.9,ZHu,Y4q,?_,?_⟩)
  ·rw[Wr,cj];exact ug
  ·exact aa Wr (aa (ari ..) (Wq K F (H1.arl (l:=w)) r0 dn (au Yk ZFH) aq λO jd cz pP xg=>f9 ⟨_,aL mR (bW hlen ((arf r0 aq dn))),λO bA=>bA jd (n3 Yr5 i a7.N[i]) ((f1.trans (aB.at H1.9 rfl):aB ea mh (upd m bl.n2 (43,Y5 (a4 w)))).trans cz) Yo5 xg ld.1 (n4.trans (Znb:oQ a7 Yr5) |>.trans ld.2) (congrArg (λa=>[some YKR]) pP.symm) rfl⟩))
theorem arq{A:b9}{S:bu}(K:YN)(F:YZ)(H:Y22)(D:Y2r)(az:Y2k)(he:Yek){b:Nat}{r:V}(aD:YS5)(ah:YhO)(h0:Z7h)(ak:Z7j):aU g (k+4) 555 Z9W mh Q:=
 gJ ZT K rfl Y2 (cZ ⟨Zmw,Wc K F H Y07 he Z4C Z4B aD ah h0 ak⟩)
def gf(S:bu)(x:a8)(cs:YV):bu:={S with N:=YAD,f:=Y9G,use:=λj=>if YmE then[]else ZRO}
theorem kX{S:bu}{x:a8}:Y5r=Z7V:=YGD
theorem canon_add{f:YL}{n:Nat}{y:a8}(h:∀c∈y.2,c<n):canon Yle y=Yik:=iF rfl (sv λc ao=>iC YUp)
variable{cs:YV}
theorem Ws{S:bu}{x:a8}(F:YML):cnt Y6O=YLJ+1:=by
 show((di Y5r).filter Ys4).length=_;have e:YwO Ys4=YwO λi=>Za==i:=
  acA λi af=>aT (iC YMB) rfl
 (refine aa kX (dU List.range_succ (aX YdO (aj cj (gT e (dU (List.filter_cons_of_pos (aT (tA ..) (Y3G)):[S.N.length].filter Ys4=Y8n) ?_))))))
 rfl
theorem Lx{S:bu}{x:a8}{y:a8}(h:YAD[i]?=Y06):(Y2J∧Yeh=Y06)∨(ZRE∧y=x):=by
 by_cases q:Y2J
 ·replace h:=ZBq;exact YY ⟨q,h⟩
 ·have e:ZRE:=mG (hp (by have w:=eo h;replace w:=bL kX w;exact w)) Y9F;replace h:=ZBr;exact Z0f
theorem Wt{S:bu}{x:a8}(D:Y3b)(aq:x∉S.N)(aA:YGu)(aE:YIH)(aR:∀c∈x.2,Y2o)(ao:Zlk):eG Y6O Y8n:=by
 have ed:∀{i:Nat}{y:a8},Yeh=Y06→∀c∈y.2,Y2o:=λh=>pO D h;have un:∀j,YAv→Y9n j=ZRO:=λj aM=>if_neg (ej aM)
 have bo:=Z8y;refine⟨(aa kX (Li D.1):lT Y5r Y9G),?_,λi y af=>?_,⟨YFH,λk Ly=>⟨Yd9.1,Yd9.2.1,λc h=>aa kX (p9 (Yd9.2.2 c h))⟩⟩,Ys6,λi y af hw ar=>?_,λi y c af n0=>?_,λi af=>aa kX (p9 (D.8 i af)),λi af hf j aM=>?_,YER,?_⟩
 ·show(S.N++[x]).Nodup;exact xZ xU (⟨D.2,Y7v,Zgh⟩)
 ·rcases Lx af with z | z
  ·exact D.3 i y z.2
  ·exact aa z.1 (aa z.2 ZnC)
 ·refine YuR λy z=>Zmm
  ·show YAD[j]?=Y06;refine aj (qb YAl) ?_;exact z.1
  ·show canon Y9G k=ZJU;exact aj (canon_add ((λh=>(YFI _ (kp ⟨_,h,rfl⟩)).2.2:∀{k:a8}{j:Nat},Yxo→∀c∈k.2,Y2o) h)) (aL (canon_add (ed z.1)) z.2)
 ·rcases Lx af with z | z
  ·show∃j,S.ed.lookup ZJU=Y0N∧i6 S.f S.N.length j=YAt;exact aa (canon_add (ed z.2)) ((D.6 i y z.2 hw cS).imp λO w=>⟨w.1,aL (iC z.1) (aj (iC ((FW D z.2 w.1).elim λO v=>YUD)) w.2)⟩)
  ·exact absurd (je z.1) ar
 ·show i∈Y9n ZR4;rcases Lx af with z | z
  ·have oH:=ed z.2 c n0;refine bW ZRF (aL Zbw ?_);have h:=D.7 i y c z.2 n0;by_cases q:Y4B∈cs
   ·exact aL ZU (ko _ h)
   ·exact aL ZN h
  ·replace n0:=fU z.2 n0;have oH:=aR c n0;exact bW ZRF (aL Zbw (aL (if_pos ((ao _).mpr ⟨c,n0,rfl⟩)) (aj z.1 YCx)))
 ·have af:i<Y5r:=af;replace af:=YSn;show j<Y5r;refine aL kX ?_;rcases YMy with z | z
  ·replace aM:=bL Zbx aM;have hf:YV7:=hf;replace hf:=YgA;by_cases q:i∈cs
   ·replace aM:=bL ZU aM;exact YxZ (λh=>p9 (D.9 i z hf j h)) λh=>aj Y1T YDo
   ·replace aM:=bL ZN aM;exact p9 (D.9 i z hf j aM)
  ·replace aM:=bL ZZf (fU z aM);exact ZDT
 ·have af:i<Y5r:=af;replace af:=YSn;show Yth*Z2c≤Yut;rw[bo,kX,x7,x7];rcases YMy with z | z
  ·have hf:YV7:=hf;rw[Yli]at hf;have sT:Yth≤YZu+1:=by
    refine aX Zbx ?_;by_cases q:i∈cs
    ·refine aX ZU YKs;exact YW
    ·refine aX ZN ?_;exact Y1I
   have aP:=mI YCD sT;rw[wb]at aP;refine bL Ycs (aQ Ycs (dS Zdc ?_));exact mI 2 (au aP (gR (YCH i z hf) (ayM Y0J VU:YCD≤Z2b)))
  ·refine aa z (gT (Y0c:YOx=[]) ?_);exact ZEx
 ·show S.wait.length*Z2c≤2*Yut;rw[bo,kX,x7,x7,←Aj,←Aj,←Aj];refine mI 2 (au YFG (au (dH (Aj _ _ _).symm) (mI _ (iu 2 Y1I))))
theorem Wu{S:bu}{x:a8}:YAD[S.N.length]?=YQ:=ug
abbrev FZ(S:bu)(x:a8)(a7:bu):Y1:=Ak (a7.N=YAD) YLX Zls Z7r (∀P,YHH→lu YAD P a7.f) (YCZ≤Y1Q+1) Yel
theorem ars{S:bu}{x:a8}{P:YCK}(D:Y3b)(J:YHH)(aR:∀c∈x.2,Y2o):lu YAD P Y9G:=λR C i af=>by
 rcases rW (aV kX af)with z | z
 ·refine aL Yli (J R ⟨C.1,C.2,C.3,C.4,λi j y mP f af aM=>C.5 i j y mP f (by refine aj (qb Y4L) ?_;exact af) (by refine aj (qb YLb) ?_;exact aM)⟩ i z)
 ·rw[z,tA];exact C.1 _
theorem added{S:bu}{x:a8}(D:Y3b)(aq:x∉S.N)(aA:YGu)(aE:YIH)(aR:∀c∈x.2,Y2o)(ao:Zlk):FZ S x (n3 Y6O S.N.length x):=by
 have lx:=Wt D aq aA aE aR ao;have ld:=Wl lx Wu;have bo:=Z8y;have zu:(∀i,Y2J→(n3 Y6O S.N.length x).f i=Za)∧(YFe→(n3 Y6O S.N.length x).wait=[]):=by
  unfold n3
  cases q:(gf S x cs).ed.lookup ZJT with
  |none=>exact⟨λO af=>YV9,id⟩
  |some j=>
   have aM:YAv:=by
    replace q:=eT (canon_add aR:ZJT=Y1r) q;exact(D.5 _ _ Ype).elim YsZ
   have fe:YJF=Y3A:=iC aM;have fq:YBl=S.N.length:=tA _ _;have lt:=YA8 aM;show(∀i,Y2J→(if YJF=YBl then Y6O else ZP5).f i=Za)∧(YFe→(if YJF=YBl then Y6O else ZP5).wait=[])
   refine aa fe (aa fq (aa (if_neg (ej lt)) (aa (Hg ZQW) (aa (Om ZQW) (⟨YES,λhw=>?_⟩)))))
   ·show g0 Y9G Y3A S.N.length i=Za;exact aj (kz (aj YV9 (ej Z3O))) (YV9)
   ·show S.wait++YOx=[]
    rw[hw,ZZf];rfl
 refine⟨ld.2.1,ld.1,zu.1,zu.2,λP J=>ld.2.2 P (ars D J aR),?_,ld.2.5⟩;have e:=ld.2.4;replace e:=fU bo e;exact e
theorem d3.art{A:b9}{S:bu}(H:Y22){c:Nat}{l l':YV}(ao:Y2o)(hf:YKM):d3 (upd mh Z2i (Ycn,Y5 Y4C)) A {S with use:=λj=>if j=c then l else YFd}:=by
 have bj:=H.8 c ao hf;refine⟨cg bj H.1 YNi,H.2.ng bj YqL,H.3.ng bj YqL,YQv Yre,YQw Yre,cg bj H.6 YNi,YdL Yre,λi af zo=>?_,cg bj H.9 YNi⟩;by_cases q:i=c
 ·rw[q];exact Yvw (by show _=some (Ycn,ct.list (a4 (if c=c then l else Yem)));exact aa Y0c rfl)
 ·exact(cg bj (H.8 i af zo) (aqZ q)).trans (by show _=some (Y79,ct.list (a4 (if i=c then l else YCS)));exact ZCp)
theorem aru{cl:Calls}{e:E}{Q:Ys}(h:Zd r m λv ab=>Q [v] ab):(e7 cl [e]).1 r m Q:=h
theorem d6{cl:Calls}{o:dj}{e:E}(h:Zd r m λv ab=>o.o.ij cl [v] ab Q):(bH cl (.op o [e])).1 r m Q:=h
variable{nums:V}
theorem arv{cl:Calls}{own:Nat}{t:dY}{ifs:Yv}{elt:E}{l:Y3}(bo:Y1H=Zap)(hs:rR nums mh l)(h:∀need:Y6,(∀ab,(∀b x,Y6V=YQ→YgZ)→need ab)→∃P:Y1O,P l [] mh∧jz P need Y8B YMU):(bH cl (ZF BY [Y8X] t own caps ifs elt)).1 r mh Q:=by
 show qy Y1H λv=>BY.o.ij [v] mh Zkj;exact aj bo (rR.ij (Q:=Zkj) hs h)
theorem arw{L:YV}(h:∀v,Y9d→v∈Y8o):∃cs,us=a4 cs:=by
 induction us with
 |nil=>exact YZG
 |cons v us ai=>exact YvV λcs e=>(jm ZPt).elim λn z=>⟨n::cs,by refine aX e (aT z.2 ?_);rfl⟩
theorem arx(h:(a4 cs).Nodup):cs.Nodup:=by
 replace h:=Dq G7 (Dq Di h);exact HD (h.imp λq e=>q (congrArg ay e))
theorem Wv{L:YV}{n:Nat}:Y3D∈Y8o↔n∈L:=⟨λh=>Yag λO z=>nW z.2▸z.1,λh=>kp ⟨n,h,rfl⟩⟩
def tD(S:bu)(done:YV)(j:Nat):YV:=if YmE then[]else if j∈done then YFd++Y8n else YFd
def Ca(S:bu)(x:a8)(d:YV):bu:={S with N:=YAD,f:=Y9G,use:=tD S d}
theorem ary{S:bu}{c:Nat}{d:YV}(h:Y2o):(λj=>if j=c then Yen else tD S d j)=tD S Yj3:=funext λj=>by
 by_cases q:j=c
 ·(exact aj ZU (bW q (aL Ylo ((if_pos YCx).symm))))
 ·refine Yh1;by_cases il:YmE
  ·exact aL ZRg (ZRg)
  ·refine aL ZRU (aj ZRU ?_);by_cases ck:j∈d
   ·exact aj ZRe ((if_pos (ko _ ck)).symm)
   ·exact aj Ylt ((if_neg λh=>Yxb ck λh=>q Y1T).symm)
theorem d3.arz{A:b9}{S:bu}{x:a8}{d:YV}{c:Nat}{l:Y3}(H:d3 mh A Z3J)(h:Y2o)(hf:YKM)(e:l=a4 Yen):d3 (upd mh Z2i (Ycn,Ybf)) A (Ca S x Yj3):=by
 have z:=H.art (l:=Yen) (l':=[]) (show c<Y5r by exact aL kX (p9 h)) ((iC h).trans hf);unfold Ca at z ⊢
 (refine pf (ary h) Y4o);exact z
abbrev arA(S:bu)(x:a8)(mh:ag)(A:b9)(cs:YV)(p:Nat)(ll:Y5O)(vs:Y3)(r:bG)(m:ag)(P:Y1):Y1:=∀(d rest:YV)(z:Yp),cs=YLN→vs=a4 rest→d3 m A Z3J→YS7→m p=some YZg→r=ll z→P
abbrev arB(S:bu)(x:a8)(mh:ag)(A:b9)(cs:YV)(p:Nat)(ll:Y5O)(vs:Y3)(r:bG)(m:ag):Y1:=∀P:Y1,arA S x mh A cs p ll vs r m P→P
theorem arC{A:b9}{S:bu}(K:YN)(F:YZ)(H:Y22)(D:Y3b)(az:Z7Y)(he:Z7g){o:Nat}(aA:Y4M)(aE:YgO)(aR:∀c∈aZ,Y2o)(hs:ZYd)(qu:Zly)(h0:∀j,YRb=ZaW→∀aW,Y4F→Yj7→Q Y8w aW)(ak:YyA→∀aW bl a7,Y4F→Y0Y→Yj8→FZ S Z6 a7→Q Y7X aW):ZCE:=by
 have dn:YRa:=Y07;have Ww:ZCg:=Y7W;have aBT:∀t,Yjl→Yio:=λt h=>(Bool.or_eq_false_iff.mp h).1;refine Y02;intro gb gc gd;refine el ⟨_,_,H.1,_,rfl,⟨_,_,H.2.1,trivial⟩,aqG K F H.2 dn aA hs aR Ww λm1 f1 a3=>?_⟩;have c6:∀t,Yiq→Yio:=ZkT
 have eY:∀t,YLI→Yio:=ZkT
 have xh:=H.3.dq f1 c6;have uz:m1 A.h=_:=f1.go H.1
 cases q:(hi S.N).lookup Z6 with
 |some j=>
  have lp:=VM q;replace a3:=ZGW;refine ZDD;have aM:=pJ Ype;exact en ⟨_,_,uz,_,rfl,Yt5,VT K F xh dn (lS (decide_eq_true (x1.mpr YLb)) (cZ (h0 j aM m1 (f1.weak V9) ⟨uz,a3,xh,YQv ZhK,YQw ZhK,ZNx,YdL λO z=>YtC,λi af hf=>f1 _ _ Z4R ZMp,ZNy⟩)))⟩
 |none=>
  have lp:=VN q;replace a3:=ZGW;refine ZDD;have aq:YyA:=λhm=>YzS λj z=>by replace z:=eT q z;exact Yih
  refine Yt;intro aBU;refine en ⟨_,_,uz,_,rfl,Yt5,VT K F xh dn (iP (decide_eq_false (Int.not_lt.mpr (Int.le_refl _))) (f9 (hO ⟨_,_,uz,_,rfl,Yt5,aqO K F xh Y07 λaH e4 f2 zq=>?_⟩)))⟩;obtain⟨X,jO,rX,qN⟩:=H.7;have eg:∀t,Yip→ZJs:=YsK
  have hx:∀t,YLI→ZJs:=YsK
  have F0:aB ea mh aH:=(f1.weak V9).trans ZO7;have mQ:=f2.go uz;have zv:=f2.go (f1.go jO);refine Yt;intro aBV;refine tq λb ah=>⟨YQU,_,_,cY ah mQ,_,rfl,_,_,_,cY ah zv,rfl,ZFI,?_⟩
  have Cb:=cY (t:=YQU) (o':=Y0R) ah zv;have aBW:=Li H.3.6;have nw:∀{kO u:Nat}{o':ct},aH kO=YpG→o5 u 35=false→upd Zc8 A.ae YuG kO=YpG:=λr1 bj=>cg Cb (cY ah r1) bj;have vj:d3 Ypo ZbW (Ca S Z6 []):=by
   refine⟨nw mQ rfl,((a3.dq f2 eg).dq Y11 ZkS).ng Cb rfl,ZTA▸((zq.dq Y11 ZkS).ng Cb rfl),YQv ZhL,YQw ZhL,nw (f2.go ZNx) rfl,⟨_,Yc,?_,YER⟩,YER,nw (f2.go ZNy) rfl⟩
   ·show(eE X Y7X Y0B).length≤YIw+S.e;exact dS kX (aL Y9A (au Z8Z (dX rX)))
   ·have af:i<YIw:=af;replace af:=YSn;rcases YMy with z | z
    ·have hf:YV7:=hf;replace hf:=YgA;exact aj (V5 _ _ λe=>p8 z YMc) (aj (qN i z hf) (congrArg Zkq (if_neg Yjp).symm))
    ·rw[z];exact Yv6 (congrArg Zkq Yac)
   ·have af:i<YIw:=af;replace af:=YSn;rcases YMy with z | z
    ·have hf:YV7:=hf;replace hf:=YgA;show ZAG
     (refine aX (show YzE i=YJz from if_neg Yjp) ?_;refine aa (show ZbX=YCS from(if_neg Yjp).trans (if_neg cS)) ?_)
     exact nw (f2 _ _ (f1 _ _ (H.8 i z hf) ZMp) (hx _ ZdY)) YBU
    ·show ZAG;rw[z,show YzE S.N.length=b from Y0c,show tD S [] S.N.length=[]from Y0c];exact cg Cb Yc YBU
  have cz:aB ea mh Ypo:=(F0.trans Y11).trans (aB.at Cb rfl);generalize Ypo=bF at vj cz ⊢;revert bF;refine Y18;intro bF vj cz;have lW:(tC YNu S.N.length b).h=A.h:=rfl;generalize ZbW=gm at vj lW;revert gm;refine Y18;intro gm vj lW;have F1:rR nums bF Y4m:=hs.imp id λz=>z.imp λp z=>z.imp λt z=>⟨z.1,cz _ _ z.2 (qu p t z.1 z.2)⟩
  have arD:hP bF gm.U Z7V Y9G S.e:=ZTA▸vj.3;refine Yt;intro aBX;refine VF (aru (d6 (arv rfl F1 λneed arE=>comp_map Y4m (λv=>ay (S.f Y32)) (λm=>bF=m) (aj YF (nX Ww)) (λm e=>arE m (aa e Y4V)) rfl ZkZ YET)))
  ·subst hm;refine YP4
   (rw[w.2]at pM;refine YGM)
   have ao:=YgG;refine⟨⟨_,_,(lW▸vj.1:bF A.h=_),trivial⟩,aV lW (zp K F (vj.1:xa bF gm) arD (au ZL9 Y2) (p9 ao) ⟨aD,?_⟩)⟩;refine aa (iC ao) ?_;exact pM bF rfl
  ·subst hm;refine aX Z5Y (λp ar=>⟨0,_,_,Yc,⟨by refine Ygx;exact Y7W,FU _,Z0c⟩,λus bZ hm bo cO fK=>YOO⟩);obtain⟨cs,rfl⟩:=arw λv aO=>(hm v).mp aO;have Lz:∀c,Yiz↔∃k,k∈aZ∧S.f k=c:=λc=>Wv.symm.trans ((hm Y3Z).trans (Wv.trans OC));have f4:aB no bF Ypp:=YvG ZB5;have Cc:=vj.no f4;have Wx:=bw ZcD cO YZg;have gL:aB ea mh Ypp:=cz.trans f4.iO;generalize Ypp=eK at Cc Wx gL ⊢;refine⟨arB S Z6 mh gm cs cO λz=>[Y0v,YHn,Zap,ZaM,z],(λO bA=>bA ([]) cs none rfl rfl Cc gL Wx rfl),Y3k,Zkb⟩
   ·refine ZHW;subst xj;refine Yb;have fB:Yoe:=Z3Y;replace aJ:=ZGP;subst aJ;have lx:=Wt (cs:=cs) D aq aA aE aR Lz;refine⟨Zmf,hO ⟨⟨_,_,lW▸xi.1,trivial⟩,aV lW (Wq K F (xi:d3 m gm (gf S Z6 cs)) lx (by show YIw≤13;exact aj kX ZL9) YKw Wu λpA bl pQ bx arF=>cZ (ak aq pA bl _ ZdG (bx.trans lW) arF (added D aq aA aE aR Lz)))⟩⟩
   ·refine ZHW;subst xj;refine Yb
    cases rest with
    |nil=>exact ZDS
    |cons c rest=>
     have aC:=g4 aC;refine YM;obtain⟨dI,Wy,Wz⟩:=(Lz c).mp (ZCv:Yiz);have Ce:Y2o:=aV Wz (YdK ZBz);have LA:YKM:=aV Wz (YdJ dI ZBz);have ci:c<YIw:=aL kX (p9 Ce);have WA:ZR4=c:=(iC Ce).trans LA;have LB:=arx bZ;replace LB:=bL aJ LB;have rF:ZbY=Yem:=(if_neg (ej Ce)).trans (if_neg (λhd=>(HE LB).2.2 c hd c b3 rfl:c∉d));obtain⟨LC,arG,O,arH⟩:=xi.7;refine Yb;have i1:=xi.8 c ci WA;refine⟨Zmf,d9 YAM (t1 (hO ⟨_,_,(aV lW xi.1:m A.h=some (3,ZD 617 [Y0 gm.B.b,Y0 gm.U.u,Y0 gm.iW,Y0 gm.dN,Y0 gm.ed,Y0 gm.ae,Y0 gm.n2])),_,rfl,_,_,_,arG,rfl,_,arH c ci WA,⟨_,_,i1⟩,_,_,i1,?_,f9 (λO bA=>bA Yj3 rest Y58 ZHx YAN ?_ (vk.trans (aB.at i1 (aq2 _ YqL))) (cg i1 F2 YNi) rfl)⟩))⟩
     ·show(a4 ZbY).length≤1000000;exact dU rF (aj YF (au (FX D Y07 c Ce LA) Y2))
     ·exact xi.arz Ce LA ((congrArg (λl=>Y4C++[Y7X]) rF).trans (dK (l₂:=Y8n)).symm)
theorem bc{cl:Calls}{x:V}(bo:YTO)(h:YFX):(bH cl Y8X).1 r m Q:=by
 show YoS;exact aj bo h
theorem aS{cl:Calls}{Q:Ys}(h:Q [] m):YjW.1 r m Q:=h
theorem aw{cl:Calls}{e:E}{es:Yv}{Q:Ys}(h:Zd r m λv ab=>Y2d r ab YsR):(e7 cl YGW).1 r m Q:=h
theorem e5{cl:Calls}{x:V}{Q:Ys}(bo:YTO)(h:Q [x] m):(e7 cl [Y8X]).1 r m Q:=aw (bc bo h)
theorem oS{cl:Calls}{x y:V}{Q:Ys}(bo:YTO)(aM:YAW=Y06)(h:Q Y2F m):(e7 cl [Y8X,YJu]).1 r m Q:=aw (bc bo (e5 (Q:=Zkk) aM h))
theorem F3{cl:Calls}{x y w:V}{Q:Ys}{l:Nat}(bo:YTO)(aM:YAW=Y06)(aE:cI r l=YpO)(h:Q [x,y,w] m):(e7 cl [Y8X,YJu,.var l]).1 r m Q:=aw (bc bo (oS (Q:=Zkk) aM aE h))
theorem bQ{cl:Calls}{es:Yv}{o:dj}(h:Y2d r m λvs ab=>o.o.ij cl vs ab Q):ZGH.1 r m Q:=h
theorem kA{cl:Calls}{x:V}{p:Nat}(bo:YGI)(hm:Ymy)(hf:fs[i]?=YQ)(h:YFX):(bH cl (.op (b2 C i) [YJu])).1 r m Q:=by
 show YoT;exact aj bo (⟨_,_,hm,_,hf,h⟩)
theorem jS{cl:Calls}{es:Yv}{f p:Nat}(bo:YGI)(hm:Ymy)(h:Y2d r m λvs aH=>cl f Z1x aH Q):ZGF.1 r m Q:=by
 show YoT;exact aj bo (⟨⟨_,_,hm,trivial⟩,h⟩)
variable{C0:Nat}{sI:Y3}
theorem nj{cl:Calls}{es:Yv}{f p q u:Nat}(bo:YGI)(hm:Ymz)(hf:Ykd)(aF:m q=some (u,ZD C sI))(h:Y2d r m λvs aH=>cl f (Y0 q::vs) aH Q):(bH cl (Ya YiJ Ybr es)).1 r m Q:=by
 show YoT;exact aj bo (⟨_,_,hm,_,hf,⟨_,_,aF,trivial⟩,h⟩)
theorem mx{cl:Calls}{a:E}{es:Yv}{o:kR}(h:YOd r m λv ab=>o.o.pre v ab∧Y2d r ab Zkl):(bH cl (Ya o a es)).1 r m Q:=h
theorem eZ{cl:Calls}{es:Yv}{f:Nat}(h:Y2d r m λvs aH=>cl f vs aH Q):ZGG.1 r m Q:=h
theorem cst{cl:Calls}{v:V}(h:Y39):(bH cl (.op (Bs v) [])).1 r m Q:=h
theorem WB{A:b9}{n:Nat}{f:YL}(K:YN)(F:YZ)(h0:YII)(B:YLv)(az:Y2X)(aD:a<n)(h:YeY):ZCC:=
 gJ ZT K rfl Y2 (cZ (nj rfl h0 rfl B.1 (e5 rfl Z33)))
inductive cE where
 |v (n:Nat) |c (o:Nat) |u (o:Nat) (a:cE) |b (o:Nat) (a b:cE)
def bB(p:cE):V:=p.rec (λn=>YD YKa) Zjp Zjh Zjg
def gu(p:cE):Bool:=p.rec (λn=>n==3||n==4) (λo=>hN o) (λo O a=>hN o&&a) λo O O a b=>hN o&&(a&&b)
theorem tE{cl:Calls}{e:E}{own:Nat}{t:dY}{ifs:Yv}{elt:E}(h:Zd r m λv ab=>lst v ab λa O l=>∃P:Y1O,YeN∧jz P YHW Y8B YMU):(bH cl (ZF hb [e] t own caps ifs elt)).1 r m Q:=h
theorem tF{cl:Calls}{e:E}{own:Nat}{t:dY}{ifs:Yv}{elt:E}(h:Zd r m λv ab=>v.eM False λl=>∃P:Y1O,YeN∧YmL):(bH cl (ZF iK [e] t own caps ifs elt)).1 r m Q:=h
theorem F4{cl:Calls}{e:E}{own:Nat}{t:dY}{ifs:Yv}{elt:E}(h:Zd r m λv ab=>v.EA False λn=>YB5∧∃P:Y1O,P YDl [] ab∧YmL):(bH cl (ZF nM [e] t own caps ifs elt)).1 r m Q:=h
theorem my{cl:Calls}{elt:wG}{x:V}{N:Ys}(h:elt YMv m λy ab=>Y8s∧N ZDd ab):mV YJh false r YjW.2 elt x acc m N:=h
theorem arI{o:Nat}(h:Y4M):(tab o).isSome=true:=by
 rcases YGi with h | h
 ·refine YjJ;rfl
 ·rcases YGi with h | h
  ·refine YjJ;rfl
  ·rcases YGi with h | h <;> · refine YjJ;rfl
theorem WC(l l':YV):ZV2=true:=by
 induction l generalizing l' with
 |nil=>rfl
 |cons a l ai=>cases l' with
  |nil=>rfl
  |cons b l'=>
   have e:mq ZFX (Y3C::Yfb)=(true&&cond YhL ZV2 true):=rfl;refine e.trans (gS Ygt ?_);cases YhL <;> rfl
theorem arJ(l:YV):strsOk Y4C=true:=by
 induction l with
 |nil=>rfl
 |cons a l ai=>exact ai
theorem WD{l:Yd}(h:∀x∈l,YGu):m5 (l.map bO):=⟨λa aD b ah=>Y8N λx z=>YOq λy w=>by
  refine eT z.2 (bN w.2 (YPO ((yZ _ _ _ _).trans ?_)));show(true&&cond ZFz (mq YCY (a4 y.2)) true)=true;refine gS (WC ..) ?_;cases ZFz <;> rfl,
 λa aD=>Y8N λx z=>by
  refine bN z.2 (YZn ?_);show((tab x.1).isSome&&strsOk YCY)=true;rw[arI (h x z.1),arJ];rfl⟩
def i8(N:Yd)(f:YL)(c:Nat):Yd:=(YaI ZjE).map λi=>YTb
theorem qP{f:YL}{c:Nat}{y:a8}:y∈Y6R↔∃(i:Nat)(x:a8),Y4i∧f i=c∧y=Y2p:=by
 refine aj YoD (⟨λh=>h.elim Ys1,λh=>h.elim λi z=>z.elim λx z=>⟨i,?_,?_⟩⟩)
 ·have w:=ri z.1;have af:=YVL;exact⟨i,N[i],Y2q,eq_of_beq w.2,by refine aQ z.2 (aX (ho) (gS Y2q ?_));rfl⟩
 ·exact Dh.mpr ⟨og YAl,beq_iff_eq.mpr Z4⟩
 ·refine ZBe;rfl
open Classical in
noncomputable def mz (kv:Y6i) (l:ZC):ZC:=if h:Ysy then h.choose else[]
theorem qQ(af:YON):(l.map kv).Nodup↔l.Nodup:=by
 exact aL ZXH (aL ZXH (aj (propext G7) (⟨λh=>h.imp λq e=>q (congrArg kv e),λh=>h.imp λq e=>q (af _ _ e)⟩)))
theorem WE(af:YON){us:ZC}(C:m5 Y7u)(n:us.Nodup)(h:YZC)(r:ZSB):YVv=us:=by
 have aq:Ysy:=⟨us,n,h,r⟩
 have z:=aq.choose_spec;refine aj (dif_pos aq:YVv=aq.choose) ?_;have m:∀{l1 l2:ZC},(∀v,v∈l1↔v∈l2)→∀v,v∈l1.map kv↔v∈l2.map kv:=λh v=>by
  exact aL YoD (aj YoD (⟨λq=>q.imp λa w=>⟨(h a).mp w.1,w.2⟩,λq=>q.imp λa w=>⟨(h a).mpr w.1,w.2⟩⟩))
 exact K0 af (VK (C.sub λv aO=>(m h v).mp aO) (YyW z.1) (YyW n) (m λv=>(Z4 v).trans (h v).symm) Z3 r)
theorem WG{L:ZC}(h:∀v,Y9d→v∈Ydk):∃ns:ZC,us=ns.map kv:=by
 induction us with
 |nil=>exact YZG
 |cons v us ai=>exact YvV λns e=>(ee ZPt).elim λx z=>⟨x::ns,by refine aX e (eT z.2 ?_);rfl⟩
theorem F5(af:YON){x:α}:Y3v∈Y7u↔x∈l:=⟨λh=>Ywx λO z=>af _ _ z.2▸z.1,λh=>kp ⟨x,h,rfl⟩⟩
theorem arK{A:b9}{S:bu}(K:YN)(F:YZ)(H:Y22)(D:Y2r)(az:Y2k)(aD:YS5)(h:∀p aW,aW p=some (0,Y5 ((mz bO ZR5).map bO))→Y8q→Q Y0V aW):aU g (k+4) 595 YfD mh Q:=by
 have dn:YRa:=Y07;refine Y02;intro gb gc gd;refine cZ (d6 (tE (jS rfl H.1 (e5 rfl (aqX K F H.1 H.3 Y07 aD λp m1 L ar bZ w8 f1=>⟨_,_,ar,?_⟩)))));have lt:∀i∈L,Y2J:=λi af=>(YzT af).1;refine comp_map Y8o Zki ZjX (aj YF (au Z32 (nX dn))) (λO hm=>⟨0,hm.go ar⟩) Yy (λv aO acc m gr oP hm pM=>?_) λm hm=>λb ah=>⟨0,_,_,Yc,?_,λus un LD arL cO fK=>⟨0,h cO _ ?_ ((YxA Y11).trans ZB5)⟩⟩
 ·refine Y9q Zj6
  (rw[w.2]at pM;refine YGM)
  refine YM;obtain⟨x,aq⟩:Yt1:=⟨_,dy (lt i w.1)⟩
  refine Yb;have hK:=(H.no f1).no hm;refine my (jS rfl hK.1 (e5 rfl (V2 K F hK.1 hK.2 hK.3 dn dn aq (pO D aq) Z3S.2.1 λab f2=>⟨oP,?_⟩)));have e:Z7U=x:=by refine aj (ho) (aT aq ?_);rfl
  exact aV e (pM ab ZQt)
 ·have e:YvA:=ZIE
  refine aL e (⟨by refine Ygx;exact au Z32 Y07,WD λx aq=>Yww Ys1,YJ (YJ λO aO=>Y9l λx z=>z.2▸w5 x)⟩);obtain⟨x,aq⟩:Yt1:=Zn4
  (refine k7 z.2 (aa (ho) ZCx))
  exact Z3S.1
 ·have ge:∀y∈ZR5,hN y.1=true:=λy bb=>(qP.mp bb).elim λi z=>z.elim λx z=>by exact dU Z3 ((D.3 i x z.1).1)
  have e:YvA:=ZIE
  rw[e]at LD;obtain⟨ns,rfl⟩:=WG λv aO=>(LD v).mp aO;rw[WE Y4W (WD ge) ((qQ Y4W).mp un) YsW arL];exact Yc;rw[←F5 Y4W,LD,F5 Y4W,qP,z7];refine⟨λq=>q.elim Ys1,λq=>q.elim λi z=>z.elim λx z=>⟨i,(w8 i).mpr ⟨YAl,Z4⟩,?_⟩⟩
  ·obtain⟨x,aq⟩:Yt1:=Zn4
   exact⟨i,x,aq,(YzT z.1).2,by refine aQ z.2 (aX (ho) (gS aq ?_));rfl⟩
  ·refine ZBe;rfl
def nk(p:cE):Bool:=p.casesOn Y2A Y1k Y0P Y1j
variable{p:cE}
theorem zw(K:YN)(F:YZ)(ar:Y3s)(h:Q (YK (nk p)) mh):aU g (k+1) 86 [Zl] mh Q:=by
 refine gJ ZT K rfl Y2 Yij
 cases p with
 |v n=>
  rcases gG ar with q | q <;> · exact aa Y1e (⟨Y7l,rfl,Y7l,_,rfl,2,rfl,rfl,h⟩)
 |c o=>exact(VL ar).elim λj z=>⟨Y7l,rfl,Y7l,_,rfl,j,z.1,rfl,(ic λe=>z.2 YAH:ZFx).symm▸h⟩
 |u o a=>exact⟨fp 2 999999,rfl,h⟩
 |b o a b=>exact⟨fp 3 999998,rfl,h⟩
abbrev Tab:=YCK
noncomputable abbrev ir (t:Tab):dm:=dW V.str t
abbrev TabAt(m:ag)(a:Nat)(t:Tab):Y1:=m a=some YIs
def jC(m:ag)(acc:Y3)(ts:Y0S):Y1:=List.rec (motive:=λO=>Y7F) (λacc=>YSR) (λt O ai acc=>∃a r,acc=YA::r∧Z8H∧Y6E) ts acc
variable{ts:Y0S}
theorem jC.dq{p:Z9}(f:YFo)(ar:YWP){acc:Y3}(h:YVK):jC ab acc ts:=by
 induction ts generalizing acc with
 |nil=>exact h
 |cons t ts ai=>exact h.imp λa z=>z.imp λr z=>⟨z.1,f _ _ Z4 ar,Ygw⟩
theorem jC.app{acc pR:Y3}{WH:Y0S}(h:YVK)(av:jC m pR WH):jC m ZDe (ts++WH):=by
 induction ts generalizing acc with
 |nil=>exact aT ZZd av
 |cons t ts ai=>exact h.imp λa z=>z.elim λr z=>⟨r++pR,ZHs,Z4,Ygw⟩
theorem jC.len{acc:Y3}(h:YVK):acc.length=ts.length:=by
 induction ts generalizing acc with
 |nil=>rw[ZZd];rfl
 |cons t ts ai=>exact h.elim λa z=>z.elim λr z=>aX z.1 (congrArg Y3m Ygw)
theorem jC.one{t:Tab}(h:Z8H):jC m Y8l [t]:=⟨a,[],rfl,h,rfl⟩
def qR(nod:YeD)(o n:Nat)(F:YRi)(t:Tab)(c:Nat):Y0S:=(nod c).flatMap λx=>cond YqT Z41 []
def kB(arM:List Yex):YV→Y0S→Y0S:=arM.rec (λO ts=>ts) λf O ai aZ ts=>aZ.casesOn ts λk aZ=>ai aZ (ts.flatMap λt=>f t k)
def fk(nod:YeD)(p:cE):Yex:=p.rec (λn t c=>YJR YRx YsS) (λo t c=>qR nod o 0 YOJ t c)
 (λo O A t c=>qR nod o 1 (λt aZ=>kB [A] aZ [t]) t c) λo O O A B t c=>qR nod o 2 (λt aZ=>kB [A,B] aZ [t]) t c
def dep(p:cE):Nat:=p.rec Y8A Y5n ZgO λO O O a b=>YfY
def vars(p:cE):Nat:=p.rec Y5n Y8A ZgN λO O O a b=>a+b
theorem arN{L:Tab}{n w:Nat}(h:L.lookup n=YpO):ZMA=ir L:=by
 induction L with
 |nil=>exact Y08
 |cons p L ai=>
  have e:eE (ir Yo3) ZM Y3E=cond (b8 YQG ZM) ((YQG,Y3E)::ir L) ((YQG,Y7Y)::ZMA):=rfl;replace h:=YFs;by_cases q:p.1=n
  ·replace h:=Ykx
   (refine ZEW);rfl
  ·replace h:=Ykw;refine aj e (dT (ic λh=>q Z8S) YjI);rfl
theorem xk{cl:Calls}{f:Nat}{es:Yv}{Q:Y0i}(h:Y2d r m λvs aH=>cl f vs aH Y9L):ZGG.2 r m Q:=h
theorem forL{cl:Calls}{e:E}{b s:Mine.Internal.S}{t:dY}(h:Zd r m λv ab=>lst v ab λp O l=>∃P:Y2j,Z6V∧(∀r m,Y69→YWO∧Y4E)∧∀v vs r m,Y7H→YWO∧ZS9):a6 cl (Y0A hb [e] t b s) r m Qn Qr:=h
theorem WI{cl:Calls}{e:E}{b s:Mine.Internal.S}{t:dY}(h:Zd r m λv ab=>v.eM False λl=>∃P:Y2j,Z6V∧Yzm):a6 cl (Y0A iK [e] t b s) r m Qn Qr:=h
theorem arO{cl:Calls}{aJ aC:E}{b s:Mine.Internal.S}{t:dY}(h:Yvb r m λv ab=>Yva r ab λu aH=>v.eM False λl=>u.eM False λl'=>l'.length=l.length∧Ymj∧l'.all sO=true∧∃P:Y2j,P ZYD r aH∧Zm2∧∀v vs r m,Y7H→YH3∧j3 t true v r YIe):a6 cl (Y0A Qj [aJ,aC] t b s) r m Qn Qr:=h
theorem LF{b:Bool}{x y:α}{P:YIU}(ak:Y6G→P x)(av:YhQ→P y):P (cond b x y):=by
 cases b with
 |true=>exact ak rfl
 |false=>exact av rfl
noncomputable abbrev hk (S:bu) (c:Nat):Yd:=ZVA
abbrev xl(mh:ag)(w:Nat)(A:b9)(S:bu):Y1:=hR (∃t,mh w=some (t,ZD 236 YKY)) Y22
theorem xl.no{w:Nat}{A:b9}{S:bu}(W:YNj)(F:Y8q):xl aW w A S:=⟨W.1.imp λO z=>F _ _ z rfl,W.2.no F⟩
abbrev n5(g:G)(k:Nat)(A:b9)(S:bu)(w:Nat)(p:cE):Y1:=∀{mh:ag}{Q:Yj}{a c:Nat}{t:Tab},YNj→Y7J→ZbM≤100→Y2o→YKM→(∀b tg aW acc,YCc=Zad→jC aW acc ZOZ→Y7M)→aU g k 221 [Y65,YA,Y3Z,Zl] mh Q
theorem WJ{A:b9}{S:bu}(K:YN)(F:YZ){w n:Nat}(ar:ZPY):n5 g (k+2) A S w Y0r:=λ{mh Q a c t}W aD bq ao hf h=>by
 have BV:(ir t).length≤1000000:=by delta ir dW;refine Y2I;exact au (au Yk bq) Y2
 have WK:∀a b:Nat,V.str a=V.str b→a=b:=YrS;refine Y02;intro gb gc gd;refine el ⟨Y7l,_,rfl,ZN1⟩;show a6 _ Uu [Y6b,Y05,Y58,YXI,YXF,none,none,none,none,none,none] mh _ _;refine Yt;intro WL;refine el (d6 (bc rfl ⟨_,_,_,aD,rfl,kn BV,λb ah=>⟨0,tq ⟨_,_,_,Yc,rfl,BV,?_⟩⟩⟩));refine d9 YNe ?_;have f1:aB no mh (upd mh b (0,Y9 1 (eE Y6T ZM Y3Z))):=Y11;have a1:=f1.go aD rfl;refine Yt;intro arP;refine cZ ⟨⟨_,_,_,a1⟩,_,_,_,a1,rfl,?_⟩;rw[(qK WK:YiN)]
 cases q:Y9c with
 |none=>
  have aJ:ZOY=YRx:=ZIJ
  rw[aJ]at h;refine⟨rfl,lS (iI Y3Z) ZiQ⟩;exact aj Y6J (aa (zi WK q) rfl)
 |some u=>
  have aJ:ZOY=cond (u==c) [t] []:=ZIJ
  rw[aJ]at h;by_cases e:u=c
  ·rw[e,beq_self_eq_true]at h;rw[e]at q;refine⟨rfl,lS (YJL (beq_iff_eq.mpr e)) ZiQ⟩;exact aj Y6J (aa (arN q) rfl)
  ·rw[Yhs]at h;exact⟨rfl,iP (YJL Yhs) λe2 d7=>⟨0,h e2 0 _ [] Yc rfl ZO2⟩⟩
theorem WM(a b:V)(l l':Y3):qr ZAu (b::l')=Ycd::ZYD:=by
 unfold qr;rw[g5,List.range_succ_eq_map,mF,kJ];rfl
theorem WN{cl:Calls}{aJ aC:E}{own:Nat}{t1 cy:dY}{elt:E}(h:Yvb r m λv ab=>lst v ab λa O l=>∃P:Y1O,YeN∧jz P YHW Y8B (I1 t1 false cy hb Ywo YM2 YEZ)):(bH cl (.sX hb [aJ] t1 hb [aC] cy own caps elt)).1 r m Q:=h
theorem WO{cl:Calls}{aC elt:E}{x:V}{N:Ys}(h:Yva YMv m λu m1=>lst u m1 λa O l=>∃P:Y1O,P l acc m1∧jz P YHW N λy acc m N=>YEZ YPH m Ysa):I1 YJh false (Y1L j) hb Ywo r YEZ x acc m N:=h
theorem WQ(l:Y3):l.flatMap Zkg=l:=by
 induction l with
 |nil=>rfl
 |cons a l ai=>rw[uf,ai];rfl
theorem LG(a:α)(l:ZC)(f:YrI):(a::l).flatMap f=f a++l.flatMap f:=uf
variable{tg:Nat}
theorem arQ{A:b9}{S:bu}{w b c:Nat}{q:cE}(kY:n5 g k A S w q)(W:YNj)(bo:Y5Y=Y6b)(lE:YiZ=Y6a)(qc:YTN=Y58)(OB:cI r 10=YXJ)(ah:Y6V=Zad)(R:jC mh acc ts)(aE:∀t∈ts,t.length+vars q≤100)(ao:Y2o)(hf:YKM)(hlen:(ts.flatMap YsN).length≤1000000)(h:∀kO aW gC,aW kO=some (0,Y5 gC)→jC aW gC (ts.flatMap YsN)→Y8q→Q (Y0 kO) aW):
  (bH ZH Z25).1 r mh Q:=by
 have fx:YEl=Y6b:=bo;have Lq:Yyj=Y58:=qc;have arR:Yyg=YXJ:=OB;have fB:inR 2 Z9g r=[none,none,Y6b,Y58,YXJ]:=by
  show[none,none,YEl,Yyj,Yyg]=_;exact aa fx (aa Lq (aa arR rfl))
 refine WN (bc lE ⟨_,_,ah,aa fB (⟨λvs out m=>∃done rest,ts=ZLd∧jC m vs rest∧jC m out (done.flatMap YsN)∧Y7N,⟨[],ts,rfl,R,rfl,Yy⟩,λout m z=>?_,λv vs out m z=>?_⟩)⟩)
 ·refine YM;obtain⟨done,rest,e,qS,oT,f1⟩:=z;refine ax (⟨Znc,λkO r1=>⟨0,h kO _ out Yc ?_ (f1.trans (aB.new r1))⟩⟩);replace e:=bL Y1U (fU (p5 qS.len.symm:Yoe) e);exact bW e (oT.dq (aB.new (p:=no) r1) rfl)
 ·refine YM;obtain⟨done,rest,e,qS,oT,f1⟩:=z;refine ax (⟨Znc,?_⟩)
  cases rest with
  |nil=>exact absurd (qS:Y0O=[]) Y03
  |cons t1 rest=>
   refine YM;obtain⟨a1,fX,ev,k8,LH⟩:=qS;refine Yb;have ev:=g4 ev;refine cb ev.1 YM;obtain⟨pS,hw⟩:=Yf7.1;refine ax (WO (jS rfl hw (F3 rfl rfl rfl (kY Yf7 k8 (aE t1 (Y1o:t1∈ts)) ao hf λe2 arS aH pR d7 WR f2=>⟨_,_,d7,zh pR Zkg out Ys8 ?_ (λO hm=>⟨arS,ZCO⟩) rfl ZkY YET⟩))))
   ·refine dU Z8t (aj cj (aT oT.len (aX WR.len (aQ cj ?_))));replace hlen:=aQ cj (aX Y0k (k7 Ydm (bN rg (k7 e hlen))));exact au Yk hlen
   ·subst hm;exact bc rfl ⟨ZEt,ZJk⟩
   ·subst hm;refine aa Z8t (⟨done++[t1],rest,Yi6,aa ev.2 (jC.dq f2 rfl LH),?_,Y7k⟩);exact aL rg (bW Ydm (fH Dt (bW Y1U ((oT.dq f2 rfl).app WR))))
def oU(p:cE):Nat:=p.rec Y5n (λO=>13*1) (λO O a=>13*a) λO O O a b=>13*(a*b)
def F6(pl:Y2D):Nat:=pl.rec 1 λp O b=>oU p*b
theorem Cf(p:cE):1≤oU p:=by
 induction p with
 |v n=>exact YW
 |c o=>exact(Y2:1≤13*1)
 |u o a ai=>exact Hx Y2 ai
 |b o a b eh eQ=>exact Hx Y2 (Hx eh eQ)
theorem arT(pl:Y2D):1≤F6 pl:=by
 induction pl with
 |nil=>exact YW
 |cons p pl ai=>exact Hx (Cf p) ai
theorem xm{f:YrI}{m:Nat}(h:∀a∈l,Yx7):Yxu:=by
 induction l with
 |nil=>exact Z0
 |cons a l ai=>
  rw[uf,cj,g5,wb,gi];exact gR ZE5 YGo
variable{nod:YeD}
theorem LI{o n m c:Nat}{t:Tab}{F:YRi}(az:Zlj)(h:∀x,(F t x).length≤m):(qR nod o n F t c).length≤13*m:=
 au (xm λx O=>LF (P:=λl:Y0S=>l.length≤m) (λO=>h x.2) ZhC) (mI _ (az c))
theorem WS(az:Zlj)(p:cE):∀t c,(fk nod p t c).length≤oU p:=by
 induction p with
 |v n=>
  intro t c;show(YJR YRx YsS).length≤1
  cases Y9c with
  |none=>exact YW
  |some w=>exact LF (P:=λl:Y0S=>l.length≤1) (λO=>YW) ZhC
 |c o=>exact λt c=>LI (m:=1) (F:=YOJ) az λx=>bV 1
 |u o a ai=>
  refine λt c=>LI (m:=oU a) (F:=ZkP) az YsW;show(kB [YkX] x [t]).length≤oU a
  cases x with
  |nil=>exact Cf a
  |cons k aZ=>exact au (xm (m:=oU a) λt O=>ai t k) ZKm
 |b o a b eh eQ=>
  refine λt c=>LI (m:=ZWD) (F:=ZkO) az YsW;show(kB Z9s x [t]).length≤ZWD
  cases x with
  |nil=>exact Hx (Cf a) Z3L
  |cons k aZ=>
   have ak:=au (xm (l:=[t]) (f:=YsO) λt O=>eh t k) ZKm
   cases aZ with
   |nil=>exact au ak (acz _ Z3L)
   |cons du aZ=>exact au (xm λt O=>eQ t du) (mI _ ak)
theorem arU(q:cE):sO Y8x=true:=by cases q <;> rfl
theorem arV(pl:Y2D):(pl.map bB).all sO=true:=by
 induction pl with
 |nil=>rfl
 |cons q pl ai=>exact lF ⟨arU q,ai⟩
theorem Cg(pl:Y2D):hv YoA=true:=by
 cases pl with
 |nil=>rfl
 |cons q pl=>cases q <;> rfl
def WT(pl:Y2D):Nat:=pl.rec 0 λp O n=>YI8+n
theorem arW(p:cE):∀t c,∀dg∈fk nod p t c,dg.length≤ZbM:=by
 have K:∀{o n c:Nat}{t:Tab}{F:YRi}{m:Nat},(∀x:a8,∀dg∈Z41,ZLT)→∀dg∈ZXu,ZLT:=λ{o n c t F m}h dg bq=>(rj bq).elim λx z=>by
  cases q:YqT with
  |true=>replace z:=YQg;exact h x dg z.2
  |false=>replace z:=YQg;exact ZDa
 induction p with
 |v n=>
  intro t c dg bq;have bq:dg∈YJR YRx YsS:=bq
  cases q:Y9c with
  |none=>replace bq:=pf q bq;exact aX YL4 ZEV
  |some w=>
   replace bq:=pf q bq
   cases e:w==c with
   |true=>have bq:ZLV:=bq;replace bq:=pf e bq;exact aX YL4 Y1I
   |false=>have bq:ZLV:=bq;replace bq:=pf e bq;exact absurd bq cS
 |c o=>exact λt c=>K (F:=YOJ) λx dg bq=>aX YL4 YW
 |u o a ai=>
  refine λt c=>K (m:=vars a) (F:=ZkP) Zku;generalize x.2=l at bq
  cases l with
  |nil=>exact ZCV
  |cons k aZ=>exact Yyo λt1 z=>ai t k dg ZGh
 |b o a b eh eQ=>
  refine λt c=>K (m:=vars a+vars b) (F:=ZkO) Zku;generalize x.2=l at bq
  cases l with
  |nil=>exact ZCV
  |cons k aZ=>cases aZ with
   |nil=>exact Yyo λt1 z=>au (eh t k dg ZGh) ZIe
   |cons du aZ=>
    exact(rj (bq:dg∈(ZA3 YsO).flatMap λt=>fk nod b t du)).elim λt1 z=>(rj z.1).elim λcy w=>au (eQ t1 du dg z.2) (au (h7 (eh t k t1 (bR w.1▸w.2)) _) ZKn)
theorem arX{S:bu}(D:Y2r){c:Nat}{x:a8}(aq:YYB)(C:Y6Q=ZVA)(h:∀v,v∈Y6Q↔v∈YV8):(∀j∈x.2,ZSC)∧YIH:=(qP.mp ((h x).mp aq)).elim λi z=>z.elim λy z=>by
 exact aa Z3 (⟨λj aM=>Ywv,by show(Yqq S.f).length≤2;exact aj YF ((D.3 i y z.1).2.1)⟩)
abbrev WU(S:bu):Y1:=hR (∀c x,YYB↔x∈YV8) (∀c,(hk S c).length≤13)
def tG(S:bu)(o:Nat)(pl:Y2D)(t:Tab)(x:a8):Y0S:=cond ZeX ZT1 []
abbrev arY(mh:ag)(L:Yd)(F:YS2)(w a c o ff cO:Nat)(jD:V)(vs:Y3)(r:bG)(m:ag)(P:Y1):Y1:=∀(done rest:Yd)(acc:Y3)(x0 c6 cT eY:Yp),L=ZLd→vs=rest.map bO→ZUJ→jC m acc (done.flatMap F)→Y7N→ZUH→r=[Y6b,Y05,Y58,some jD,YHn,none,YN9,x0,c6,cT,eY]→P
abbrev WV(mh:ag)(L:Yd)(F:YS2)(w a c o ff cO:Nat)(jD:V)(vs:Y3)(r:bG)(m:ag):Y1:=∀P:Y1,arY mh L F w a c o ff cO jD vs r m P→P
abbrev arZ(S:bu)(mh:ag)(L D:Yd)(F:YS2)(X:Y0S)(pl:Y2D)(acc:Y3)(w a c o ff cO:Nat)(jD LJ:V)(Ci:Y3)(r:bG)(m:ag)(P:Y1):Y1:=∀(ly:Y2D)(aZ:YV)(ts:Y0S)(b tg:Nat)(pR:Y3)(eg d1:Yp),Ci=qr Y4m ZUD→(∀q∈ly,q∈pl)→aZ.length=ly.length→(∀j∈aZ,ZSC)→kB (ly.map ZOX) aZ ts=X→(∀dg∈ts,dg.length+WT ly≤100)→ts.length*F6 ly≤1000→m b=some (tg,Y5 pR)→jC m pR ts→ZUJ→jC m acc (D.flatMap F)→Y7N→ZUH→r=[Y6b,Y05,Y58,some jD,YHn,none,YN9,some LJ,Y6a,eg,d1]→P
abbrev ar0(S:bu)(mh:ag)(L D:Yd)(F:YS2)(X:Y0S)(pl:Y2D)(acc:Y3)(w a c o ff cO:Nat)(jD LJ:V)(Ci:Y3)(r:bG)(m:ag):Y1:=∀P:Y1,arZ S mh L D F X pl acc w a c o ff cO jD LJ Ci r m P→P
theorem Cj{g:G}{k:Nat}{A:b9}{S:bu}{pend:YV}(K:YN)(F:YZ)(D:Y2r)(az:Y2k)(LK:WU S){w o:Nat}{pl:Y2D}{p:cE}(kC:Zl=YCA)(ar:Y3s)(aO:ZVm)(wM:pl.length≤2)(ah:F6 pl≤1000)(n6:oU p≤400000)(E0:YI8=WT pl)(jO:∀t c,ZOZ=qR Y2s o pl.length ZkN t c)(kY:∀q∈pl,n5 g (k+6) A S w q):n5 g (k+7) A S w p:=λ{mh Q a c t}W aD bq ar1 hf h=>by
 obtain⟨pS,hw⟩:=W.1;have aP:Yv4≤1000001:=aj g5 (aT YF (au (dX wM) Y2))
 suffices key:∀jD,jD=Zl→aU g (k+7) 221 [Y65,YA,Y3Z,jD] mh Q from ZTJ
 intro jD Ck;have LL:=Z3M;subst LL;have ao:∀{Q':Yj}{m:ag},Z78→aU g (k+6) 86 [YCA] m Q':=λ{Q' m}h=>by
  exact jL Ck Zfk
 refine Y02;intro gb gc gd;refine el ⟨aP,_,rfl,ZMz⟩;show a6 (aU g (k+6)) Uv [Y6b,Y05,Y58,Za5,YHn,none,none,none,none,none,none] mh _ _;refine Yt;intro arP;refine el λff WW=>Zml
 have f1:aB no mh Zcg:=aB.new WW;have ke:=bw mh ff Y4Y;generalize Zcg=m1 at f1 ke ⊢;have W1:=Yf7;refine nj rfl ZNw rfl W1.2.1 (e5 rfl (arK K F W1.2 D az ar1 λcO aH fK f2=>?_));rw[hf]at fK;have ei:(qR Y2s o pl.length ZkN t c).length≤500000:=by
  exact bN ZSK (au (WS LK.2 p t c) (au n6 Y2))
 refine⟨_,_,fK,WV mh Y6Q YHu w a c o ff cO YCA,
  (λO bA=>bA ([]) Y6Q ([]) none none none none rfl rfl (f2 _ _ ke rfl) rfl Y7k fK rfl),Y3k,Zkb⟩
 ·refine ZHX;subst LM;refine Yb;have fB:Yoe:=Z3Y;replace aJ:=ZGP;refine⟨Zmj,cZ (bc rfl (h ff 8 m acc ke (aL ZSK ?_) cz))⟩;dsimp only [qR];exact bW aJ R
 ·refine ZHX;subst LM;refine ax (⟨Zmj,?_⟩)
  cases rest with
  |nil=>exact ZDS
  |cons x rest=>
  have aC:=g4 aC;refine d9 YAM ?_;have WX:=arX D (ZCv:YYB) rfl (LK.1 c);have vl:Yv5≤1000001:=aj g5 (aT YF (au (dX WX.2) Y2));have c1:Y6Q=ZLc++rest:=ZHx
  have skip:∀(ab:ag)(gC:Y3),ab ff=some (8,Y5 gC)→jC ab gC Ywi→Y0G→ab cO=some (0,Y5 (YxN bO))→∀x0 c6 cT eY:Yp,WV mh Y6Q YHu w a c o ff cO YCA vs [Y6b,Y05,Y58,Za5,YHn,none,YN9,x0,c6,cT,eY] ab:=
   λab gC ak av aP da x0 c6 cT eY=>(λO bA=>bA ZLc rest gC x0 c6 cT eY c1 YAN ak av aP da rfl)
  have eA:∀l,tG S o pl t x=l→Ywi=done.flatMap YHu++l:=λl e=>aj rg (aX Ydm (dU Dt (aX Y1U Yit)));refine t1 (en ⟨vl,_,rfl,rfl,?_⟩);by_cases il:x.1=o
  ·refine lS (show b8 YC9 ZE=true by exact gT il (iI _)) ⟨vl,aP,rfl,?_⟩;have kd:b8 (V.int ((Yv5:Nat):Int)) (V.int ((Yv4:Nat):Int))=YqY:=by
    exact aa g5 (aa YF (aa g5 (aa YF (YJL Z5s))))
   by_cases ck:Y3Q=pl.length
   ·refine lS (kd.trans (beq_iff_eq.mpr ck)) (el Zhz);have fn:aB no m ZcI:=Y8r;have Cm:=bw m b0 Ytz;have WY:=R.dq fn rfl;have k8:=fn _ _ (cz _ _ aD rfl) rfl;have WZ:=fn _ _ ke rfl;have W0:=fn _ _ zx rfl;have f0:=cz.trans fn;generalize ZcI=m0 at Cm WY k8 WZ W0 f0 ⊢;refine arO (d6 (bc rfl ⟨Y1X,vl,qJ _,d6 (bc rfl ⟨Y1X,aP,Cg pl,by show(pl.map bB).length=(a4 x.2).length;exact aL YF (aj YF (ck.symm)),K1 _,arV pl,?_⟩)⟩));refine⟨ar0 S mh Y6Q done YHu ZT1 pl acc w a c o ff cO YCA Y4s,
     (λO bA=>bA pl x.2 ([t]) b0 0 Y8l cT eY rfl Y89 ck WX.1 rfl (λO Cn=>gT (bR Cn) (bN E0 bq)) (aT sx (aj (NJ ..) ah)) Cm (Y1L k8) WZ WY f0 W0 rfl),ZkF,λv Ci r m z=>YZS⟩
    ·refine bp λax=>z _ λly aZ ts b tg pR eg d1 kZ O qL O Co O O d7 oT r2 qS f4 LN LO=>?_;subst LO;refine Yb;have i5:aZ=[]:=by
      cases aZ with
      |nil=>rfl
      |cons k aZ=>cases ly with
       |nil=>exact absurd qL Y7s
       |cons q ly=>
        have kZ:[]=qr (ay k::Y4m) ZGB:=kZ;replace kZ:=ZGL;exact absurd kZ.symm Y03
     have eq:ly=[]:=p5 (by rw[←qL,i5];rfl);replace Co:=Av eq (eT i5 Co);have Bn:=eA _ (LF (b:=ZeX) (P:=λl=>l=ts) (λO=>Co.symm) λaF=>by replace aF:=eT Y3G (bN Y3G (yj ck (OR il aF)));exact nb aF);have gY:acc.length+pR.length≤1000000:=by
      refine aT qS.len (aX oT.len (aQ cj (bN Bn ?_)));dsimp only [qR]at ei;replace ei:=aQ cj (bN rg (k7 c1 ei));exact au (au Yk ei) Y2
     refine Yt;intro aq7;refine hO (mx (bc rfl ⟨⟨8,acc,r2⟩,e5 rfl ⟨_,_,r2,_,_,d7,gY,f9 (f9 (skip _ _ Yc ?_ ?_ (cg r2 LN) Yp6 _ eg d1))⟩⟩))
     ·refine aL Bn ?_;have fr:aB (λt=>t==8) m (upd m ff (8,Y5 ZDe)):=aB.at r2 rfl;exact(qS.dq fr rfl).app (oT.dq fr rfl)
     ·intro kO o' zy _;exact aj (dE (λq=>by replace zy:=aQ WW (bN q zy);exact cW zy.symm)) (f4 _ _ zy rfl)
    ·refine bp λax=>z _ λly aZ ts b tg pR eg d1 kZ W2 qL W3 Co W4 ar2 d7 oT r2 qS f4 LN LO=>?_;subst LO;refine Yb
     cases ly with
     |nil=>
      have i5:aZ=[]:=p5 qL;replace kZ:=OO i5 kZ;exact absurd kZ Y03
     |cons q ly=>cases aZ with
      |nil=>exact absurd qL.symm Y7s
      |cons dC aZ=>
       have kZ:v::Ci=qr (ay dC::Y4m) ZGB:=kZ;replace kZ:=ZGL;have kZ:=g4 kZ;refine d9 kZ.1 ?_;have aF:=W2 q b3;have W5:=W3 dC b3;have l1:(ts.flatMap λt=>fk Y2s q t dC).length≤Zbf:=xm λt O=>WS LK.2 q t dC;have l2:Zbf*F6 ly≤1000:=aj Ycs ar2;exact cy (FR (arQ (kY q aF) (W.no f4) rfl rfl rfl rfl d7 oT (λdg Cn=>au ZIe (W4 dg Cn)) W5.1 W5.2 (au l1 (au (acz _ (arT ly)) YSc)) λkO O gC r1 sE gL=>f9 (λO bA=>bA ly aZ _ kO 0 gC (some (ay dC)) YXJ kZ.2 (λq h=>W2 q (eI _ h)) (oc qL) (λj aM=>W3 j ZMS) Co (λdg Cn=>(rj Cn).elim λt1 z=>au (h7 (arW q t1 dC dg z.2) _) (au ZKn (W4 t1 z.1))) (au (mI _ l1) l2) r1 sE (gL _ _ r2 rfl) (qS.dq gL rfl) (f4.trans gL) (gL _ _ LN rfl) rfl)))
   ·refine iP (kd.trans ZHD) (f9 (f9 (skip m acc ke (aL (eA [] (by unfold tG;refine OT ZHD (dT Ygb ?_);rfl)) ZBW) cz zx Yp6 c6 cT eY)));exact R
  ·refine iP (ic λe=>il YAH) (iP (b:=false) rfl (f9 (f9 (skip m acc ke (aL (eA [] (by unfold tG;refine wi (beq_false_of_ne il) ?_;rfl)) ZBW) cz zx Yp6 c6 cT eY))));exact R
theorem k0(L:ZC)(kv:Y6i)(Inv:ZC→Y5V){cl:Calls}{t:dY}{w:Bool}{b s:S}(h0:Inv [] r m)(az:∀d r m,YdS→Y3K)(step:∀d x rest,L=YCw→∀r m,YdS→∀K:hg,(∀dv aH,Inv YAc dv aH→K dv aH)→j3 t w Y3v r λb6=>a6 cl b b6 m K Qr)(fin:∀r m,Inv L r m→Y4E):
  ∃P:Y2j,P Ydk r m∧Zm4∧∀v vs r m,Y7H→Y3K∧j3 t w v r YIe:=
 ⟨λvs r m=>∃d rest,L=YLN∧ZdN∧YdS,Zms,λr m z=>z.elim λd z=>z.elim λrest z=>⟨ZFg,fin r m (by
  have e:=z.1;replace e:=ZGO;exact ZD6)⟩,λv vs r m z=>z.elim λd z=>z.elim λrest z=>⟨ZFg,by
  cases rest with
  |nil=>exact ZDb
  |cons x rest=>
   have e:=g4 Z4;exact d9 e.1 (step d x rest z.1 r m Z3 _ λdv aH h=>ZnI)⟩⟩
inductive LP(p:Z61)(X:Y1)(r:bG):Y1
 |mk (h:X) (x0 c6 cT eY:Yp) (e:r=p x0 c6 cT eY)
inductive ar3(p:Yp→Yp→Z61)(X:Y1)(r:bG):Y1
 |mk (h:X) (x0 c6 cT eY fl e0:Yp) (e:r=p x0 c6 cT eY fl e0)
def gF(p:Y0j):V:=YD [YQG,Y7Y]
def dr(t:Tab):V:=YD Y5l
def jE(t:Tab):Y1:=∃x,t=YAJ∨∃y,t=YfC
theorem ar4{a b:Y0j}(h:Ykj=Ykk):a=b:=by
 have h:=g4 Yf3;exact iF Z8T (nW (g4 h.2).1)
theorem zz{a b:Tab}(h:YGV=YjS):a=b:=K0 (λO O=>ar4) Yf3
theorem LQ(t:Tab):YxX=Y5l:=kJ
theorem jE.one{P:Tab→Y1}{t:Tab}(h:Y3u)(ak:∀x,P YAJ)(av:∀x y,P YfC):P t:=h.elim λx z=>z.elim (λe=>aa e (ak x)) λz=>z.elim λy e=>aa e (av x y)
theorem W6(a b:Y0j):ZUP=true:=lF ⟨rfl,by
 show cond ZFw (mq [ay a.2] [ay b.2]) true=true
 cases ZFw with
 |false=>rfl
 |true=>exact WC [a.2] [b.2]⟩
theorem W7(l l':Tab):ZV3=true:=by
 induction l generalizing l' with
 |nil=>rfl
 |cons a l ai=>cases l' with
  |nil=>rfl
  |cons b l'=>
   refine lF Y42;show cond ZG5 ZV3 ZUP=true;refine aT Ygt (aX (W6 ..) ?_);cases ZG5 <;> rfl
theorem jE.cmp{t:Tab}(h:Y3u):m5 Y5l:=⟨λa aD b ah=>Y8N λx z=>YOq λy w=>z.2▸w.2▸W6 x y,
 h.one (P:=λt=>∀a∈Y5l,YpU) (λO O aD=>Yhd▸rfl) λO O O aD=>Ywl Yrp λh=>Y1T▸rfl⟩
theorem ar5:eF (Y4 4) YFA=false:=ZL
theorem jE.ar6{t:Tab}(h:Y3u):j9 Y5l:=h.one (P:=λt=>j9 Y5l) (λO=>YRH) λx y=>Dx ⟨λa aD=>by refine aT Yhd ?_;exact ar5,YRH⟩
theorem W8{t:Tab}(h:Y3u)(q:∀p,m p=none→Q Y0V (upd m p (0,Y5 Y5l))):wW YxX m Q:=by
 exact d9 (LQ ..) (⟨⟨h.one (P:=λt=>YBr<64) (λO=>(Y2:1<64)) λO O=>(Y2:2<64),h.cmp,h.one (P:=λt=>∀a∈Y5l,ZKr) (λO O aD=>Yhd▸YtH) λO O O aD=>Ywl (λe=>e▸YtH) λh=>Y1T▸YtH⟩,λO pl hM p ar=>⟨0,aa (JX h.cmp pl hM h.ar6) (q p ar)⟩⟩)
theorem ar7{t:Tab}(h:Y3u):ZPE:=h.one (P:=λt=>ZPE) Zf Y29
theorem W9{l:Y0S}(h:∀t∈l,Y3u):m5 (l.map dr):=⟨λa aD b ah=>Y8N λx z=>YOq λy w=>z.2▸w.2▸YPO (W7 x y),
 λO aD=>Y8N λx z=>z.2▸YZn (YxH (P:=λt=>strsOk Y5l=true) Zf Y29)⟩
theorem jC.zip{acc:Y3}(h:YVK):∃Z:Z5N,acc=Z.map ZlA∧ts=Z.map Y1w∧∀z∈Z,TabAt m z.1 z.2:=by
 induction ts generalizing acc with
 |nil=>exact⟨[],h,rfl,YYd⟩
 |cons t ts ai=>exact h.elim λa z=>z.elim λr z=>(ai Z3).elim λZ w=>⟨(a,t)::Z,by rw[z.1,w.1];rfl,by rw[Y3j];rfl,λy bb=>(dz bb).elim (λe=>aa e Z4) (Y3O y)⟩
def vm(us:Y0S):dm:=us.map λt=>(Y24,Y0h)
theorem ar8{us:Y0S}{t:Tab}(n:us.Nodup):∃d0:Y0S,ZMB=vm d0∧d0.Nodup∧∀x,x∈d0↔Yqp∨x=t:=by
 induction us with
 |nil=>exact⟨[t],rfl,Y7v,λO=>z8.trans (or_iff_right cS).symm⟩
 |cons a us ai=>
  have n:=uk n;have e:eE (vm (a::us)) Y24 Y0h=cond (b8 YGV Y24) (Ywj::YqA) (Ywj::ZMB):=rfl;refine Y4o;by_cases q:a=t
  ·exact aa q (aa Y3t (⟨t::us,rfl,ma ⟨aV q n.1,n.2⟩,λO=>⟨YY,λh=>h.elim id λh=>aa h b3⟩⟩))
  ·exact aa (ic λh=>q (zz h)) ((ai n.2).elim λd0 z=>⟨a::d0,congrArg (_::·) z.1,ma ⟨λh=>((Z3 a).mp h).elim n.1 q,Z4⟩,λO=>aj YHY (dS YHY (aX (propext (Z3 ..)) (or_assoc.symm)))⟩)
abbrev Cp(S:bu)(p:cE):Y1:=hR (∀c t,t∈YkW→Y3u) (∀c(us:Y0S),us.Nodup→(∀t∈us,t∈YkW)→Zck)
noncomputable abbrev rowsOf (S:bu) (p:cE) (c:Nat):Y0S:=mz dr YkW
inductive ar9(b:Nat)(bF:ag)(ll:Y5O)(d:Z5N)(r:bG)(m:ag):Y1
 |mk (da:∀x o,x≠b→bF x=YB→m x=YB) (us:Y0S) (ak:m b=some (8,Y9 5 YqA)) (av:us.Nodup) (aP:∀t,t∈us↔t∈d.map Y1w) (fl:Yp) (fB:r=ll fl)
theorem asa{A:b9}{S:bu}(K:YN)(F:YZ)(ar:YQd)(aO:ZdF){w:Nat}(jO:ZVI)(W:YNj)(D:Y2r)(az:Y2k){c:Nat}(ao:Y2o)(h:∀b aW,YCc=some (0,Y5 ((rowsOf S p Y4B).map dr))→Y7M):aU g YmT 228 [Y65,Y3Z,Zl] mh Q:=by
 refine YM;obtain⟨pS,hw⟩:=W.1;refine ax Y02;intro gb gc gd;refine el λb ah=>Zml
 have f1:aB no mh Zcd:=Y11;have ip:=bw mh b YuJ;generalize Zcd=m1 at f1 ip ⊢;refine jS rfl ZNw (aw Zhz);have f2:aB no m1 ZcN:=Y8r;have Cm:=bw m1 b0 (0,YPa);generalize ZcN=aH at f2 Cm ⊢;have lK:=W.no Y7k;refine aw (nj rfl (Y7k _ _ hw rfl) rfl lK.2.1 (e5 rfl (WB K F lK.2.1 lK.2.3 Y07 ao (e5 rfl (jO (t:=[]) lK Cm (aT Hl (aj YDb aO)) (YA8 ao) (D.1.2 c ao) λgg tg bF acc iQ R cz=>YM)))));obtain⟨Z,rfl,Cq,Bo⟩:=R.zip;refine Yb;have r1:=ZKM;refine⟨tg,_,iQ,k0 Z ZlA (ar9 b bF λfl=>[Y6b,Y58,ZaP,Y6a,fl]) ⟨λO O O h=>h,[],r1,lC,Yra,none,rfl⟩ (λd r m z=>⟨tg,z.1 _ _ Y5F iQ⟩) (λd x rest e r m z K e8=>?_) Y3k⟩
 ·replace iQ:=aQ r1 (bN e iQ);exact ct.noConfusion (gQ (cu iQ)).2
 ·refine YM;obtain⟨da,us,ak,av,aP,fl,rfl⟩:=z;refine Yb;have aq:x∈Z:=Y1o;have bq:=Y8u _ _ (aa Cq ZTU);have vl:=Bo x aq;have hlen:Zck:=Y7V Y4B us av λt bq=>by
   refine aj Cq (bW e ((ee Ya4).elim λy q=>kp ⟨y,ko _ q.1,q.2⟩))
  refine t1 (tq (cst (bc rfl (d6 (d6 (bc rfl ⟨_,_,_,da _ _ Y5F vl,rfl,W8 bq λcO fK=>⟨_,_,Yc,?_,?_,⟨8,5,_,cY fK ak,ar7 bq,?_,f9 (e8 _ _ ?_)⟩⟩⟩))))))
  ·have aC:=cA r1 (aV e vl);exact absurd ZK3 YwC
  ·exact bq.one (P:=ZkV) Zgz ZgX
  ·exact ZHZ
  ·exact aj YF (au hlen Y2)
  ·refine YM;obtain⟨d0,aJ,aC,c1⟩:=ar8 (t:=x.2) av;refine ax (⟨λy o bb aA=>?_,d0,aa aJ Yc,aC,λt=>?_,_,rfl⟩)
   rotate_left
   ·exact aj (propext (c1 ..)) (aT (propext YSF) (dS dK (aL YMl (or_congr Hs z8.symm))))
   ·exact aj (dE bb) (cY fK (da y o bb aA))
 ·obtain⟨da,us,ak,av,aP,fl,rfl⟩:=z;rw[←Cq]at aP;have ok:∀t∈us,Y3u:=λt bq=>Y8u _ t Ya4;have hlen:=Y7V _ us av λt bq=>Ya4;have i5:YzQ=us.map dr:=kJ;refine cZ (d6 (bc rfl ⟨_,_,_,ak,?_⟩));show wW (YzQ) m Q;refine d9 i5 (⟨⟨ZHv,W9 ok,λO aD=>Y8N λt z=>z.2▸(ok t z.1).one (P:=λt=>dI Y24 8=true∧Y24≠Y37) ZhF Zge⟩,λl pl hM nd asb=>Y4X⟩);obtain⟨d0,rfl⟩:=WG λv aO=>pl.mem_iff.mp aO;have fB:rowsOf S p Y4B=d0:=WE YO6 (W9 λt bq=>Y8u _ t bq) ((qQ YO6).mp (pl.nodup_iff.mpr ((qQ YO6).mpr av))) (λt=>by
   rw[←aP,←F5 (kv:=dr) YO6,pl.mem_iff,F5 (kv:=dr) YO6]) hM
  refine h nd _ (aa fB Yc) λx o aq O=>cY asb (da x o Y5F (cz _ _ (f2 _ _ (f1 _ _ aq rfl) rfl) rfl));replace aq:=aQ ah YhZ;exact cW aq.symm
theorem LR(kv:Y6i)(l:ZC):Ysy:=by
 induction l with
 |nil=>exact⟨[],lC,Yra,Hk⟩
 |cons x l ai=>
  refine YM;obtain⟨us,n,m,r⟩:=ai;refine Yb;by_cases q:Yqp
  ·exact⟨us,n,λv=>(m v).trans ⟨eI _,λh=>YBk (λe=>aa e ((m x).mp q)) id⟩,r⟩
  ·have bI:us.Pairwise λa b=>ZMF=false:=HC r;have oB:∀v,v∈Zci↔Y9d∨v=x:=λv=>by
    (refine aj YMl (aX YHY (aT ZXG ?_));rw[Dh])
    refine⟨λh=>h.elim Zih λh=>h.elim YJ Zih,λh=>h.elim Y6k λh=>Z0a⟩
    cases c:eF (kv v) Y3v with
    |true=>exact YY ZnQ
    |false=>exact YJ (YJ ZnQ)
   refine⟨Zci,?_,λv=>?_,?_⟩
   ·refine Dz ⟨ZVG,ma ⟨λh=>q Yoh.1,ZVG⟩,λa aD b ah e=>?_⟩;have aD:=Yog;rcases YLU with h | h
    ·exact q (aV h (e▸aD.1))
    ·have h:=Yoh.2
     (rw[←e]at h;replace h:=bN aD.2 h);exact Y0L
   ·exact aj (propext (oB ..)) (aT (propext (m ..)) (aL YHY ZWU))
   ·refine yg (OJ ⟨ZGI,Dx ⟨λO aD=>jY _ |>.mp Yog.2,ZGI⟩,ZhN⟩);have aD:=Yog.2;rcases YLU with h | h
    ·exact aa h (JW aD)
    ·cases c:ZMF with
     |false=>rfl
     |true=>
      have h:=Yoh.2;replace h:=bN (JU _ _ _ c aD) h;exact Y0L
theorem qT(kv:Y6i)(l:ZC):(mz kv l).Nodup∧(∀v,v∈YVv↔YNb)∧j9 ((mz kv l).map kv):=by
 have e:YVv=(LR kv l).choose:=dif_pos (LR kv l);rw[e];exact(LR kv l).choose_spec
abbrev fT:=YeC
def h4(h:fT):V:=YD [ay h.1,ZLg]
def F7(S:bu)(p:cE):Y1P:=(roots S.N.length S.f).flatMap λc=>Yb2 YsM
theorem Xa{S:bu}(ar:YQd)(c:Nat):(rowsOf S p c).length≤13:=Y7V c _ YoP.1 λt bq=>YZb bq
theorem asd{A:b9}{S:bu}(K:YN)(F:YZ)(ar:YQd)(aO:ZdF){w:Nat}(jO:ZVI)(W:YNj)(D:Y2r)(az:Y2k)(h:∀b aW,YCc=some (0,Y5 YuV)→Y7M):aU g ZSq 233 [Y65,Zl] mh Q:=by
 refine YM;obtain⟨pS,hw⟩:=W.1;refine Yb;have LS:(a4 Yoi).flatMap Zkd=YuV:=by
  exact aj (List.flatMap_map ..) (aL List.map_flatMap (congrArg (ND · _) (funext λc=>(kJ (f:=YsM) (g:=h4)).symm)))
 refine Y02;intro gb gc gd;refine cZ (WN (nj rfl hw rfl W.2.1 (aS (aqW K F W.2.1 W.2.3 Y07 λb m1 ah f1=>⟨_,_,ah,zh _ Zkd [] ZjX ?_ (λO hm=>⟨0,hm.go ah⟩) Yy (λv LU acc m N aD hm cf=>?_) λO hm e2 d7=>⟨0,h e2 _ (aa LS Yc) (YxA Y5S)⟩⟩))))
 ·exact au (xm (m:=13) λO O=>aj YF (Xa ar _)) (au (mI 13 ((aj YF ZEq):(a4 Yoi).length≤13)) (Y2:13*13≤1000000))
 ·refine(jm LU).elim Yrj;obtain⟨ao,rfl⟩:=z;have ao:=pL.mp ao;have W1:=W.no (f1.trans hm);obtain⟨t1,F8⟩:=W1.1;refine WO (jS rfl F8 (oS rfl rfl (asa K F ar aO jO W1 D az Y7U λe2 aH d7 f2=>?_)));rw[ao.2]at d7;have zA:(Yb2 dr).flatMap Zkf=Yb2 λt=>h4 (c,t):=by rw[List.flatMap_map,ayJ];rfl
  refine⟨_,_,d7,zh _ Zkf acc Ys8 ?_ (λO hm=>⟨0,ZCO⟩) rfl (λv aO acc m N aD hm cf=>?_) ZjU⟩
  ·exact dU zA (aj cj aD)
  ·subst hm;exact Y9l λt z=>z.2▸bQ (oS rfl rfl ⟨(Y8u c t (YZb z.1)).one (P:=ZkX) Zf Y29,ZEt,aa z.2 (cf _ rfl)⟩)
  ·subst e;exact aX zA (cf _ ZQt)
theorem kf(L:ZC)(kv:Y6i)(Inv:ZC→Ys){vb:Y3}{K:Ys}{T:YKU}(h0:Inv [] vb m0)(az:∀d acc m,YdR→Y3K)(step:∀d x rest,L=YCw→∀acc m,YdR→∀N:Ys,(∀gC ab,Inv YAc gC ab→N gC ab)→T Y3v acc m N)(fin:∀acc m,Inv L acc m→YdY):∃P:Y1O,P Ydk vb m0∧YVN:=
 ⟨λvs acc m=>∃d rest,L=YLN∧ZdN∧YdR,Zms,λacc m z=>z.elim λd z=>z.elim λrest z=>⟨ZFf,fin acc m (by
  have e:=z.1;replace e:=ZGO;exact ZD6)⟩,λv vs acc m z=>z.elim λd z=>z.elim λrest z=>⟨ZFf,by
  cases rest with
  |nil=>exact ZDb
  |cons x rest=>
   have e:=g4 Z4;exact cb e.1 (step d x rest z.1 acc m Z3 _ λgC ab h=>ZnI)⟩⟩
def eR(o:Nat)(r:Y8c):YRB:=(zj r.1 Y6s,rS r.1 Y6s)
def putN(t:Tab)(p:cE):Yd→YRB:=p.rec (λn N=>(N,YBp)) (λo N=>eR o YBe) (λo O A N=>eR o ((A N).1,[(A N).2])) λo O O A B N=>eR o (Z2u.1,[(A N).2,Z2u.2])
def putL(t:Tab)(ps:Y2D):Yd→Y8c:=ps.rec (λN=>YBe) λp O ai N=>(ZDv.1,YBn::ZDv.2)
theorem vn{t:Tab}(d:Y2D)(q:cE)(N:Yd):putL t Yj4 N=(ZXa.1,Y7y.2++[ZXa.2]):=by
 induction d generalizing N with
 |nil=>rfl
 |cons p d ai=>
  have e:putL t (p::Yj4) N=(ZXU.1,YBn::ZXU.2):=rfl;rw[Oj,e,ai];rfl
theorem Cr{x:a8}(bZ:N.Nodup)(h:YeA):Zfe:=by
 have aq:=YUL;refine⟨if_pos aq,?_⟩;obtain⟨i,e,af⟩:=w6 aq;unfold rS;refine YCa;exact(xX Y4L bZ).mp (af.trans h.symm)
theorem zB{x:a8}(h:x∉N):Zfd:=⟨Ylu,by unfold rS;refine aT Yda ?_;rfl⟩
abbrev tH(N:Yd)(n:Nat)(M:Yd):Y1:=jd M.Nodup YBb (M.length≤N.length+n)
theorem tH.le{M:Yd}{n:Nat}(W:tH N n M):Z5g:=Z8n Yrf
theorem tH.trans{M Cs:Yd}{b:Nat}(W:tH N a M)(lK:tH M b Cs):tH N (a+b) Cs:=⟨lK.1,Z8n λX e=>lK.2.elim ZhM,au lK.3 (bL ZO (h7 W.3 _))⟩
theorem pT{o:Nat}{r:Y8c}(bZ:r.1.Nodup):tH r.1 1 Y6q∧Y8M<Ywt∧Y6q[Y8M]?=some Y6s:=by
 by_cases h:YPB
 ·obtain⟨i,e,af⟩:=w6 h;have w:=Cr bZ af;have aJ:YOp:=w.1;have aC:Y8M=i:=w.2;rw[aJ,aC];exact⟨⟨bZ,YBc,Y1I⟩,Y4L,af⟩
 ·have w:=zB h;have aJ:YJD:=w.1;have aC:YaN:=w.2;rw[aJ,aC];exact⟨⟨Dz ⟨bZ,Y7v,λa aD b ah e=>h (by refine bL YCp ZGT;exact aD)⟩,YOP,by refine YKs;exact YW⟩,by refine ZBa;exact YDo,ug⟩
def eS(t:Tab)(n:Nat)(p:cE):Y1:=p.rec (λv=>∃c,YXX∧c<n) Y5o ZgN λO O O a b=>a∧b
theorem lX{t:Tab}{n m:Nat}(h:YB6):YLZ→eS t m p:=by
 induction p with
 |v x=>exact λz=>z.imp λc z=>⟨z.1,ew z.2 h⟩
 |c o=>exact id
 |u o a ai=>exact ai
 |b o a b eh eQ=>exact λz=>⟨eh z.1,eQ z.2⟩
theorem kg{t:Tab}:∀{N:Yd},N.Nodup→YAj→tH N ZV Y6t∧YBn<YyQ:=by
 induction p with
 |v x=>exact λ{N}bZ h=>⟨ZnE,h.elim λc z=>by show YBq<N.length;exact aT z.1 z.2⟩
 |c o=>exact λbZ h=>⟨ZWz.1,ZWz.2.1⟩
 |u o a ai=>exact λbZ h=>⟨Ygu.1.trans (pT (o:=o) (r:=Yv8) Ygu.1.1).1,(pT (r:=Yv8) Ygu.1.1).2.1⟩
 |b o a b eh eQ=>
  intro N bZ h;have ak:=(eh bZ h.1).1;have av:=(eQ ak.1 (lX ak.le h.2)).1;exact⟨(ak.trans av).trans (pT (o:=o) (r:=(_,YRt)) YG2).1,(pT (r:=(_,YRt)) YG2).2.1⟩
abbrev n7(S a7:bu):Y1:=Ak (∃X,a7.N=S.N++X) YLX Zls Z7r (∀P,YHH→lu a7.N P a7.f) (YCZ+S.N.length≤Y1Q+a7.N.length) Yel
theorem n7.refl{S:bu}(D:Y3b):n7 S S:=⟨YBc,D,Y29,id,Y89,YW,YW⟩
variable{a7:bu}
theorem n7.le{S:bu}(G:YVz):YKL:=G.1.elim Yrf
theorem ase{b c x:Nat}(h:a+x≤b+y)(av:c+y≤a+d):c+x≤b+d:=Nat.le_of_add_le_add_left (a:=a) (au (dH (acB a c x)) (au (c0 h c) (au (dH (acB c b y)) (au (c0 av b) (dH (acB b a d))))))
theorem n7.trans{S qO:bu}(a:n7 S qO)(b:n7 qO cK):YnN:=⟨a.1.elim λX e=>b.1.elim ZhM,b.2,λi af=>(b.3 i (ew af a.le)).trans ZAK,λh=>b.4 (a.4 h),λP h=>b.5 P ZAL,ase a.6 b.6,au a.7 b.7⟩
theorem FZ.asf{S:bu}{x:a8}(a:FZ S x a7):YVz:=⟨⟨[x],a.1⟩,a.2,a.3,a.4,λP h=>aa a.1 ZAL,by refine fH a.1 ZGp;exact au (h7 a.6 _) (dH (by rw[dw,gi 1];rfl)),a.7⟩
variable{ps:Y2D}
theorem xn{t:Tab}:∀{N:Yd},N.Nodup→(∀p∈ps,YAj)→tH N YJM YBC.1∧(∀c∈YBC.2,c<YBC.1.length)∧YBC.2.length=ps.length:=by
 induction ps with
 |nil=>exact λbZ h=>⟨ZnE,λO ao=>ZDU,rfl⟩
 |cons p ps ai=>
  intro N bZ h;have ak:=kg bZ (h p b3);have av:=ai ak.1.1 λq aF=>lX ak.1.le (h q (eI _ aF));refine⟨ak.1.trans YG2,λc ao=>Ywm (λe=>aa e (ew ak.2 av.1.le)) (YG3.1 c),congrArg Y3m YG3.2⟩
abbrev xo(mh:ag)(A:b9)(S:bu)(r:YRB)(Q:Yj):Y1:=∀aW bl a7,Y4F→Y0Y→Yj8→YVz→a7.N=r.1→Q (ay r.2) aW
theorem Xb{A:b9}{S:bu}(K:YN)(F:YZ)(H:Y22)(D:Y3b)(az:Z7Y)(he:Z7g){o:Nat}(aA:Y4M)(aE:YgO)(aR:∀c∈aZ,Y2o)(hs:ZYd)(qu:Zly)(h:xo mh A S Yjh Q):ZCE:=
 arC K F H D az he aA aE aR hs qu (λj aM m f1 H1=>by
  have w:=Cr D.2 aM;exact(w.2:Yjh.2=j)▸h m A S f1 rfl H1 YcL YIC) λaq m bl a7 f1 bx H1 ad=>by
  have w:=zB aq;exact(w.2:Yjh.2=S.N.length)▸h m bl a7 f1 bx H1 ad.asf (ad.1.trans YIC)
theorem F9{n hA dx sp:Nat}(ak:ZHL)(av:ZNj)(aP:YlN≤sp)(da:n+Zaw≤13)(fG:e+Zaw≤800000):ey+dx≤12∧bk+dx≤800000:=by
 have b:∀{x y:Nat},x≤y+hA→x+dx≤y+sp:=λ{x y}h=>au (h7 h dx) (aj ZO (c0 aP y));exact⟨au (b av) (NX da),au (b YvO) (au Y1I fG)⟩
abbrev LV(mh:ag)(w:Nat)(A:b9):Y1:=∃t,mh w=some (t,ZD 301 YKY)∧Yjl
abbrev LW(g:G)(k w:Nat)(p:cE):Y1:=∀{mh:ag}{Q:Yj}{A:b9}{S:bu}{a:Nat}{t:Tab},Ydo→Y22→Y3b→Y7J→YRZ→YRc→ZMf→Zer→aU g YVQ 286 Z9d mh Q
theorem Ct{t:Tab}{n c:Nat}(h:YXV):YiM=Y58:=by
 rw[YyU,h];rfl
theorem hD{cl:Calls}(j:Nat){x:V}(bo:Y1H=some ZZ)(aE:Y2a)(aO:vs[j]?=YQ)(h:YFX):(bH cl (.op fi [v i,bY Yad])).1 r m Q:=bQ (aw (bc bo (aw (cst (aS ⟨aE,x,aO,h⟩)))))
theorem ash(K:YN)(F:YZ){w n:Nat}(ar:ZPY):LW g k w Y0r:=λ{mh Q A S a t}W H D aD az he ah h=>by
 obtain⟨c,ao⟩:=ah;refine Y02;intro gb gc gd;refine ZN1;show a6 _ UA [Y6b,YXI,Y05] mh YYY _;refine cZ (bQ (aw (bc rfl (aw (hD 0 rfl Y7l rfl (aS ⟨_,_,_,aD,rfl,_,Ct Y7U,?_⟩))))));have e:(putN t Y0r S.N).2=c:=by show YBp=c;refine aT Y7U ?_;rfl
 exact aV e (h mh A S Yy rfl H YcL rfl)
abbrev asi(mh:ag)(A:b9)(S:bu)(T:Y8c)(acc:Y3)(m:ag)(P:Y1):Y1:=∀(bl:b9)(a7:bu),YS7→Y0Y→ZKd→YVz→a7.N=T.1→acc=a4 T.2→P
abbrev Xc(mh:ag)(A:b9)(S:bu)(T:Y8c)(acc:Y3)(m:ag):Y1:=∀P:Y1,asi mh A S T acc m P→P
theorem LX{g:G}{k:Nat}(K:YN)(F:YZ){w o:Nat}{ps:Y2D}{p:cE}(kC:YKz)(ar:Y3s)(aA:Y4M)(aO:ZVm)(aE:Y9U)(hd:YjO)(ah:∀{t n},ZMg)(cf:∀{t N},ZXY)(kY:∀q∈ps,∀{mh:ag}{Q:Yj}{A:b9}{S:bu}{a:Nat}{t:Tab},Ydo→Y22→Y3b→Y7J→Z7X→Z7c→eS t S.N.length q→xo mh A S (putN t q S.N) Q→aU g YDY 286 [Y65,Y8x,YA] mh Q):Z5J:=λ{mh Q A S a t}W H D aD az he n6 h=>by
 refine YM;obtain⟨pS,hw,Xd⟩:=W;refine Yb;have aP:YEY:=Yi7
 suffices key:∀jD,jD=Zl→aU g YVQ 286 [Y65,jD,YA] mh Q from ZTJ
 intro jD Ck;have LL:=Z3M;subst LL;have ao:∀{Q':Yj}{m:ag},Z78→aU g YDY 86 [Y48] m Q':=λ{Q' m}h=>by
  refine jL Ck Yma;exact Zfk
 refine ZT5;refine Y02;intro gb gc gd;refine ZMz;show a6 _ UB [Y6b,YNB,Y05] mh YYY _;refine Yt;intro asj;refine cZ (nj rfl hw rfl H.1 (aw (hD 0 rfl aP rfl (aw (tF (d6 (bc rfl ⟨Y1X,aP,Cg ps,kf ps bB (λd acc m=>Xc mh A S ZXV acc m) Zgj Y2M ZiF Y41⟩)))))))
 ·refine ZHT;subst ni;refine Yb;have aq:YYC:=Y1o;have gv:=xn (ps:=d) D.2 Zjz;replace gv:=ZCf;have i2:=Z48;have F8:m w=some (pS,ZD 301 [YcD]):=aa bx (f1 _ _ hw Xd);refine my (jS rfl F8 (oS rfl rfl (kY x aq ⟨pS,F8,Xd⟩ H1 iq.2 ZNu ZFC i2.2 (lX iq.le YSS) ZhY)))
  ·refine Ygy;exact Yh7
  ·exact ZEZ
  ·refine ZOF;exact(dK (f:=ay) (l₁:=ZXV.2) (l₂:=[_])).symm
 ·refine ZHT;subst ni;refine Yb;have gv:=xn (ps:=ps) D.2 Zk1;rw[←dO]at gv;have i2:=Z47;have hE:ZXZ=eR o (a7.N,YyM):=ZI4
  refine Zhp
  show aU g YDY 522 [Y1M,ZE,Y0B] _ Q;refine Z5u;refine Xb K F Z4S iq.2 i2.1 ZEu aA ZHy YUn (YJ ⟨b,0,rfl,Yc⟩) (λq dg aJ aC=>?_) ZhX
  ·replace aC:=aQ Y6J (aX Z8L aC);exact(show 0=dg from ZK3)▸rfl
  ·rw[←hE]at h5 ⊢;exact h aH gm cK ((f1.trans (Y8r:aB ea m (upd m b (0,Y5 (a4 YyM))))).trans f2) Y9M hK Ym6 h5
theorem Ga{b:Nat}:k+6+YfY=k+b+7+a:=dS (fO k b 7) (aL (fO (k+7) ..) (aL (dw (k+7) ..) (aQ (dw (k+6) ..) ((fO (k+6) ..)))))
theorem asl{k:Nat}(K:YN)(F:YZ){w:Nat}(ar:Y3s):Z5J:=by
 induction p generalizing k with
 |v n=>exact ash K F ar
 |c o=>exact LX (ps:=[]) K F rfl ar ar rfl Z0 rfl YrO rfl YIj
 |u o a ai=>
  have jU:=Y8z;exact @LX g k K F w o [a] Y78 rfl ar YGz rfl Y5H rfl Yrs rfl Zjy
 |b o a b eh eQ=>
  have jU:=Y8z;have fK:=Yib;refine @LX g k K F w o Y1R Y4c rfl ar YGz rfl Y5t rfl (λh O aF=>Y6p (λe=>e▸h.1) ZhW) rfl YOI
  ·exact ZD3
  ·exact ZCk
abbrev Xe(g:G)(k:Nat)(p:cE):Y1:=∀{mh:ag}{Q:Yj}{A:b9}{S:bu},Y22→Y3b→YRZ→YRc→YAi→xo mh A S ZXX Q→aU g YVQ 527 [Y1M,Zl] mh Q
theorem LY{g:G}{k:Nat}(K:YN)(F:YZ){o:Nat}{ps:Y2D}{p:cE}(kC:YKz)(aA:Y4M)(aE:Y9U)(hd:YjO)(ah:YAi→∀q∈ps,ZMc)(cf:∀{N},YWj=eR o (putL [] ps N))(kY:∀q∈ps,∀{mh:ag}{Q:Yj}{A:b9}{S:bu},Y22→Y3b→Z7X→Z7c→ZMc→xo mh A S (putN [] q S.N) Q→aU g YDY 527 [Y1M,Y8x] mh Q):Z94:=λ{mh Q A S}H D az he n6 h=>by
 have aP:YEY:=Yi7
 have jT:∀q∈ps,eS [] S.N.length q:=λq aF=>lX Z0 Ygs;refine oh kC ZT5;refine Y02;intro gb gc gd;refine cZ (jS rfl H.1 (aw (hD 0 rfl aP rfl (aw (d6 (tF ZKe))))));refine kf ps bB (λd acc m=>Xc mh A S ZXT acc m) Zgj Y2M ZiF Y41
 ·refine YYE;subst ni;have aq:YYC:=Y1o;have gv:=xn (ps:=d) D.2 λq aF=>jT q ZD5;replace gv:=ZCf;have i2:=Z48;refine my (jS rfl (bx▸H1.1) (e5 rfl ((λaF=>aV bx (kY x aq H1 iq.2 ZFC i2.2 YSS aF):∀{Q':Yj},xo m bl a7 (putN [] x a7.N) Q'→aU g YDY 527 [Y1M,bB x] m Q') ZhY)))
  ·refine Ygy;exact Yh7
  ·exact ZEZ
  ·refine ZOF;exact(dK (f:=ay) (l₁:=ZXT.2) (l₂:=[_])).symm
 ·refine YYE;subst ni;have gv:=xn (ps:=ps) D.2 jT;rw[←dO]at gv;have i2:=Z47;have hE:ZXX=eR o (a7.N,Yas):=ZI4
  refine λb jT=>⟨0,⟨_,_,Yc,?_,qJ _,?_⟩⟩
  ·refine Ygy;exact Y7W
  show aU g YDY 522 [Y1M,ZE,YD ZAT] _ Q;refine Z5u;refine Xb K F Z4S iq.2 i2.1 ZEu aA ZHy YUn Zk (λO O aJ O=>V.noConfusion aJ) ZhX
  (replace h5:=bW hE h5;refine k7 hE ?_)
  exact h aH gm cK ((f1.trans (Y8r:aB ea m (upd m b (0,Y5 ZAT)))).trans f2) Y9M hK Ym6 h5
theorem asm{k:Nat}(K:YN)(F:YZ)(ar:Y3s):Z94:=by
 induction p generalizing k with
 |v n=>exact λH D az he ah h=>ah.elim λc z=>Yih
 |c o=>exact LY (ps:=[]) K F rfl ar Z0 rfl YrO rfl YIj
 |u o a ai=>
  have jU:=Y8z;exact @LY g k K F o [a] Y78 rfl YGz Y5H rfl Yrs rfl Zjy
 |b o a b eh eQ=>
  have jU:=Y8z;have fK:=Yib;refine @LY g k K F o Y1R Y4c rfl YGz Y5t rfl Zib rfl YOI
  ·exact ZD3
  ·exact ZCk
noncomputable abbrev c5:cE:=.v 3
noncomputable abbrev py:cE:=.v 4
def cB:List YFS:=[YuF,YuE,YuB,YuC]
theorem lY{P:YFS→Y1}(ak:P YuF)(av:P YuE)(aP:P YuB)(da:P YuC):∀q∈cB,P q:=λq aF=>
 Y6p (λe=>aa e ak) λaF=>Y6p (λe=>aa e av) λaF=>Y6p (λe=>aa e aP) λaF=>Y0H▸da
theorem zC{S:bu}(az:Y2k):WU S:=⟨Zi8,λc=>au (B8 ZXv.1 λx aq=>Yts) (by
 unfold i8;exact aj YF (au YI4 (au ZKo az)))⟩
theorem asn{A:b9}{S:bu}(K:YN)(F:YZ)(D:Y2r)(az:Y2k){w:Nat}:∀q∈cB,n5 g YMC A S w YG:=by
 have x:n5 g ZSn A S w c5:=Z8p;have two:∀{p q:cE},n5 g YmR A S w p→n5 g YmR A S w q→∀r∈[p,q],n5 g YmR A S w r:=λar aF r bo=>(dz bo).elim (λe=>ZNk) λbo=>bR bo▸aF;refine lY (P:=λq=>n5 g (Y2W+7) A S w YG) ?_ ?_ ?_ ?_
 ·exact @Cj g Y2W A S pend K F D az YIQ w 8 [c5] Y4f rfl rfl rfl Y2 Y2 Y2 rfl Y29 λq aF=>Y0H▸x
 ·exact @Cj g Y2W A S pend K F D az YIQ w 1 [c5,py] YbO rfl rfl rfl Y2 Y2 Y2 rfl Y29 (two x (Z8p:n5 g ZSn A S w py))
 ·exact @Cj g Y2W A S pend K F D az YIQ w 1 [c5,c5] YBv rfl rfl rfl Y2 Y2 Y2 rfl Y29 (two x x)
 ·exact @Cj g Y2W A S pend K F D az YIQ w 1 [c5,Y9u] YPV rfl rfl rfl Y2 Y2 Y2 rfl Y29 (two x (@Cj g YDW A S pend K F D az YIQ w 17 [] Y9u rfl rfl rfl Y2 Y2 Y2 rfl Y29 YO7:n5 g (YDW+7) A S w Y9u))
theorem Gb{o c:Nat}{t dg:Tab}{n:Nat}{F:YRi}:dg∈ZXu↔∃aZ,Z6∈nod c∧aZ.length=n∧dg∈F t aZ:=by
 refine G6.trans ⟨Zim,λh=>h.elim λaZ z=>⟨Z6,z.1,OQ Y3G (aa Z4 (Ar Y3G Z3))⟩⟩
 cases q:YqT with
 |true=>
  replace z:=YQg;have q:=YAX;exact⟨x.2,by refine um ZNB ?_;exact z.1,ZNC,z.2⟩
 |false=>replace z:=YQg;exact ZDa
theorem aso(h:aZ.length=2):∃a b,aZ=Y1R:=by
 cases aZ with
 |nil=>exact ZDY
 |cons a aZ=>cases aZ with
  |nil=>exact absurd (h:1=2) Yf
  |cons b aZ=>cases aZ with
   |nil=>exact⟨a,b,rfl⟩
   |cons d aZ=>exact absurd (oc ZWJ) Y7s
theorem asp(h:aZ.length=1):∃a,aZ=[a]:=by
 cases aZ with
 |nil=>exact ZDY
 |cons a aZ=>cases aZ with
  |nil=>exact Yt8
  |cons d aZ=>exact absurd ZWJ Y7s
def xp(K:a8→Yo)(t:Tab)(p:cE):Yo:=p.rec (λn c=>YXV) (λo c=>K YP8 c) (λo O A c=>∃x,A x∧K YPA c) λo O O A B c=>∃x y,A x∧B y∧K YP9 c
def pU(n:Nat)(R:YV)(t:Tab):Y1:=∃x,YNn∧if YHQ then∃y,y∈R∧t=YfC else t=YAJ
theorem LZ{o c:Nat}{dg:Tab}{A:Yex}:dg∈qR nod o 2 (λt aZ=>kB [YkY,A] aZ [t]) [] c↔∃a b,Yy9∧dg∈A YCV b:=by
 refine Gb.trans ⟨λh=>h.elim λaZ z=>(aso Z4).elim λa w=>w.elim λb w=>⟨a,b,aV w z.1,?_⟩,λh=>h.elim λa h=>h.elim λb z=>⟨Y1R,z.1,rfl,?_⟩⟩
 ·have fz:=Z3;replace fz:=fU w fz;exact(rj (fz:ZLU)).elim λt1 y=>(bR y.1:t1=YCV)▸y.2
 ·show ZLU;exact Ap ⟨YCV,Y2v,z.2⟩
theorem L0{n x:Nat}{R:YV}(az:Yne)(aq:YNn):pU n R YAJ:=⟨x,aq,aa Yls rfl⟩
theorem tI{t:Tab}{n:Nat}{R:YV}(az:Yne)(h:Yo6):∃x,YNn∧t=YAJ:=h.imp λx z=>⟨z.1,by have z:=z.2;rw[Yls]at z;exact z⟩
theorem Xf{R:YV}(gI:∀c x,Yqo→∀j∈x.2,j∈R):∀q∈cB,Zm8:=by
 have av:∀{o a b c:Nat},Yy9→a∈R∧b∈R:=λh=>⟨gI _ _ h _ b3,gI _ _ h _ YGY⟩
 refine lY (P:=λq=>Zm8) (λt c=>(Gb (o:=8) (n:=1) (t:=[]) (F:=λt aZ=>kB [YkY] aZ [t])).trans ⟨λh=>h.elim λaZ z=>(asp Z4).elim λa w=>?_,Y6k⟩) (λt c=>(LZ (o:=1) (A:=fk nod py)).trans YtL) (λt c=>(LZ (o:=1) (A:=YkY)).trans YtL) λt c=>(LZ (o:=1) (A:=fk nod Y9u)).trans YtL
 ·have fz:=Z3;rw[w]at fz;rw[w]at z;rw[(bR fz:t=YCV)];exact⟨L0 Yf (gI _ _ z.1 _ b3),a,rfl,z.1⟩
 ·obtain⟨x,aq,e⟩:=YHv
  (replace h:=YWb;refine Y4o)
  obtain⟨y,aC,bb⟩:=h.2;exact⟨[y],bb,rfl,(YGP▸Y2v:YAJ∈[[(3,y)]])⟩
 ·have e:t=[(3,a),(4,b)]:=bR z.2;rw[e];exact⟨⟨a,YSd.1,by refine ZCq;exact⟨b,YSd.2,rfl⟩⟩,a,b,rfl,rfl,z.1⟩
 ·obtain⟨⟨x,aq,e⟩,h⟩:=h;rw[Y0c]at e;obtain⟨y,bb,e⟩:=e
  (rw[e]at h;refine Y4o)
  obtain⟨a,b,aJ,aC,aR⟩:=h;have aJ:x=a:=YLM;have aC:y=b:=YGP;exact⟨x,y,aa aJ (aC▸aR),Y2v⟩
 ·have fz:t∈cond YKg [YCV] []:=z.2
  cases q:YKg with
  |false=>rw[q]at fz;exact absurd fz cS
  |true=>
   rw[q]at fz;have e:t=YCV:=bR fz;rw[e];exact⟨Z5D,a,a,rfl,rfl,by have f3:=z.1;rw[←Y1e]at f3;exact f3⟩
 ·obtain⟨x,aq,e⟩:=YHv
  (rw[e]at h;refine Y4o)
  obtain⟨a,b,aJ,aC,aR⟩:=h.2;have aJ:x=a:=YLM;refine⟨x,x,by rw[←aJ,←(YGP:x=b)]at aR;exact aR,?_⟩;show YAJ∈cond (x==x) [YAJ] [];refine Ar Y3G ?_;exact Y2v
 ·refine((Gb (o:=17) (n:=0) (F:=YOJ)).mp z.2).elim λaZ y=>?_;have i5:aZ=[]:=p5 y.2.1;have e:t=YCV:=by have d1:=YNp;replace d1:=um i5 d1;exact bR d1
  rw[e];exact⟨Z5D,a,b,rfl,aV i5 y.1,z.1⟩
 ·obtain⟨x,aq,e⟩:=YHv
  (rw[e]at h;refine Y4o)
  obtain⟨a,b,aJ,aC,aR⟩:=h.2;have aJ:x=a:=YLM;exact⟨x,b,by refine sC aJ ?_;exact aR,(Gb (o:=17) (n:=0) (F:=YOJ)).mpr ⟨[],aC,rfl,Y2v⟩⟩
theorem asq{S:bu}(D:Y2r):∀c x,YYB→∀j∈x.2,j∈Yoi:=λc x aq j aM=>pL.mpr (((qP.mp Yts).elim λi z=>z.elim λy z=>by
 replace aM:=ZOL;exact Ywv))
def hf(n:Nat)(x:a8):Tab:=if YHQ then[(3,YqW),(4,ZeZ 1 0)]else[(3,YqW)]
theorem Gd{R:YV}:∀q∈cB,Zm7:=by
 have dn:∀{n:Nat}{x:a8}{a y:Nat},Yne→YqW=a→Y06=Y0l→hf n x=[(3,y)]:=λaz h e=>by unfold hf;exact aj Yls (gT h (mL Y4I rfl))
 refine lY (P:=λq=>Zm7) ?_ ?_ ?_ ?_ <;> intro t c h
 ·refine YM;obtain⟨x,aq,e⟩:=YHv;refine Yb
  (replace h:=YWb;refine Y4o)
  exact YlD λy z=>⟨_,z.2,ZLb⟩
 ·refine YM;obtain⟨⟨x,aq,e⟩,a,b,aJ,aC,aR⟩:=h;rw[Y0c]at e;obtain⟨y,bb,e⟩:=e;refine Yb
  (replace aJ:=ZGd;replace aC:=bN e aC;refine Y4o)
  exact⟨_,aR,by unfold hf;refine aj Y0c (mL ((YLM:x=a)) (aa ((YGP:y=b)) ?_));rfl⟩
 ·obtain⟨x,aq,e⟩:=YHv
  (replace h:=YWb;refine Y4o)
  exact ZQ2
 ·obtain⟨x,aq,e⟩:=YHv
  (replace h:=YWb;refine Y4o)
  exact ZQ2
theorem Xg{S:bu}(D:Y2r)(az:Y2k):∀q∈cB,Cp S YG:=λq aF=>by
 have m:=Xf (asq D) q aF;refine⟨λc t bq=>(Yaj bq).1.elim YEV,λc us bZ bj=>?_⟩
 ·by_cases e:YWo
  ·have z:=z.2;rw[YM1]at z;exact z.elim λy z=>⟨x,YJ ⟨y,z.2⟩⟩
  ·have z:=z.2;rw[YDQ]at z;exact⟨x,YY z⟩
 ·exact au (B8 (M:=YxN (hf q.1)) bZ λt bq=>(Gd q aF t c (Yaj (bj t bq))).elim λx z=>kp ⟨x,z.1,z.2⟩) (aj YF (YIQ.2 c))
structure eC where
 (r rs op mu pl af re n2:Nat) (hM:YL)
abbrev zD(m:ag)(a:Nat)(q:YFS):Y1:=m a=some (0,ZD 263 Z9e)
abbrev n8(m:ag)(R:eC)(h:Nat)(tr:Bool)(most cQ aE:Nat):Y1:=OA (m R.r=some (5,ZD 358 [Y76,Z1o,Z1l,YcC,Z1m,Z1j,ay cQ,Z1n,Z1k])) (m R.rs=some (0,Y5 (Y8J λi=>YJl))) (∀i q,YGH→zD m Z7J q) (m R.op=some (0,Y9 1 Z9M)) (m R.mu=ZaD) (m R.pl=ZaE) (∃L,m R.af=some (13,Y5 L)∧L.length≤aE) (m R.n2=ZaC)
variable{cQ:Nat}{tr:Bool}{most:Nat}{aE:Nat}
theorem n8.dq{p:Z9}{R:eC}{h:Nat}(B:ZVL)(F:YFo)(ar:YWP)(fG:ZWd)(L1:ZWc):ZVJ:=
 ⟨F _ _ B.1 fG,F _ _ B.2 ar,λi q e=>F _ _ Z2w ar,F _ _ B.4 ar,F _ _ B.5 ar,F _ _ B.6 ar,Ycx λO z=>⟨F _ _ z.1 L1,z.2⟩,F _ _ B.8 ar⟩
theorem n8.ea{R:eC}{h:Nat}(B:ZVL)(F:ZAy):ZVJ:=B.dq F rfl rfl rfl
theorem Ge{t:Tab}(h:Y3u):ZRM:=h.one (P:=λt=>ZRM) (λO=>⟨Y7v,λO he=>Yhe⟩) λx y=>⟨ma ⟨λh=>absurd (V.str_inj Y1T) (Yf:(3:Nat)≠4),Y7v⟩,λO he=>YJB (λh=>YSQ) λh=>Y1T▸rfl⟩
theorem Xh{A:b9}{S:bu}(K:YN)(F:YZ){w:Nat}(ar:Y3s)(hd:ZV≤3){t:Tab}(W:Ydo)(H:Y22)(D:Y3b)(aD:Y7J)(az:YRZ)(he:YRc)(ah:ZMf)(h:Zer):aU g (k+10) 286 Z9d mh Q:=by
 have e:k+10=k+(3 - ZV)+7+ZV:=aL (fO _ 7 ..) (dS YjU (mL (x8 hd) (aL Y9A rfl)));exact kK e (asl K F ar W H D aD az he ah h)
noncomputable abbrev iR (t:Tab) (q:YFS) (N:Yd):YRB:=putN t Yq YoG.1
theorem dec_lt(a b:Nat):decide (Ya2<(b:Int))=ZLL:=decide_eq_decide.mpr x1
theorem asr{A:b9}{S:bu}(K:YN)(F:YZ){R:eC}(B:ZVM)(H:Y22)(az:YRa)(h:Q (YK (decide ZV1)) mh):aU g (k+3) 324 [YA3] mh Q:=
 fS ZT K rfl Y2 (by intro gb gc gd;exact cZ (bQ (aw (nj rfl B.1 rfl H.1 (aS (Ll K F H.1 H.2 az (aw (mx (kA rfl B.1 rfl ⟨Zmy,aw (cst (aw (cst (aS ⟨_,_,_,B.4,rfl,aS ((dec_lt _ _).symm▸h:Q (YK (decide (Yy1<(S.N.length:Int)))) mh)⟩))))⟩)))))))))
theorem Xi{n hA dx:Nat}(ak:ZHL)(av:ZNj):ey+dx≤n+YlN∧bk+dx≤e+YlN:=by
 exact⟨by refine YhU;exact h7 av dx,bL ZO (h7 YvO dx)⟩
theorem ass{A:b9}{S:bu}(K:YN)(F:YZ){R:eC}{q:YFS}(aF:Y1t)(bo:zD mh a q){t:Tab}(bq:Y3u)(ah:eS t S.N.length YG∧eS t S.N.length Yq)(B:ZVM)(H:Y22)(D:Y3b)(az:Yeg)(he:Z7d)(h:∀aW bl cK,Y4F→Y0Y→YnN→cK.N=YDN.1→eG cK []→(YTQ=YTP→d3 aW bl Zfm→Z6p)∧
   (YTQ≠YTP→d3 aW bl (gM cK (min YTQ YTP) (max YTQ YTP))→Z6q)):aU g ZSl 336 [YA3,YA,Y24] mh Q:=by
 have ok:ZPZ:=lY (P:=λq=>ZPZ) YZN YZN YZN YZN q aF;have l1:YBr≤2:=bq.one (P:=λt=>YBr≤2) (λO=>Y5H) λO O=>bV 2;refine Y02;intro gb gc gd;refine el (d6 (bc rfl ⟨Y6T,congrArg id Yui,ZFE,Ge bq,Zhp⟩));have fn:aB no mh Zcb:=Y8r;have qU:=bw mh b YIs;generalize Zcb=m1 at fn qU ⊢;revert m1;refine Y18;intro m1 fn qU;have H1:=H.no fn;have a3:=B.dq fn rfl rfl rfl;have zf:=fn _ _ bo rfl;refine Yt;intro Xj;refine en ⟨_,_,zf,_,rfl,rfl,rfl,rfl,?_⟩;show a6 _ UJ Z9x m1 ZS Q;refine Yt;intro asu;refine en ⟨_,_,zf,_,rfl,kf [] (λv=>v) (λO acc m=>YSR∧m=m1) Zn Y2M (λd x rest e=>absurd Y7e (by refine ZGp;exact(k5 _).symm)) Y41⟩;obtain⟨rfl,rfl⟩:=z;refine λb1 ip=>⟨0,λe2 d7=>⟨0,_,_,YTa,_,_,Yc,Zf,?_⟩⟩
 have zE:aB no m Zc2:=YvH Y5S;generalize Zc2=aH at zE ⊢;have hK:=H1.no zE;have cc:=a3.dq zE rfl rfl rfl;have Xk:=zE _ _ zf rfl;have Xl:=zE _ _ qU rfl;show a6 _ UI Z9x aH ZS Q;have kx:=kg D.2 Y2S;have up:∀{x:Nat},x≤3→S.N.length+x≤13∧Y1Q+x≤800000:=λaq=>⟨gR az aq,au (gR he aq) Y2⟩
 have uV:=up ZEv;have i3:=up YWL;refine Yt;intro asv;refine B0 (aw (nj rfl cc.1 rfl cc.6 (aw (kA rfl Xk rfl (e5 rfl (Xh K F YHV ZEv ⟨0,cc.6,rfl⟩ hK D Xl uV.1 uV.2 Y2S λbF jd oV cz pP xg lV L2=>?_))))));have Gf:=cc.ea cz;have Xm:=cz _ _ Xk rfl;rw[←L2]at kx;have dv:=Xi (dx:=YjP) lV.6 kx.1.3;refine aw (nj rfl Gf.1 rfl Gf.6 (aw (kA rfl Xm rfl (e5 rfl (Xh K F ok.2.1 (au Y1X YWL) ⟨0,aa pP Gf.6,rfl⟩ xg lV.2 (cz _ _ Xl rfl) (au dv.1 i3.1) (au dv.2 i3.2) ZTz λeK hr xq f4 vo Cc nh vp=>?_)))));have mX:=kg lV.2.2 ZTz;rw[←vp]at mX;have Xn:=Xi (dx:=0) nh.6 mX.1.3;have G:=lV.trans nh;have f:=((fn.trans zE).iO.trans cz).trans f4;have bJ:=λYJJ(bl:b9)(dZ:aB ea eK m)(L3:bl.h=hr.h)=>h m bl xq YUY (L3.trans ZdH) G (by exact aj vp ZL3) nh.2;have aC:(putN t Yq oV.N).2=YDN.2:=by exact ZL3
 rw[aC]at mX ⊢;generalize YDN.2=y at mX bJ ⊢;generalize YyR=x at kx bJ ⊢;show a6 _ UH [Y2Z,Y05,YNH,Y6a,YE2,ZaO] eK ZS Q;refine Yt;intro asw;refine cZ (nj rfl (aa ZdH (Gf.ea f4):n8 eK R hr.h tr most cQ aE).1 rfl Cc.1 (aw (bc rfl (aw (bc rfl (aw (bQ (aw (cst (aw (kA rfl (f4 _ _ Xm rfl) rfl (aw (d6 (bc rfl ⟨ZFE,ZHZ,aS ⟨rfl,aS (arq (k:=k+6) K F Cc nh.2 (au (au Xn.1 dv.1) i3.1) (au (au Yk (au (au Xn.2 dv.2) i3.2)) Y2) (ew kx.2 nh.le) mX.2 (λe m dZ tJ=>(bJ m hr dZ rfl).1 e tJ) λe m bl dZ L3 tJ=>(bJ m bl dZ L3).2 e tJ)⟩⟩))))))))))))))
abbrev cn:=YCK
abbrev hl(N:Yd)(P:cn)(f:YL):Y1:=hr YVe (∀(i j:Nat)(x y:a8),Y4i→YRJ→YTc→f i=f j) (∀p∈P,YLi) YVj
theorem Xo{P:cn}{g:YL}(b:YlW):xf N P Zj1:=⟨Zf,λh=>h.symm,λh h'=>h.trans h',b.3,λi j x y h af aM ao e=>b.2 i j x y af aM (by
 have hm:∀z:a8,(∀c∈z.2,g c=g (h c))→z.2.map g=(z.2.map h).map g:=λz hz=>aL kJ (sv hz);have aC:=Ykp;refine iF YAM ?_;show Y5B g=Yqq g;exact aj (hm x λc aq=>YvX id λq=>absurd aq q.1) (aL (hm y λc bb=>YvX id λq=>absurd bb q.2) (congrArg _ YAN)))⟩
theorem Xp{P:cn}{f g:YL}(a:Y5c)(b:YlW)(af:Y2t):g i≤f i:=by
 exact aj (a.4 _ (Xo b) i af:g i=g (f i)) (b.1.1 _ (a.1.lt af))
theorem Cu{P:cn}{f g:YL}(a:Y5c)(b:YlW)(af:Y2t):f i=g i:=mG (Xp b a af) (Xp a b af)
open Classical in
noncomputable def h6 (N:Yd) (P:cn):YL:=if h:ZmR then h.choose else id
theorem zF{P:cn}{f:YL}(h:Y5c):ZQr:=by
 exact aL (dif_pos ZnM:YLt=(ZnM:ZmR).choose) (Exists.choose_spec _)
variable{e1:cn}
theorem asx{P:cn}{f:YL}(J:YVj)(h:∀p∈P,YDs):lu N e1 f:=λR C=>J R ⟨C.1,C.2,C.3,λp ar=>C.4 p (h p ar),C.5⟩
abbrev Rest(S:bu)(P:cn):Y1:=hr Y3b YFe (∀p∈P,ZWi) YHH
theorem Rest.r3{S:bu}{P:cn}(R:YRY):hl S.N P S.f:=⟨R.1.1,λi j x y af aM e=>by
 refine YM;obtain⟨a,bx,hL⟩:=R.1.6 i x af ZKx cS;obtain⟨b,cM,ff⟩:=R.1.6 j y aM ZKx cS;refine Yb;replace bx:=ZBu;exact ZBx,λp ar=>YOY.2,R.4⟩
abbrev fm(N:Yd):Y1:=hR N.Nodup (∀(i:Nat)(x:a8),Y4i→ZQc)
theorem eG.wf{S:bu}(D:Y2r):fm S.N:=⟨D.2,D.3⟩
theorem Rest.grow{P:cn}(X:Yd):∀{E:bu},Z7P→fm Z3p→∃E',Rest E' P∧E'.N=Z3p∧∀i,ZR6→E'.f i=E.f i:=by
 induction X with
 |nil=>exact λ{E}R O=>⟨E,R,Y8L,Y29⟩
 |cons x X ai=>
  intro E R W;have aq:=W.2 E.N.length x ZIG;have a:=added (cs:=Zea) R.1 (λh=>(HE W.1).2.2 x h x b3 rfl:x∉E.N) Y4H Y6F.1 Y6F.2 λc=>OC;generalize n3 (gf E x Zea) E.N.length x=rY at a;revert rY;refine Y18;intro rY a;have le:∀{i},ZR6→i<rY.N.length:=λaf=>bW a.1 (aL cj (ew af Yk));have qS:Rest rY P:=⟨a.2,a.4 R.2,λp ar=>⟨le YFY.1,le YOY.1,aj (a.3 _ YFY.1) (aL (a.3 _ YOY.1) (YOY.2))⟩,aa a.1 (a.5 P R.4)⟩
  refine YM;obtain⟨E',sE,bk,dZ⟩:=ai qS (dS a.1 (aL Y0k W));exact ax (⟨E',sE,by rw[bk,a.1,hG];rfl,λi af=>(dZ i (le af)).trans ZAK⟩)
abbrev vq(P:cn)(S:bu)(fr:cn)(j:Nat):Y1:=hr Y3b (lu S.N YAB S.f) (∀p∈YAB,ZWi) (∃E,Z7P∧E.N=S.N∧(j=0→(∀i,Y2J→Za=E.f i)∧YFe)∧(0<j↔∃p,YoJ∧E.f p.1≠E.f p.2))
theorem Rest.mid{S:bu}{P:cn}(R:YRY):vq P S [] 0:=⟨R.1,Ywr▸R.4,Ywr▸R.3,S,R,rfl,λO=>⟨Y29,R.2⟩,⟨Zii,λh=>h.elim λO z=>absurd z.1 cS⟩⟩
theorem eG.more{S:bu}(D:Y3b):eG {S with e:=e} []:=⟨D.1,D.2,D.3,D.4,D.5,D.6,D.7,D.8,D.9,YCH,YFG⟩
variable{fr:cn}
theorem vq.step{P:cn}{S:bu}{b:Nat}(M:YqB)(G:YnN)(aD:a<cK.N.length)(ah:b<cK.N.length):
  (YGJ=YGK→vq P Zfm YUe j)∧(YGJ≠YGK→vq P (gM cK (min YGJ YGK) (max YGJ YGK)) YUe (j+1)):=by
 refine YM;obtain⟨E,xr,dO,h0,aM⟩:=M.4;obtain⟨X,Xq⟩:=G.1;obtain⟨zG,oT,h5,f2⟩:=xr.grow X (aa dO (Xq▸G.2.wf));refine Yb;have h5:zG.N=cK.N:=by exact aj h5 (aT dO (Xq.symm))
 have Cv:∀p∈YAB,p.1<cK.N.length∧p.2<cK.N.length∧cK.f p.1=cK.f p.2:=λp ar=>have z:=YRE;⟨ew z.1 G.le,ew Z4 G.le,by refine aj (G.3 _ z.1) (aL (G.3 _ Z4) ?_);exact Z3⟩
 have Cw:j=0→(∀i,i<cK.N.length→cK.f i=zG.f i)∧cK.wait=[]:=λe=>by
  have z:=h0 e;have nq:YHH:=λR C i af=>(z.1 i af).symm▸xr.4 R (aV dO.symm C) i (aV dO.symm af);have LH:Rest cK P:=⟨G.2,G.4 z.2,λp ar=>Cv p YVX,G.5 P nq⟩
  exact⟨λO af=>Cu LH.r3 (aV h5 oT.r3) af,G.4 z.2⟩
 have L4:0<j↔∃p,YoJ∧zG.f p.1≠zG.f p.2:=aM.trans ⟨λh=>h.imp λp z=>⟨z.1,by refine aj ZO4 (aL ZO5 ?_);exact z.2⟩,λh=>h.imp λp z=>⟨z.1,by
  have fz:=z.2;rw[ZO4,ZO5]at fz;exact fz⟩⟩
 have mem:∀{p},p∈Z6a→p∈YAB∨p=YIy:=λh=>by
  replace h:=aL Y0k h;exact Yxc
 have Xr:lu cK.N Z6a cK.f:=asx (G.5 _ M.2) Zjt
 refine⟨λe=>⟨G.2.more,Xr,λp ar=>Yxx (Cv p) λh=>aa h (⟨aD,ah,e⟩),zG,oT,h5,Cw,L4.trans ⟨λh=>h.imp Zjv,λh=>h.elim λp z=>?_⟩⟩,Y5F⟩
 ·rcases iw z.1 with h | h
  ·exact⟨p,h,z.2⟩
  ·rw[←L4];refine acp λq=>z.2 ?_;rw[Y1T];exact cA (YOU a aD) (e.trans (YOU b ah))
 ·have m:=B9 G.2.1 aD ah e;refine⟨Wj G.2 m.1 YHJ YHK YHL YrP,Ls Xr (λO af=>G.2.1.lt af) ZhG,λp ar=>Yxx (λh=>⟨Yd7.1,Yd7.2.1,Lv Yd7.2.2⟩) λh=>aa h (⟨aD,ah,Lu⟩),zG,oT,h5,λq=>absurd q Y7s,⟨λO=>?_,λO=>Y3I⟩⟩
  ·have r:R YGJ YGK:=C.3 (C.2 YUo) (C.3 (C.4 YIy ZKf) ZPl);rcases qM YGJ YGK with w | w
   ·refine YSW;exact r
   ·refine YSW;exact C.2 r
  ·by_cases q:j=0
   ·exact⟨YIy,YCx,λh=>e ((YOU a aD).trans (h.trans (YOU b ah).symm))⟩
   ·exact(L4.mp (acp q)).imp Zjv
theorem vq.rest{P:cn}{S:bu}(M:YqB)(F:Ynm)(D:YLX)(w:YS1):Rest a7 YAB∧(0<j↔∃p,YoJ∧YlL≠YlM):=by
 refine YM;obtain⟨E,xr,dO,h0,aM⟩:=M.4;refine ax (⟨⟨D,w,λp ar=>aa F.1 (⟨YRE.1,YRE.2.1,F.3 _ _ YRE.2.2⟩),aa F.1 (F.2 _ M.2)⟩,aM.trans ?_⟩);have e:∀p∈fr,E.f p.1=YlL∧E.f p.2=YlM:=λp ar=>by
  have z:=M.3 p (d8 _ ar);rw[F.1,←dO];exact⟨Cu xr.r3 ZfV (dO.symm▸z.1),Cu xr.r3 ZfV (dO.symm▸Z4)⟩
 exact exists_congr λp=>acO λar=>by rw[ZLp.1,ZLp.2]
abbrev hQ:=YFS
abbrev cv:=Yd×cn
def qV(N:Yd)(f:YL)(p:cE):Y1P:=(roots N.length f).flatMap λc=>(mz dr ZOa).map YsM
noncomputable abbrev jo (s:cv) (q:hQ):Y1P:=qV s.1 YUv YG
def pV(N:Yd)(f:YL)(q:hQ)(h:fT):Y1:=pU q.1 Y2Y h.2∧xp YsU h.2 YG h.1
theorem asy{f g:YL}(h:Ysp):Y2Y=roots N.length g:=acA λi af=>aT ZPo rfl
theorem asz{f g:YL}(W:Y0a)(h:Ysp):Ylf=i8 N g:=funext λc=>by
 unfold i8;refine aX ((acA λi af=>by rw[ZPo]:YaI ZjE=YaI λi=>g i==c)) ?_;refine ZbF;have af:=jK (ri af).1;have aq:N[i]?=some N[i]:=Y2q;rw[ho,aq];exact iF rfl (sv λc ao=>h c (lD ((W.2 i _ aq).2.2 c ao) af))
theorem asA{f g:YL}(W:Y0a)(h:Ysp)(p:cE):qV N f p=qV N g p:=by
 unfold qV
 (exact aX (asy h) (aa (asz W h) rfl))
theorem Xs{S:bu}{P:cn}(R:YRY)(q:hQ):F7 S YG=YVM:=asA R.1.wf (λO af=>Cu R.r3 (zF R.r3) af) _
variable{q:hQ}
theorem Gg{f:YL}(aF:Y1t)(W:Y0a)(F:YVe)(h:fT):h∈YoQ↔YWW:=by
 have nod:∀c x,x∈YVu↔x∈Y6R:=Zi8;have m:=Xf (nod:=ZiA) (R:=Y2Y) (λc x aq j aM=>pL.mpr ((qP.mp ((nod c x).mp aq)).elim λi z=>z.elim λy z=>by
  replace aM:=ZOL;exact Ywu λa w=>have e4:=lD ((W.2 i y z.1).2.2 a w.1) YAl;w.2▸⟨F.lt e4,F.2 a e4⟩)) q aF
 rw[(funext λx=>funext λc=>propext (nod c x):(λx c=>x∈YVu)=YsU)]at m;refine aj ZXI (⟨λz=>z.elim λc z=>(ee z.2).elim λt w=>aV w.2 (Yaj (YZb w.1)),λz=>⟨h.1,pL.mpr ((Gd (nod:=Ylf) q aF h.2 h.1 z).elim λO w=>YyV λi v=>v.elim λO v=>aV v.2.1 (⟨F.lt YUD,F.2 i YUD⟩)),kp ⟨h.2,(YoP.2.1 _).mpr ((m h.2 h.1).mpr z),rfl⟩⟩⟩)
theorem Xt(a b:Nat):eF Y1F Y3C=ZLL:=dec_lt a b
theorem Xu(a b:fT):eF ZQR ZQS=cond (b8 ZFW ZFY) (cond (b8 ZLe ZLf) false (eF ZLe ZLf)) (eF ZFW ZFY):=(ti _ _).trans rfl
theorem L5{f:YL}(p:cE):(qV N f p).Nodup∧j9 ((qV N f p).map h4):=by
 have key:(qV N f p).Pairwise λa b=>YCl∧eF ZQS ZQR=false:=by
  refine HF ⟨λc ao=>yg ?_,(Oq _ Ho:(roots N.length f).Pairwise YEp).imp λ{a b}h x aq y bb=>?_⟩
  ·have u:=qT dr ZOa;refine((Di.mp u.1).and (HC YI1)).imp λ{a b}h=>⟨λe=>h.1 Ykp.2,aj Z97 ZL1⟩
   show cond _ false (eF YjS YGV)=false;refine aX h.2 ?_;cases b8 YjS YGV <;> rfl
  ·obtain⟨t,O,rfl⟩:=ee aq;obtain⟨u,O,rfl⟩:=ee bb;refine⟨λe=>absurd Ykp.1 YU9,aj Z97 (dT (ic λe=>p8 h YMc) ?_)⟩;show ZME;exact aj (Xt ..) ZLO
 exact⟨HD (key.imp λh=>h.1),yg (key.imp λh=>h.2)⟩
open Classical in
noncomputable def applyN (most:Nat) (q:hQ) (s:cv) (h:fT):cv:=if YnL then s else Ytj
def mA(most:Nat)(q:hQ)(hs:Y1P)(s:cv):cv:=hs.foldl (applyN most q) s
def n9(most:Nat)(lots:Ydr)(s:cv):Y12:=
 let r:=lots.foldl YsE Yyq
 ((r.1,s.2++r.2),r.2.any λp=>h6 r.1 s.2 p.1 !=h6 r.1 s.2 p.2)
def kE(most:Nat)(q:hQ)(s:cv):Y12:=n9 most [YBo] s
def roundN(tr:Bool)(most:Nat)(s:cv):Y12:=cond tr ZJ4 ZVO
inductive iD where
 |once (q:hQ) |all |seq1 (a:iD) |Cx (a b:iD) |either (a b:iD) |rep (a:iD) (n:Nat)
def Cy(f:Y4w)(n:Nat):Bool→Y4w:=n.rec (λzH s=>(s,zH)) λO ai zH s=>cond (f s).2 (ai true YOu) Ytg
def eH(tr:Bool)(most:Nat)(p:iD):Y4w:=p.rec YME (roundN tr most) (λO A=>A) (λO O A B s=>(Ycu.1,(A s).2||Ycu.2)) (λO O A B s=>cond (A s).2 (A s) Ycu) λO n A=>Cy A n false
def gh(p:iD):V:=p.rec (λq=>YD [YcS,Y36]) (YD [Y4 6]) (λO a=>YD [YQE,a]) (λO O a b=>YD [YQE,a,b]) (λO O a b=>YD [Z29,a,b]) λO n a=>YD [Z2D,a,Y3D]
theorem Cz{cl:Calls}{es:Yv}{Q:Y0i}{f p:Nat}(bo:YGI)(hm:Ymy)(h:Y2d r m λvs aH=>cl f Z1x aH Y9L):ZGF.2 r m Q:=jS bo hm h
theorem fo{cl:Calls}{es:Yv}{Q:Y0i}{o:dj}(h:Y2d r m λvs aH=>o.o.ij cl vs aH Y9L):ZGH.2 r m Q:=h
theorem L6{cl:Calls}{a:E}{Q:Y0i}(h:YG6.2 r m λx ab=>Q (!x) ab):(bH cl Z0t).2 r m Q:=h
theorem Gh{cl:Calls}{a b:E}{Q:Y0i}(h:YG6.2 r m λx ab=>cond x (YSk.2 r ab Q) (Q false ab)):ZGE.2 r m Q:=h
abbrev vr(n:Nat)(q:hQ)(t:Tab):Y1:=jd Y3u (eS t n YG) (eS t n Yq)
theorem Gi{n m:Nat}{f:YL}(az:YB6):∀q∈cB,ZmA:=by
 have b:∀{x},x∈YDw→x<m:=λh=>ew ZWu.1 az;refine lY (P:=λq=>ZmA) YZ5 YZ5 YZ5 YZ5
 ·exact YbA λx z=>aa z.2 (⟨YZT,YZU,YZU,x,rfl,YCm⟩)
 ·obtain⟨x,aq,e⟩:=h;rw[Y0c]at e;exact e.elim λy z=>aa z.2 (⟨Znf,⟨⟨x,rfl,b aq⟩,y,rfl,YCm⟩,⟨y,rfl,YCm⟩,x,rfl,b aq⟩)
 ·exact YbA λx z=>aa z.2 (⟨YZT,⟨YZU,x,rfl,YCm⟩,x,rfl,YCm⟩)
 ·exact YbA λx z=>aa z.2 (⟨YZT,⟨YZU,trivial⟩,x,rfl,YCm⟩)
theorem vr.up{n m:Nat}{t:Tab}(h:vr n q t)(az:YB6):ZdI:=⟨h.1,lX az h.2,lX az h.3⟩
noncomputable abbrev pW (t:Nat):Bool:=Yjm
theorem Xv{d:Y1P}{x:fT}{s:cv}:mA most q YAc s=applyN most q (mA most q d s) x:=wc
abbrev tK(m:ag)(A:b9)(R:eC)(tr:Bool)(most cQ u:Nat)(P:cn)(S:bu)(fr:cn)(j:Nat):Y1:=hr Yj9 YqB ZVK Y2k
theorem L7(h:YAk)(k:Nat)(aR:4≤k):ZJt:=by
 have z:∀i,i<4→YTh→ZJt:=λi af h=>beq_false_of_ne λq=>absurd ZJ3 (ej (ew af aR));exact Y8P (z 1 Y2) λh=>Y8P (z 2 Y2) (z 3 Y2)
theorem L8{cl:Calls}{R:eC}{h u:Nat}(h0:Y5Y=Y2Z)(ak:YTL=Y3h)(B:ZVN)(af:i<4)(dp:Q YJl mh):(bH cl YF5).1 r mh Q:=
 bQ (aw (kA h0 B.1 rfl (aw (bc ak (aS ⟨_,_,B.2,YEd,YJl,by rw[gy,q9 af];rfl,dp⟩)))))
theorem asB(K:YN)(F:YZ){A:b9}{R:eC}{u:Nat}{P:cn}{S:bu}(aF:YGH)(hm:Y3f)(M:Ypd){h:fT}(ah:YqC)(he:Z7d)(h0:Y5Y=Y2Z)(ak:YTL=Y3h)(fG:cI r 5=Yp7){Q:Y0i}(dp:∀aW bl a7 qW x,Y4F→Y0Y→tK aW bl R tr most cQ u P a7 qW (cond x (j+1) j)→Ya1=ZEk→YCZ≤Y1Q+4→YKL→Q x aW):
  (bH (aU g ZSl) Z0A).2 r mh Q:=by
 refine Gh (L6 (Cz h0 M.3.1 (aS (asr (k:=k+8) K F M.3 M.1 (au M.4 Y2) ?_))));by_cases hf:ZV1
 ·rw[decide_eq_true hf];exact dp mh A S fr false Yy rfl M (by unfold applyN;exact(if_pos hf).symm) Yk YW
 ·rw[decide_eq_false hf];have az:Yeg:=au (hq hf) hm;have af:i<4:=eo aF;refine Cz h0 M.3.1 (aw (L8 h0 ak M.3 af (e5 fG (ass K F Yk3 (M.3.3 i q aF) Y2S ⟨Y2n,ah.3⟩ M.3 M.1 M.2.1 az he λab bl cK f bx G dO r0=>?_))));have dD:=kg M.2.1.2 Y2n;have w2:=kg YGS (lX YAd ah.3);have aD:YyN<cK.N.length:=aa dO YkC;have st:=M.2.step G aD (dO▸Y5m);have ln:cK.N.length≤S.N.length+3:=by refine ZCe;exact au (ZKj YEE).3 (c0 (lY (P:=λq=>YLT) Y2 Y2 Y2 Y2 q Yk3:YLT) _)
  have Xw:cK.N.length≤13:=au ln (h7 az 3);have c1:cK.e+cnt cK≤Y1Q+3:=acC (au G.6 (au (c0 ln _) (dH (by exact aX (gi S.N.length 3) Ywk))));have lW:(cK.N,fr++[(YyN,(iR h.2 q S.N).2)])=ZEk:=by unfold applyN;exact aL (if_neg hf) (aT dO rfl)
  have Xx:=bx.symm▸Z5c;refine⟨λe tJ=>dp ab bl _ _ false f bx ⟨tJ,Y0f e,Xx,Xw⟩ lW ?_ G.le,λe tJ=>dp ab bl _ _ true f bx ⟨tJ,Zb e,Xx,Xw⟩ lW ?_ G.le⟩
  ·show Yia+cnt cK≤_;rw[fO];exact dX c1
  ·have m:=B9 r0.1 aD (aa dO Y5m) e;show Yia+cnt (gM _ _ _)≤_;rw[fO];refine dX (au (c0 ?_ cK.e) c1);refine bL ((zt r0.1 m.1 YHJ YHK YHL)) ?_;exact Y1I
inductive asC(mh:ag)(A:b9)(R:eC)(tr:Bool)(most cQ u:Nat)(P fr:cn)(S:bu)(j:Nat)(q:hQ)(d:Y1P)(v0 v1 v2:Yp)(r:bG)(m:ag):Y1
 |mk (f:YS7) (bl:b9) (a7:bu) (qW:cn) (h2:Nat) (fl e0:Yp) (bx:Y0Y) (M:tK m bl R tr most cQ u P a7 qW YVJ) (dO:Ya1=mA most q d YZt) (e3:YCZ≤Z7a) (ln:YKL) (e:r=[v0,v1,v2,some YhD,fl,e0])
theorem L9(K:YN)(F:YZ){A:b9}{R:eC}{u:Nat}{P:cn}{S:bu}(aF:YGH)(hm:Y3f)(M:Ypd){hs:Y1P}(ah:∀h∈hs,YqC){c:Nat}(he:Z7b≤c)(ao:c≤799000)(bj:Zcp){ff:Nat}(hf:mh ff=some (tg,Y5 (hs.map h4)))(Xy:ea tg=false)(h:∀aW bl a7 qW h2,aB pW mh aW→Y0Y→tK aW bl R tr most cQ (u+1) P a7 qW YVJ→Ya1=mA most q hs YZt→YCZ≤c→YKL→Q YhD aW):aU g YDW 343 [YA3,Y4q,Z1s] mh Q:=by
 refine Y02;intro gb gc gd;refine el (cst (forL (bc rfl ⟨_,_,hf,?_⟩)));let asD:=λYOi=>asC mh A R tr most cQ u P fr S j q d Y2Z Y3h YN9;refine k0 hs h4 asD
  ⟨Yy,A,S,fr,0,none,none,rfl,M,rfl,YW,YW,rfl⟩ (λO O O z=>⟨tg,z.1 _ _ hf Xy⟩) YIh Y3k
 ·refine YM;obtain⟨f,bl,a7,qW,h2,fl,e0,bx,lZ,dO,e3,ln,rfl⟩:=z;refine Yb;have aq:x∈hs:=Y1o;have qe:Z7a+4≤Z7b:=by
   rw[dw];refine c0 ?_ _;refine fH e (bW cj (fH g5 (bL YK4 ?_)));exact iu 4 (YLB:Y5Z≤ZKW)
  refine cy (en (asB K F aF hm lZ ((ah x aq).up ln) (au (au e3 (au (cx _ 4) (au qe he))) ao) rfl rfl rfl λaH gm cK Ma b f2 kD M2 h5 asE ln2=>?_));have Xz:∀xt,h2+(cond b 1 0)=xt→jq [Y2Z,Y3h,YN9,some (ay xt),some YCk,some YAh] aH:=λxt fe=>e8 _ _ ⟨Y4z,gm,cK,Ma,xt,_,_,Y9M,by
   refine fU fe ?_
   cases b <;> exact M2,by refine aL Xv (um dO ?_);exact h5,au asE (au (h7 e3 4) (dH (by refine fH cj ?_;rfl))),au ln ln2,rfl⟩
  cases b with
  |true=>
   exact lS rfl (el (bQ (aw (bc rfl (aw (cst (aS (Xz (h2+1) rfl))))))))
  |false=>exact iP rfl (Xz h2 rfl)
 ·refine YM;obtain⟨f,bl,a7,qW,h2,fl,e0,bx,lZ,dO,e3,ln,rfl⟩:=z;obtain⟨L,eW,BN⟩:=Y5e.7;refine YSe;intro aBY;refine hO (mx (kA rfl Y5e.1 rfl ⟨⟨_,_,eW⟩,aw (bQ (aw (kA rfl Y5e.1 rfl (aw (bQ (aw (L8 rfl rfl Y5e (eo aF:i<4) (aS ⟨_,_,Y5e.3 i q aF,_,rfl,aw (d6 (bc rfl ⟨_,_,f _ _ hf Xy,?_,aw (bc rfl (aS ⟨rfl,aS ⟨_,_,eW,au BN (au bj Y2),?_⟩⟩))⟩))⟩))))))))⟩))
  ·refine Y2I;exact au (au (au (Oe _ Y0J) (au Y1X he)) ao:hs.length≤799000) Y0J
  have XA:aB YTg m (upd m R.af (13,Y5 (L++[V.tup [ay cQ,Z8Q,V.int (((hs.map h4).length:Nat):Int),YhD]]))):=aB.at eW rfl;refine cZ (bc rfl (h _ bl a7 qW h2 ((f.weak ZkR).trans (XA.weak ZkQ)) bx ⟨lZ.1.dq XA λt bq=>?_,lZ.2,?_,lZ.4⟩ dO (au e3 he) ln))
  ·exact Z5E
  ·exact⟨cg eW Y5e.1,cg eW Y5e.2,λi q e=>cg eW (Y5e.3 i q e),cg eW Y5e.4,cg eW Y5e.5,cg eW Y5e.6,⟨_,Yc,by refine YKs;exact dX BN⟩,cg eW Y5e.8⟩
abbrev gN(m:ag)(A:b9)(R:eC)(tr:Bool)(most cQ u c:Nat)(P:cn)(S:bu):Y1:=iG Yj9 YRY ZVK Y2k Z7e
theorem gN.vt{A:b9}{R:eC}{u c:Nat}{P:cn}{S:bu}(Z:ZP8)(F:Y6C):ZP6:=⟨YFj F,Z.2,Z.3.dq F rfl rfl rfl,Z.4,Z.5⟩
theorem gN.mid{A:b9}{R:eC}{u c:Nat}{P:cn}{S:bu}(Z:Y5b):tK mh A R tr most cQ u P S [] 0:=⟨Z.1,Z.2.mid,Z.3,Z.4⟩
theorem Gj{A:b9}{R:eC}{u c:Nat}{P:cn}{S:bu}(K:YN)(F:YZ)(M:Ypd)(he:Z7e)(ao:ZKQ)(h:∀aW bl a7,Y4F→Y0Y→gN aW bl R tr most cQ u c YAB a7→Yfg→(YAf=fr.any λp=>h6 S.N P p.1 !=h6 S.N P p.2)→YFV):YgM:=
 arp K F M.1 M.2.1 M.4 (au he ao) λaW bl a7 f bx tJ asF n4 w=>by
  have z:=M.2.rest n4 asF w;refine h aW bl a7 f bx ⟨tJ,z.1,aV bx.symm Z5c,aV n4.1.symm M.4,ZFH⟩ n4.1 ?_
  (refine xZ Bool.eq_iff_iff (aj ZXJ (aj (propext z.2) (aL (propext abO) (aa n4.1 ?_)))))
  exact exists_congr λp=>acP λO=>bne_iff_ne.symm
theorem XB{A:b9}{R:eC}{u c:Nat}{P:cn}{S:bu}(K:YN)(F:YZ)(Z:Y5b)(ao:ZKQ)(h:∀aW bl a7,Y4F→Y0Y→gN aW bl R tr most cQ u c P a7→Yfg→YFV):YgM:=
 Gj K F Z.mid Z.5 ao λaW bl a7 f bx cw dO O=>h aW bl a7 f bx (eL P▸cw) dO
theorem asG{S:bu}(ar:YQd)(az:Y2k):(F7 S p).length≤169:=by
 exact au (xm (m:=13) λc O=>aj YF (Xa ar c)) (mI 13 (m:=13) ZEq)
theorem gN.found{A:b9}{R:eC}{u c:Nat}{P:cn}{S:bu}(K:YN)(F:YZ)(Z:Y5b)(aF:Y1t)(h:ZlW):aU g ZSq 233 [YcC,Y4r] mh Q:=
 asd K F Z95 (lY (P:=λq=>vars YG≤100) Y2 Y2 Y2 Y2 q aF) (asn K F YAI Z.4 q aF) ⟨⟨0,Z.3.5⟩,Z.1⟩ YAI Z.4 λb aW ah f=>h b aW (Z96▸ah) f
theorem gN.good{A:b9}{R:eC}{u c:Nat}{P:cn}{S:bu}(Z:Y5b)(aF:Y1t):(∀h∈YVM,YqC)∧(jo ZX q).length≤169:=⟨λh bJ=>Gi YW q aF h.2 ((Gg aF Z.2.1.wf (zF Z.2.r3).1 h).mp bJ).1,Z96▸asG Z95 Z.4⟩
theorem XC{A:b9}{R:eC}{u c:Nat}{P:cn}{S:bu}(K:YN)(F:YZ)(Z:Y5b)(aF:YGH)(h:ZlW):aU g ZSr 331 [YA3,Y4q] mh Q:=by
 have af:i<4:=eo aF;refine Y02;intro gb gc gd;refine en (fo (aw (bQ (aw (kA rfl Y8j rfl (aw (bc rfl (aS ⟨_,_,Z.3.8,by refine aj List.length_replicate ?_;decide,YSf,by exact aj (List.getElem?_replicate) (ZRb),aw (kA rfl Y8j rfl Y3p)⟩))))))));show a6 _ UG [Y2Z,Y3h,none] mh ZS Q;refine el (nj rfl Y8j rfl Z.3.5 (aw (bQ (aw (L8 rfl rfl Z.3 af (aS ⟨_,_,Z.3.3 i q aF,_,rfl,aS (Z.found K F Yk3 λb m ah f=>?_)⟩))))));have B:=Z9E.3;refine Yt;intro asH;refine en (Gh (fo (aw (mx (kA rfl B.1 rfl ⟨Zmy,aw (cst (aw (cst (aS ⟨_,_,_,B.4,rfl,aw (cst (aS ⟨rfl,iP (ic Y5F) (iP (b:=false) rfl (f9 (cZ (bc rfl (h b m ah f)))))⟩))⟩))))⟩)))))
 cases tr <;> exact absurd YAH Yf
theorem Gk{cl:Calls}{e:E}{b s:Mine.Internal.S}{t:dY}(h:Zd r m λv ab=>lst v ab λp O l=>∃P:Y2j,Z6R∧(∀r m,Y69→YWO∧YKf)∧∀v vs r m,Y7H→YWO∧j3 t yE.o.weak v r Yrh):a6 cl (Y0A yE [e] t b s) r m Qn Q:=h
theorem Mb{cl:Calls}{es:Yv}{p q u w CA f:Nat}{hs:Y3}(bo:YGI)(hm:Ymz)(hf:Ykd)(aF:ZUK)(cR:sI[dM]?=some Y3U)(hz:m z=some (w,ZD C hs))(h:Y2d r m λvs aH=>cl f (Y3U::vs) aH Q):(bH cl (Ya YiJ Z1B es)).1 r m Q:=
 mx (bQ (aw (kA bo hm hf (aS ⟨_,_,aF,_,cR,⟨_,_,hz,trivial⟩,h⟩))))
theorem XD{cl:Calls}{p q u CA:Nat}{x:V}(bo:YGI)(hm:Ymz)(hf:Ykd)(aF:ZUK)(cR:sI[dM]?=YQ)(h:YFX):(bH cl Z1B).1 r m Q:=
 bQ (aw (kA bo hm hf (aS ⟨_,_,aF,_,cR,h⟩)))
theorem zI(f:ZAy):aB pW m ab:=f.weak ZkR
theorem asI:∀q∈cB,∀bS∈cB,ZGi:=by
 have n:∀{a b:Nat}{x y:cE×cE},ZW6=false→a=b→(a,x)=(b,y):=λh e=>absurd e Z4K;refine lY (P:=λq=>∀bS∈cB,ZGi) ?_ ?_ ?_ ?_ <;> refine lY (P:=λbS=>Y3F=_→bS=_) ?_ ?_ ?_ ?_ <;> first | exact Zf | exact n rfl
theorem XE(most:Nat)(q:hQ)(hs:Y1P)(s:cv):n9 most [(q,hs)] s=((YMO.1,s.2++YMO.2),YMO.2.any λp=>h6 YMO.1 s.2 p.1 !=h6 YMO.1 s.2 p.2):=rfl
abbrev XF(mh:ag)(A:b9)(R:eC)(tr:Bool)(most u c:Nat)(r:Y12)(Q:Y0i):Y1:=∀ab bl a7 kh,YKi→Y0Y→ZP7→ZAg→Q r.2 ab
inductive asJ(mh:ag)(pl:Nat)(q:hQ)(d:YV)(r:bG)(m:ag):Y1
 |mk (e:Y9O) (iA:∀j∈d,∀bS,ZJ6→bS≠q) (cT eY:Yp) (fB:r=[Y3L,Y2x,cT,eY,none])
variable{pl:Nat}
theorem asK{A:b9}{R:eC}{u c:Nat}{P:cn}{S:bu}(K:YN)(F:YZ)(aF:Y1t)(hm:Y3f)(Z:Y5b)(bj:Zcp)(ao:YiC≤799000)(ar:YVq)(h:XF mh A R tr most (u+1) YiC (kE most q ZX) Zhg):aU g ZSr 388 [Y8V,Y36] mh Q:=by
 refine Y02;intro gb gc gd;refine Gk (XD rfl ar rfl Y8j rfl ⟨_,_,YRq,?_⟩);have aE:∀j,j<4→∃bS,ZJ6:=λj aM=>⟨_,dy YvN⟩
 refine k0 YjQ ZjD (asJ mh pl q) ⟨rfl,λO aM=>ZDT,none,none,rfl⟩ (λO O O z=>aa z.1 (⟨0,YRq⟩)) ZiC Y3k
 ·obtain⟨rfl,iA,cT,eY,rfl⟩:=z;obtain⟨bS,vu⟩:=aE j (jK YgV:j<4);refine cy (en (fo (aw (kA rfl (Z.3.3 j bS vu) rfl YhB))));by_cases fq:Y3F=q.1
  ·have eq:=asI q aF bS ZNY fq;subst eq;refine lS (iI (V.str Y3F)) ?_;show a6 _ UW [Y3L,some (Y4 Y3F),YBL,some (Y0 (R.hM j)),none] m _ Q;refine Yt;intro XG;refine hO (Mb rfl ar rfl Y8j rfl YRo (aS (XB K F Z YSb ZjV)));have kF:=ZNv;refine Yt;intro aBZ;refine el (nj rfl kF rfl YDE (aw (bc rfl (aw (Mb rfl kF rfl YDE rfl YGf.5 (aw (kA rfl (YGf.3 j bS vu) rfl (aS (fg.found K F aF Zhf)))))))));have c9:=fg.vt f2;have mS:=fg.good aF;refine L9 (c:=YiC) K F vu hm c9.mid mS.1 ZPB ao bj ah rfl λbF jd oV fr h2 cz pP nf lW c1 O=>?_;have CC:kE most bS ZX=((oV.N,YAB),ZOg):=by
    unfold kE
    (exact aj Z91 (aV tL ZCP))
   replace h:=aQ CC h;refine Yt;intro asL;refine hO (Mb rfl (cz _ _ ZO6 rfl) rfl nf.3.1 rfl nf.1.1 (aS (Gj (k:=YDX) K F nf c1 ZF7 λeK hr xq f4 vo qX vp hd=>cZ YSq)));show Q (YK ZLJ) eK;exact aX ((dec_lt 0 h2).trans (l8 h2▸hd):ZLJ=ZOg) (h eK hr xq cQ ((YbF f2.iO).trans ZKN) (vo.trans (pP.trans xu)) qX vp)
  ·refine iP (ic λz=>fq Z8U) (e8 _ _ ⟨rfl,λi af ck av=>?_,_,_,rfl⟩);rcases iw af with af | af
   ·exact iA i af ck av
   ·replace av:=bN (bR af) av;exact λz=>fq (congrArg _ ((c4 vu av).trans z))
 ·refine YM;obtain⟨rfl,iA,O,O,O⟩:=z;obtain⟨i,af⟩:=List.getElem?_of_mem aF;exact ax (absurd rfl (iA i ZWT q af))
theorem forR{cl:Calls}{e:E}{b s:Mine.Internal.S}{t:dY}(h:Zd r m λv ab=>v.EA False λn=>YB5∧∃P:Y2j,P YDl r ab∧Zm1∧∀v vs r m,Y7H→YH3∧j3 t false v r Yrh):a6 cl (Y0A nM [e] t b s) r m Qn Q:=h
theorem asM(l:YV):YxV=((l.sum:Nat):Int):=by
 induction l with
 |nil=>rfl
 |cons a l ai=>
  have e:(intsOf ZAS).sum=Ya2+YxV:=yb;rw[e,ai,yb];rfl
theorem asN(a b:Nat):decide (0<a+b)=(decide (0<a)||decide (0<b)):=by
 cases a with
 |zero=>refine YgQ;rfl
 |succ a=>rw[decide_eq_true (ew ZSH Yk),decide_eq_true ZSH];rfl
def vv(most:Nat)(l:YRC)(s:cv):Y12:=l.foldl YsI Yb5
abbrev asO(mh:ag)(A:b9)(R:eC)(tr:Bool)(most u c:Nat)(r:Y12)(Q:Nat→Y6):Y1:=∀ab bl a7 kh j,YKi→Y0Y→ZP7→ZAg→YAf=r.2→Q j ab
abbrev asP(mh:ag)(A:b9)(R:eC)(tr:Bool)(most cQ u c:Nat)(T:Y12)(n:Nat)(v0 v2:Yp)(r:bG)(m:ag)(P:Y1):Y1:=∀(bl:b9)(a7:bu)(e1:cn)(j:Nat)(hx:Yp),Yfp→Y0Y→gN m bl R tr most cQ (u+n) ZIX e1 a7→T=(Y6n,YAf)→r=[v0,YBL,v2,hx,none]→P
abbrev asQ(mh:ag)(A:b9)(R:eC)(tr:Bool)(most cQ u c:Nat)(T:Y12)(n:Nat)(v0 v2:Yp)(r:bG)(m:ag):Y1:=∀P:Y1,asP mh A R tr most cQ u c T n v0 v2 r m P→P
variable{eY:Yp}
theorem turns{A:b9}{R:eC}{u c:Nat}{P:cn}{S:bu}(K:YN)(F:YZ)(hm:Y3f)(Z:Y5b)(bj:Yph)(ao:YiE)(h:∀ab bl a7 j hx,YKi→Y0Y→gN ab bl R tr most cQ (u+4) YCt YqF.1.2 a7→a7.N=YqF.1.1→YAf=YqF.2→Qn [Y2Z,YBL,Y84,hx,none] ab):a6 YSI UL Z9y mh Qn Q:=by
 refine forR Yhi;refine k0 cB.zipIdx Yse (λd=>asQ mh A R tr most cQ u c (vv most YaG ZX) d.length Y2Z Y84)
  (λO bA=>bA A S P 0 eY Yy rfl Z rfl rfl) Y2M YIh Y3k
 ·refine ZHR;subst qY;refine Yb;have aq:=ZWs;have hd:Y5Z≤4:=by
   have w:=Y7e;rw[cj,g5]at w;exact(show 4=ZKW from w)▸YLB
  have qZ:ZIV:=by
   refine aj ZO (bN YK4 ?_);exact ZEr
  refine t1 (el (bQ (aw (bc rfl (aw (jS rfl cw.3.1 (aw (bc rfl (aw (jS rfl cw.3.1 (e5 rfl (XC (k:=k+1) K F cw aq Zhf))))))))))));have c9:=ZKK;have mS:=cw.good (et aq);refine aS (L9 (k:=YDW) (c:=YTB) K F aq hm c9.mid mS.1 ZPB qZ (ZEs:Zbp≤1000) ah rfl λbF jd oV fr h2 cz pP nf lW c1 O=>Y3p);show a6 _ UK [Y2Z,some (ay YVJ),Y84,some (ay x.2),none] bF jq Q;refine hO (nj rfl nf.3.1 rfl nf.1.1 (aS (Gj (k:=YH7) K F nf c1 (au qZ Y2) λeK hr xq f4 vo qX vp aM=>f9 (Qr:=Q) (e8 _ _ (λO bA=>bA hr xq ZLy YVJ _ (f.trans (f2.iO.trans ZKN)) (vo.trans Yo5) ?_ ?_ rfl)))))
  ·rw[cj,sx,Du,←dw,←dw];exact qX
  ·have asR:vv most (YaF Yh) ZX=(YmX.1,YAf||YmX.2):=by
    unfold vv at vw ⊢;refine aX dK (aj wc (aT vw ?_));rfl
   have asS:YmX=((oV.N,ZLy),fr.any λp=>h6 oV.N e1 p.1 !=h6 oV.N e1 p.2):=by
    unfold kE;exact aj Z91 ZCP
   rw[asR,asS,vp,asN,←aM,l8]
 ·refine ZHR;subst qY;refine Yb;have fa:cB.zipIdx.map Yh=cB:=K2 cB;rw[fa]at vw;rw[vw]at h;exact f9 (Qr:=Q) (h m bl a7 j hx f bx cw rfl rfl)
theorem Gl{cl:Calls}{c:E}{elt:wG}{x:V}{N:Ys}(h:Yvd YMv m λok ab=>cond ok (elt YMv ab λy Ed=>Y8s∧N ZDd Ed) Ye5):mV YJh false r Ywp elt x acc m N:=h
abbrev zJ:=YlQ×Nat
def asT(most:Nat)(s0:cv)(Z:YKE)(s:cv):cv:=Z.foldl (λr z=>mA most Y5E (jo s0 Y5E) r) s
abbrev asU(mh:ag)(S:bu)(P:cn)(d:Z5S)(acc:Y3)(m:ag)(bU:Y1):Y1:=∀(W:YKE),Yf6=d→(acc=W.map ZlB)→(∀z∈W,m z.2=Za7)→Y7N→bU
abbrev asV(mh:ag)(S:bu)(P:cn)(d:Z5S)(acc:Y3)(m:ag):Y1:=∀bU:Y1,asU mh S P d acc m bU→bU
theorem asW{A:b9}{R:eC}{u c:Nat}{P:cn}{S:bu}(K:YN)(F:YZ)(Z:Y5b)(h:∀ab(W:YKE)b,Yf6=cB.zipIdx→Y1y=some (0,Y5 (W.map ZlB))→(∀z∈W,ab z.2=Za7)→Y0G→a6 YSI UM [Y2Z,Yp4,Y84,eY,Y6a] ab Qn Q):ZAX:=by
 refine Yt;intro aB0;refine el Z46;refine kf cB.zipIdx Yse (asV mh S P)
  (λO bA=>bA ([]) rfl rfl YYd Yy) Y2M YYq Y41
 ·refine ZfE;subst xv;have aq:=ZWs;have fg:=Z9E;refine my (jS rfl YDE (e5 rfl (XC (k:=k+1) K F fg aq λb aH ah f2=>⟨?_,cf _ _ (λO bA=>bA (W++[(x,b)]) ?_ ?_ YOM Y4z)⟩)))
  ·have w:=Y7e;replace w:=um YF (mL q0 YSm);exact ZED
  ·refine aj dK (aT q0 ?_);rfl
  ·refine ZBb;rfl
  ·exact(iw hz).elim (λh=>f2 _ _ (rT z h) rfl) λh=>Y1T▸ah
 ·refine ZfE;subst xv;exact λb ah=>⟨0,h _ W b q0 Yc (λz hz=>cY ah (rT z hz)) ZNt⟩
abbrev asX(m1:ag)(A:b9)(R:eC)(tr:Bool)(most cQ u c:Nat)(P:cn)(S:bu)(d:YKE)(acc:Y3)(m:ag)(bU:Y1):Y1:=∀(bl:b9)(a7:bu)(fr:cn)(nq:YV),aB pW m1 m→Y0Y→tK m bl R tr most cQ Zbp P a7 fr nq.sum→YvC=asT most ZX d YIx→YCZ≤ZIU→acc=a4 nq→YKL→nq.length=d.length→bU
abbrev asY(m1:ag)(A:b9)(R:eC)(tr:Bool)(most cQ u c:Nat)(P:cn)(S:bu)(d:YKE)(acc:Y3)(m:ag):Y1:=∀bU:Y1,asX m1 A R tr most cQ u c P S d acc m bU→bU
theorem asZ{A:b9}{R:eC}{u c:Nat}{P:cn}{S:bu}(K:YN)(F:YZ)(hm:Y3f)(Z:Y5b)(bj:Yph)(ao:YiE)(h:∀ab bl a7 j hx mW,YKi→Y0Y→gN ab bl R tr most cQ (u+4) YCt YW1.1.2 a7→a7.N=YW1.1.1→YAf=YW1.2→Qn Z9z ab):ZAX:=by
 refine asW K F Z λm1 W b q0 ah rT f1=>?_;have rU:W.length=4:=cA (bt (f:=λz:zJ=>z.1)) (congrArg l5 q0);have as0:∀z∈W,∀d rest,W=ZKT→Y6h=d.length∧cB[Y6h]?=some Y5E:=λz hz d rest e=>by
  have w:(Yf6)[d.length]?=Zas:=by rw[e,dK,ra (by rw[bt];exact YW),bt,rf];rfl
  replace w:=eT q0 w;refine⟨?_,(pJ (N:=cB) (x:=Y5E) (j:=Y6h) (et w))⟩;replace w:=aQ (acD) w
  cases q:cB[d.length]? with
  |none=>replace w:=YCo;exact YLF
  |some y=>replace w:=YCo;exact((gQ (cu w)).2.symm.trans YVc)
 refine Yt;intro asu;refine el (d6 Z46);have zA:nL 4=W.map ZlE:=by
  have w:nL 4=cB.zipIdx.map Yse:=rfl;rw[w,←q0,kJ];rfl
 refine aa zA ?_;refine kf W ZlE (asY m1 A R tr most cQ u c P S)
  (λO bA=>bA A S ([]) ([]) Yy rfl ((Z.vt f1).mid) rfl Z.5 rfl YW rfl) Y2M YYq Y41
 ·refine ZHU;subst qY;refine Yb;have aq:x∈W:=Y1o;have kS:=as0 x aq d rest e;have hd:Y5Z≤4:=by
   exact bL rU (bW e (aL cj (bW g5 YLB)))
  have mS:=Z.good (et kS.2);have qZ:ZIV:=by
   exact aj ZO (bN YK4 ZEr)
  have as1:=f _ _ ah rfl;have item:∀{cl:Calls}{Q':Yj},Q' Z1z m→(bH cl YPw).1 [some (ay Y1K),Y2Z,Y6a] m Q':=λaF=>bQ (aw (bc rfl (aw (bc rfl (aS ⟨_,_,as1,by refine aj YF ZEd;decide,Z1z,by refine aj (gy) (dU kS.1 (gS e (aX Yob (dU Yof ?_))));rfl,aF⟩)))));refine Gl (fo (aw (item (aw (cst (aS ⟨rfl,jS rfl M.3.1 (aw (bc rfl (aw (item (aS (L9 (k:=YDW) (c:=YTB) K F kS.2 hm M (λh bJ=>(mS.1 h bJ).up ln) (gR mR ZRy) qZ ZEs (f _ _ (rT x aq) rfl) rfl λbF jd oV tM h2 cz pP nf lW c1 Mc=>⟨?_,cf _ _ (λO bA=>bA jd oV tM (nq++[h2]) (f.trans cz) Yo5 ?_ ?_ ?_ ?_ ?_ ?_)⟩))))))⟩))))))
  ·exact aj YF (aj rH (au Zbv Y2))
  ·(refine acW cj (aa sx (acS ZO (aL ui (aL Ot ?_)))));exact nf
  ·refine aj lW (aX dO (aL wc ?_));rfl
  ·(refine fH cj (aa sx (bW YK4 YhU)));exact c1
  ·exact(dK (f:=ay) (l₁:=nq) (l₂:=[h2])).symm
  ·exact au ln Mc
  ·rw[cj,cj,rH];rfl
 ·refine ZHU;subst qY;refine ax (λe2 d7=>⟨0,_,_,Yc,K1 nq,aa (asM ..) ?_⟩);have M2:tK Ypv bl R tr most cQ (u+W.length) P a7 fr nq.sum:=⟨M.1.no Y5S,M.2,M.3.dq (p:=no) Y5S rfl rfl rfl,M.4⟩
  have fn:aB pW m Ypv:=Y5S;generalize Ypv=aH at M2 fn ⊢;have CC:YW1=((a7.N,YAB),fr.any λp=>YlL !=YlM):=by
   have LS:(cB.map Zk2).foldl YsE YIx=YvC:=by
    rw[List.foldl_map,dO,(cA (K2 cB) ((congrArg (z9 Yh) q0.symm).trans kJ):cB=W.map λz=>Y5E),List.foldl_map];rfl
   show((YZy.1,P++YZy.2),YZy.2.any _)=_;exact aa LS rfl
  rw[CC]at h
  (replace M2:=acX rU M2;replace mR:=DE rU mR)
  refine Yt;intro aB1;refine hO (nj rfl M2.3.1 rfl M2.1.1 (aS (Gj (k:=YH7) K F M2 mR ZF7 λeK hr xq f4 vo qX vp aM=>f9 (Qr:=Q) (h eK hr xq nq.sum eY _ (f1.iO.trans (f.trans (fn.trans ZfW))) (vo.trans bx) qX vp aM))))
theorem as2(a b:α):cond true a b=a:=rfl
theorem as3(a b:α):cond false a b=b:=rfl
theorem as4{s:cv}:ZYw=vv most cB s:=by unfold roundN vv;exact as2 _ _
theorem as5{s:cv}:roundN false most s=ZVO:=by unfold roundN;exact as3 _ _
theorem as6{A:b9}{R:eC}{u c:Nat}{P:cn}{S:bu}(K:YN)(F:YZ)(hm:Y3f)(Z:Y5b)(bj:Yph)(ao:YiE)(h:asO mh A R tr most (u+4) YCt ZYv λj ab=>Q Y8w ab):aU g (k+25) 348 [YA3] mh Q:=by
 refine Y02;intro gb gc gd;refine B0 (aw (cst (aw (d6 (d6 (kA rfl Y8j rfl ⟨_,_,YRq,YEd,?_⟩))))));show a6 _ UO [Y2Z,Yp4,Y84,none,none] mh ZS Q;have fin:∀{cw:Y12},ZYv=cw→∀ab bl a7 j hx mW,YKi→Y0Y→gN ab bl R tr most cQ (u+4) YCt cw.1.2 a7→a7.N=cw.1.1→YAf=cw.2→a6 YSI UN Z9z ab ZS Q:=λCq ab bl a7 j hx mW f bx fg dO fe=>by
  replace h:=aQ Cq h;refine Yt;intro aB2;refine zg (bQ (aw (kA rfl YDE rfl Y8v)));refine⟨_,_,YDE,(Y2:6≤9),(Y2:9≤100),cZ (Qn:=ZS) (bc rfl ?_)⟩;have fr:aB YTg ab (upd ab R.r (5,ZD 358 [YcD,Z1o,Z1l,YcC,Z1m,Z1j,ay ZJC,Z1n,Z1k])):=aB.at YDE rfl;have B:=YGf;exact h _ bl a7 ZJC j (f.trans (fr.weak ZkQ)) bx ⟨fg.1.dq fr λO bq=>Z5E,fg.2,⟨Yc,cg B.1 B.2,λi q e=>cg B.1 Z2w,cg B.1 B.4,cg B.1 B.5,cg B.1 B.6,Ycx λO z=>⟨cg B.1 z.1,z.2⟩,cg B.1 B.8⟩,fg.4,fg.5⟩ dO fe
 refine Yt;intro aB3;refine hO (nj rfl Y8j rfl YRo (aS (XB (k:=YH7) K F Z YSb ZjV)));refine en (fo (aw (mx (kA rfl YDE rfl ⟨⟨_,_,_,YGf.4⟩,aw (cst (aw (cst (aS ⟨_,_,_,YGf.4,rfl,aw (cst (aS ⟨by cases tr <;> rfl,?_⟩))⟩))))⟩))))
 cases tr with
 |true=>
  exact turns K F hm fg bj ao λab bl a7 j hx f bx cw dO fe=>fin (by rw[←tL];exact as4) ab bl a7 j hx none Yzg ZHe cw dO fe
 |false=>
  exact asZ K F hm fg bj ao λab bl a7 j hx mW f bx cw dO fe=>fin (by rw[←tL];exact as5) ab bl a7 j hx mW Yzg ZHe cw dO fe
theorem kG{cl:Calls}{a s:Mine.Internal.S}{n x:Nat}(bo:Y1H=Za4)(h:ZW7)(q:Y4E):ZAZ:=en (fo (aw (bc bo (aw (cst (aS ⟨rfl,iP ZRJ YkL⟩))))))
theorem tN{cl:Calls}{a s:Mine.Internal.S}{n:Nat}(bo:Y1H=YXF)(q:ZAb):ZAZ:=en (fo (aw (bc bo (aw (cst (aS ⟨rfl,lS (iI Yf2) q⟩))))))
def XH(cl:Calls)(t:dY)(b s:Mine.Internal.S)(Qn:hg)(Qr:Yj)(vs:Y3):Y5V:=vs.rec YsH λv O ai r m=>j3 t false v r λb6=>a6 cl b b6 m ai Qr
theorem as7{cl:Calls}{b s:Mine.Internal.S}{t:dY}{l:Y3}(h:XH cl t b s Qn Qr l r m):∃P:Y2j,P l r m∧Yzm:=⟨XH cl t b s Qn Qr,h,λO O z=>Znd,λO O O O z=>Znd⟩
def hF(p:iD):Nat:=p.rec Y5n 4 Zgg YrN YrN λO n a=>n*a
def k1(p:iD):Nat:=p.rec Y8A 0 (λO a=>a+2) ZgL ZgL λO O a=>a+2
def Md(p:iD):Y1:=p.rec (λq=>Y1t) True Zgg ZgM ZgM λO n a=>Y2X∧a
def r4(tr:Bool)(most:Nat)(l:YFQ)(s:cv):YGQ:=l.foldl (λr p=>(ZMM.1,r.2++[ZMM.2])) Yb4
theorem XI{d:YFQ}{x:iD}{s:cv}:r4 tr most YAc s=(ZMN.1,ZYU.2++[ZMN.2]):=by
 unfold r4;rw[wc];rfl
theorem gN.up{A:b9}{R:eC}{u c om ft:Nat}{P:cn}{S:bu}(Z:Y5b)(bj:u≤om)(ao:c≤ft):gN mh A R tr most cQ om ft P S:=⟨Z.1,Z.2,⟨Y8j,YRq,Z.3.3,Z.3.4,Z.3.5,Z.3.6,Z.3.7.imp λO z=>⟨z.1,au z.2 bj⟩,Z.3.8⟩,Z.4,au Z.5 ao⟩
abbrev r5(g:G)(k:Nat)(p:iD):Y1:=∀{mh:ag}{Q:Yj}{A:b9}{R:eC}{tr:Bool}{most cQ u c:Nat}{P:cn}{S:bu}{pl:Nat},Y3f→Y5b→u+YDM≤1000→ZIW≤799000→YVq→XF mh A R tr most (u+YDM) ZIW (eH tr most p ZX) Zhg→aU g k 381 [Y8V,YAo] mh Q
theorem Gm(l:YFQ):hv (l.map gh)=true:=by
 cases l with
 |nil=>rfl
 |cons p l=>cases p <;> rfl
theorem as8(bs:Yds):YtP=ZHa:=by
 induction bs with
 |nil=>rfl
 |cons b bs ai=>cases b with
  |true=>rfl
  |false=>exact ai
theorem as9(K:YN)(F:YZ)(aF:Y1t):r5 g Y7r Z0y:=λ{mh Q A R tr most cQ u c P S pl}hm Z bj ao ar h=>by
 refine Y02;intro gb gc gd;refine ZMw;exact tN rfl (cZ (jS rfl ar (aw (hD 1 rfl Y4Z rfl (aS (asK (k:=k+2) K F aF hm Z (ud bj) ao ar h))))))
theorem ata(K:YN)(F:YZ):r5 g Y7r YEu:=λ{mh Q A R tr most cQ u c P S pl}hm Z bj ao ar h=>by
 refine Y02;intro gb gc gd;refine ZMv;refine kG rfl rfl (tN rfl (cZ (bQ (aw (nj rfl ar rfl Y8j (aS (as6 (k:=k) K F hm Z bj ao λab bl a7 kh j f bx cw dO fe=>Y8v)))))));show Q (YK ZLK) ab;refine aX (dec_lt 0 j:ZLK=YAf) (aX fe ?_);exact h ab bl a7 kh f bx cw dO
abbrev atb(mh:ag)(A:b9)(R:eC)(tr:Bool)(most u c n:Nat)(T:YGQ)(l:Nat)(acc:Y3)(m:ag)(bU:Y1):Y1:=∀(bl:b9)(a7:bu)(e1:cn)(kh:Nat),Yfp→Y0Y→gN m bl R tr most kh (u+n) ZIX e1 a7→Y6n=T.1→acc=T.2.map YK→acc.length=l→bU
abbrev atc(mh:ag)(A:b9)(R:eC)(tr:Bool)(most u c n:Nat)(T:YGQ)(l:Nat)(acc:Y3)(m:ag):Y1:=∀bU:Y1,atb mh A R tr most u c n T l acc m bU→bU
theorem XJ{g:G}{k:Nat}(K:YN)(F:YZ){p:iD}{ps:YFQ}(kC:YAo=Yca)(hw:ZQY)(aE:Y9U)(dk:∀{tr most s},YLY=(ZYV.1,ZYV.2.any id))(kY:∀q∈ps,r5 g (k+1) q):r5 g (k+2) p:=λ{mh Q A R tr most cQ u c P S pl}hm Z bj ao ar h=>by
 have aP:Yv3:=Yi7
 refine Ynt;refine Y02;intro gb gc gd;refine el (hD 0 rfl aP rfl ?_);show a6 _ UU [Y3L,some Yca,some YQE] mh ZS Q;refine kG rfl rfl (kG rfl rfl (tN rfl (cZ (bQ (aw (tE (tF (d6 (bc rfl ⟨Y1X,aP,?_,?_⟩)))))))))
 ·exact Gm ps
 let atd:=λYOi YvP YJJ=>atc mh A R tr most u c YwG ZYT d.length acc m;refine kf ps gh atd
  (λO bA=>bA A S P cQ Yy rfl Z rfl rfl rfl) Y2M YYq Y41
 ·refine YM;refine ZfF;refine Yb;have aq:YYC:=Y1o;have ws:YwG+hF x≤YDM:=by refine aL hw ZOH;exact Yk
  have kF:=ZNn;refine my (jS rfl kF (e5 rfl (kY x aq hm cw ?_ ?_ kF λaH gm cK q1 f2 kD c9 h5=>⟨?_,cf _ _ (λO bA=>bA gm cK ((eH tr most x Y6n).1.2) q1 Y4z Y9M ?_ ?_ ?_ ?_)⟩)))
  ·refine ZEI;exact au (c0 ws u) bj
  ·refine aj ZO (bN YI5 ?_);exact au (c0 (iu 676 ws) c) ao
  ·refine aj e4 ?_;exact Yh7
  ·rw[dK,ui,acE,Ot,uh,←dw,←dw];exact c9
  ·exact bW XI (aV dO (aT h5 rfl))
  ·refine fH XI (aV dO (aT Gn ?_));exact(dK (f:=V.bool) (l₁:=ZYT.2) (l₂:=[_])).symm
  ·rw[cj,e4,cj];rfl
 ·refine YM;refine ZfF;refine Yb;rw[←hw]at cw;refine aX Gn ?_;generalize cM:(r4 tr most ps ZX).2=bs;revert bs;refine Y18;intro bs cM;have ate:bs.length≤2:=by
   replace e4:=bN cM (aQ YF (bN Gn e4));exact aa e4 aE
  refine λb ah=>YOO
  have ip:=bw m b YZh;have f1:aB no m ZcG:=Y11;generalize ZcG=m1 at ip f1 ⊢;refine kf bs V.bool (λd acc aH=>m1=aH∧acc=(d.filter id).map Yrc) Zn (λO O O z=>aV z.1 (⟨0,ip⟩)) (λd x rest e acc aH z N cf=>?_) λacc aH z=>?_
  ·obtain⟨rfl,rfl⟩:=z
   cases x with
   |true=>exact Gl ⟨au (au (by refine Y2I;exact YI4) (au YT2 ate)) Y2,cf _ _ ⟨rfl,by refine ZGm;rfl⟩⟩
   |false=>exact Gl (cf _ _ ⟨rfl,by refine ZGm;exact Y8L⟩)
  ·obtain⟨rfl,rfl⟩:=z;refine λe2 d7=>⟨0,λgg iQ=>⟨0,_,_,cY iQ Yc,_,_,Yc,λhz=>?_,?_⟩⟩
   ·refine gz (p5 hz) ?_;rfl
   ·show Q (YK YtP) _;refine aX (as8 ..) ?_;have f2:=(f1.trans (aB.new (x:=(0,Y5 YaA)) d7)).trans (aB.new (x:=Y5q) iQ);replace h:=yj cM (aQ dk h);exact h _ bl a7 kh (f.trans f2.iO) bx ((congrArg Prod.snd dO)▸ZKK) (congrArg NW dO)
theorem XK{u w b n:Nat}(h:u+b≤n)(e:YqG):u+w+a≤n:=aj ZO (au (c0 e u) h)
theorem XM{c w b n:Nat}(h:c+676*b≤n)(e:YqG):ZIY+676*a≤n:=aj ZO (bN YI5 (au (c0 (iu 676 e) c) h))
theorem atf{g:G}{k:Nat}(K:YN)(F:YZ){a b:iD}(aD:ZYW)(ah:r5 g k b):r5 g (k+2) Y9w:=λ{mh Q A R tr most cQ u c P S pl}hm Z bj ao ar h=>by
 refine gJ ZT K rfl Y2 (el (hD 0 rfl Y5I rfl (kG rfl rfl (kG rfl rfl (kG rfl rfl (tN rfl (cZ (jS rfl ar (aw (d6 (bc rfl ⟨fp 1 2,Y5I,Gm Y1R,aS (gJ ZT K rfl Y2 (WI (bc rfl (as7 ?_))))⟩)))))))))));show a6 ZH FK [Y3L,Za6,ZaT] mh (λr m=>a6 ZH FK (r.set 2 ZaU) m (λr m=>a6 ZH UY r m ZS Q) Q) Q;refine Yt;intro aB4;refine(en (Cz rfl ar (e5 rfl (aD hm Z (au ZIf bj) (au ZIh ao) ar λm1 CB qO atg f1 xu fg tL=>?_))));have hE:eH tr most Y9w ZX=cond YGX.2 YGX Yjd:=rfl;replace h:=YgF
 cases e:YGX.2 with
 |true=>
  replace h:=YLo;exact cZ (Qn:=ZS) (cst (aV e (h m1 CB qO atg f1 xu (fg.up ZIf ZIh) tL):Q Y0h m1))
 |false=>
  replace h:=YLo;have kF:=ZNv;show a6 _ FK [Y3L,Za6,ZaU] m1 _ Q;refine Yt;intro aB5;refine en (Cz rfl kF (e5 rfl (ah hm fg (XK bj YW) (XM ao YW) kF ZhZ)))
  (replace c9:=mK YI5 (Aq ZO (lG ZO c9));rw[tL]at c9)
  (rw[tL]at h5;refine aa tL ?_)
  show cond Yjd.2 _ _;have q:=h aH gm cK q1 Y7k (kD.trans xu) c9 h5
  cases aC:Yjd.2 with
  |true=>exact cZ (Qn:=ZS) (cst (aC▸q:Q Y0h aH))
  |false=>exact cZ (Qn:=ZS) (cst (aC▸q:Q Y1B aH))
theorem XN{f:Y4w}{n:Nat}{zH:Bool}{s:cv}:Cy f (n+1) zH s=cond (f s).2 (Cy f n true YOu) Ytg:=rfl
abbrev ath(mh:ag)(A:b9)(R:eC)(tr:Bool)(most u c w:Nat)(T:Y12)(F:Y4w)(n:Nat)(b:Bool)(v0 v1 v2:Yp)(r:bG)(m:ag)(bU:Y1):Y1:=∀(bl:b9)(a7:bu)(e1:cn)(kh:Nat)(eY:Yp),Yfp→Y0Y→gN m bl R tr most kh (u+w) ZIY e1 a7→T=Cy F n b Y6n→r=[v0,v1,v2,eY]→bU
abbrev ati(mh:ag)(A:b9)(R:eC)(tr:Bool)(most u c w:Nat)(T:Y12)(F:Y4w)(n:Nat)(b:Bool)(v0 v1 v2:Yp)(r:bG)(m:ag):Y1:=∀bU:Y1,ath mh A R tr most u c w T F n b v0 v1 v2 r m bU→bU
theorem atj{g:G}{k:Nat}(K:YN)(F:YZ){a:iD}{n:Nat}(az:Y2X)(aD:ZYW):r5 g (k+2) YF8:=λ{mh Q A R tr most cQ u c P S pl}hm Z bj ao ar h=>by
 refine gJ ZT K rfl Y2 (el (hD 0 rfl Y5I rfl (kG rfl rfl (kG rfl rfl (kG rfl rfl (kG rfl rfl (tN rfl (cZ (jS rfl ar (aw (hD 1 rfl Y5I rfl (aw (hD 2 rfl Y5I rfl (aS (gJ ZT K rfl Y2 (forR (d6 (bc rfl ZnD))))))))))))))))));refine k0 Y6L ay (λd=>ati mh A R tr most u c YTl (eH tr most YF8 ZX) ZMK YHP YTw Y3L ZaT YHo)
  (λO bA=>bA A S P cQ none Yy rfl (by rw[Hl,Oo];exact Z) rfl rfl) Y2M YIh Y3k
 ·refine ZHS;subst qY;have w:YwS:=YT4
  have hd:ZKX:=ZHm
  have ex:Zei:=ZI8
  have ws:ZKV:=Zdd;obtain⟨j,fe⟩:ZmT:=ZnX
  refine Yb;have Me:ZVB:=ZHq
  replace hE:=bL XN (pf fe hE);have kF:=ZNn;refine t1 (en (L6 (Cz rfl kF (e5 rfl (aD hm cw (XK bj ws) (XM ao ws) kF ZhZ)))));rw[dw,dw,←uh,←wb]at c9;show cond (! Yjb.2) _ _
  cases cM:Yjb.2 with
  |true=>
   rw[cM]at hE;refine e8 _ _ (λO bA=>bA gm cK (Yjb.1.2) q1 _ Y4z Y9M ?_ ?_ rfl)
   ·refine ZD2;exact c9
   ·rw[cj,sx,Me,ZLQ,h5];exact hE
  |false=>
   replace hE:=ZX4;replace h:=YgF;refine ZD9;refine ZJL;show Z6n;exact YwJ▸(h aH gm cK q1 Y4z Y9M (c9.up (c0 YMS u) (c0 (iu 676 YMS) c)) h5)
 ·refine ZHS;subst qY;refine Yb
  (rw[fN]at cw;rw[fN]at hE)
  rw[rf]at hE;replace h:=YgF;refine cZ YSq;show Z6o;exact YwK▸h m bl a7 kh f bx cw rfl
theorem vx(k c a b:Nat):k+c+(a+b)=k+b+c+a:=dS (fO k b c) (aL (dw (k+c) ..) (bW ZPP rfl))
theorem Mf(k a:Nat):Y7r+a+1=k+1+26+a:=aj (fO Y7r a 1) (dS (fO k 26 1) rfl)
theorem atk{k:Nat}(K:YN)(F:YZ){p:iD}(ok:Md p):r5 g (Y7r+k1 p) p:=by
 induction p generalizing k with
 |once q=>exact as9 K F ok
 |all=>exact ata K F
 |seq1 a ai=>
  exact @XJ g ZSt K F YcR [a] rfl YZs Y5H ZlK λq aF=>aa Y0H (aa Ye3 ZE2)
 |Cx a b eh eQ=>
  refine @XJ g ZSs K F Yzx Y1R rfl Yw6 Y5t Yzl YOI
  ·exact aa e (aa Ye3 YSO)
  ·exact aa Y0H (aa Ye3 YSL)
 |either a b eh eQ=>
  refine @atf g ZSs K F a b ?_ ?_
  ·exact YSO
  ·exact YSL
 |rep a n ai=>exact @atj g ZSt K F a n YHV ZE3
def lz(T:Y3)(x:a8):V:=YD (YC9::Y5B λc=>Z8E)
def bM(N:Yd):Y3:=N.foldl ZhH []
theorem xw(N:Yd)(x:a8):bM YA9=Yr++[YHI]:=wc
theorem iE(N:Yd):Y8H=N.length:=by
 have h:∀T:Y3,(N.foldl ZhH T).length=T.length+N.length:=by
  induction N with
  |nil=>exact Zf
  |cons x N ai=>exact λT=>YvU
 exact(h []).trans YVc
theorem XO(N X:Yd):∃Y,ZGX=Yr++Y:=by
 induction X generalizing N with
 |nil=>exact⟨[],aL Y1U ZKB⟩
 |cons x X ai=>exact(ai YA9).elim λY e=>⟨YHI::Y,by rw[show N++x::X=YA9++X from(hG N [x] X).symm,e,xw,hG];rfl⟩
theorem Gp{X:Yd}(af:Y2t):ZGX[i]?=Y8I:=(XO N X).elim λY e=>by exact aT e ((qb (aL Y3d af)))
theorem atl{T iY:Y3}{x:a8}(h:∀c∈x.2,Z8G):lz T x=lz iY x:=congrArg (λl=>V.tup (YC9::l)) (sv λc ao=>by rw[ho,ho,YUp])
theorem tO(W:Y0a){x:a8}(h:Y4i):Y8I=YpA:=by
 have af:=eo h;have e:N=Ye7++YRF:=by
  have aJ:N.drop i=x::YRF:=by refine um (YmG.2) ?_;exact NV af
  exact aL Y0k (bW List.singleton_append (fU aJ ((Ai ..).symm)))
 have li:(N.take i).length=i:=Oi YUw;have aC:Y8I=(bM Ye7)[i]?:=by
  have w:=Gp (N:=Ye7) (X:=YRF) (i:=i) (aL cj (dS li YWF));replace w:=gT e w;exact w
 refine aj aC (aT YNm (aj (ra (aj Y3d (aj li YW))) (dU Y3d (dU li (aX Yof ?_)))));refine congrArg some (atl Yri);have w:=Gp (N:=Z5i) (X:=[x]++YRF) (i:=c) (aL li ((W.2 i x h).2.2 c ao));replace w:=gT e (gT Y0k w);exact w.symm
theorem atm{g:YKG}{l l':YV}(h:∀a∈l,∀b∈l',g a=g b→a=b)(e:l.map g=l'.map g):l=l':=by
 induction l generalizing l' with
 |nil=>cases l' with
  |nil=>rfl
  |cons _ _=>exact ZDX
 |cons a l ai=>cases l' with
  |nil=>exact ZDW
  |cons b l'=>
   have e:=YGh;exact aT (h a b3 b b3 e.1) (congrArg _ (ai (λa aD b ah=>h a ZMR b Yje) e.2))
theorem CD(h:Y2t):∃x,Y4i:=⟨_,YU1⟩
theorem atn(W:Y0a):∀(n i j:Nat)(v:V),i<n→YJ1→Yr[j]?=Ym→i=j:=by
 intro n
 induction n with
 |zero=>exact λi O O h=>YCe
 |succ n ai=>
  intro i j v BP af aM;have lt:∀{i v},YJ1→Y2t:=λh=>by have w:=eo h;replace w:=ZGR;exact w
  obtain⟨x,aq⟩:=CD (lt af);obtain⟨y,bb⟩:=CD (lt aM);replace af:=aQ YNP af;replace aM:=aQ Zba aM;have e:=g4 (V.tu ((cu af).trans (cu aM).symm));have i5:x.2=y.2:=atm (λa aD b ah q=>by
   have e4:=YRm.2.2 a aD;have ga:Yr[a]?=some (Y8G a Y7):=by rw[ho,dy (by rw[iE];exact lD e4 (lt YNP))];rfl
   have sN:Yr[b]?=some (Y8G b Y7):=by rw[ho,dy (by rw[iE];exact lD ((W.2 j y bb).2.2 b ah) (lt Zba))];rfl
   exact ai a b _ (ew e4 ZQw) ga (aa q sN)) e.2
  exact(xX YLc W.1).mp (aq.trans ((iF (V.str_inj e.1) i5:x=y)▸bb.symm))
theorem Mg(W:Y0a):(bM N).Nodup:=HD (N5.mpr λi j af aM gK e=>ej gK (atn W (i+1) i j _ YWF Y2q (aa e ZLk)))
def lA(L:Y3):dm:=dW id (hi L)
open Classical in
theorem Mh{L:Y3}{v:V}(bZ:L.Nodup)(h:L[i]?=Ym):YiO=Y3h:=by
 have e:ZIz:=ZXs;obtain⟨j,fe,aM⟩:=w6 YUL;refine aj e (aX fe (dU ((xX YLb bZ).mp (aM.trans h.symm)) ?_));rfl
open Classical in
theorem ato{L:Y3}{v:V}(h:v∉L):YiO=none:=by
 have e:ZIz:=ZXs;rw[e,Yda];rfl
open Classical in
theorem atp{L:Y3}{v:V}(h:v∉L):eE ZTq v (ay L.length)=lA (L++[v]):=by
 unfold lA;exact bW Z8c (zi (kv:=id) Y4V Yda)
def fL(T:Y3)(t:Tab)(p:cE):V:=p.rec (λn=>T.getD YBp Y7) Zjp Zjh Zjg
theorem atq{T iY:Y3}{t:Tab}{n:Nat}(h:∀c,c<n→Z8G)(ah:YLZ):YkR=fL iY t p:=by
 induction p with
 |v x=>
  obtain⟨c,e,ao⟩:=ah;show Z8D=iY.getD YBq Y7;rw[e,ho,ho];exact congrArg (·.getD Y7) YUp
 |c o=>rfl
 |u o a ai=>exact ZK4
 |b o a b eh eQ=>
  show V.tup [ZE,fL T t a,fL T t b]=V.tup [ZE,fL iY t a,fL iY t b];exact ZCn
theorem Mi{T:Y3}(ah:YAi):fL T [] p=Zl:=by
 induction p with
 |v x=>exact ah.elim Yrk
 |c o=>rfl
 |u o a ai=>exact ZK4
 |b o a b eh eQ=>
  show V.tup [ZE,fL T [] a,fL T [] b]=V.tup [ZE,bB a,bB b];exact ZCn
theorem Mj{t:Tab}{M:Yd}(h:YBb)(ah:YAj):fL (bM M) t p=YDC:=h.elim λX e=>atq (λO ao=>e▸Gp ao) ah
theorem XP{x:a8}(W:Y0a)(aq:x∉N)(aA:YGu)(aE:YIH)(aR:∀c∈x.2,YLC):fm YA9:=⟨Dz ⟨W.1,Y7v,Zgh⟩,λi y bb=>by
 by_cases q:Y2t
 ·replace bb:=aQ ZY2 bb;exact W.2 i y bb
 ·have e:i=N.length:=mG (hp (by have w:=eo bb;replace w:=YSm;exact w)) Y9F;replace bb:=aQ (ug) Yha;exact aa e (aV Yiv ZnC)⟩
theorem CE{o:Nat}{r:Y8c}(W:fm r.1)(aA:Y4M)(aE:YoX≤2)(aR:∀c∈r.2,c<YHg):fm Y6q∧ZGY[Y8M]?=some ZUG:=by
 by_cases h:YPB
 ·obtain⟨i,e,af⟩:=w6 h;have w:=Z3N;have aJ:YOp:=w.1;have aC:Y8M=i:=w.2;rw[aJ,aC];exact⟨W,ZbZ⟩
 ·have w:=zB h;have aJ:YJD:=w.1;have aC:YaN:=w.2;rw[aJ,aC,xw,←iE r.1];exact⟨XP W h aA aE aR,ug⟩
theorem r6{t:Tab}:∀{N:Yd},Y0a→Yl1→YAj→fm Y6t∧(bM Y6t)[YBn]?=some YDC:=by
 have Mk:∀{T:Y3}{i:Nat}{v:V},T[i]?=Ym→T.getD i Y7=v:=λh=>by refine aj (ho) YFt;rfl
 induction p with
 |v x=>
  intro N W _ ah;refine YM;obtain⟨c,e,ao⟩:=ah;refine Yb;have aC:(putN t (.v x) N).2=c:=by show YBq=c;refine YCa;rfl
  refine mL aC (⟨W,?_⟩);show Ya8=some (Y8G YBq Y7)
  (refine aa e (bW (ho) ?_))
  show Ya8=some (Yr[c]?.getD Y7);rw[ZLi];rfl
 |c o=>exact λW aA ah=>CE (r:=(_,[])) W Yfk Z0 λc ao=>ZDU
 |u o a ai=>
  intro N W aA ah;have aA:=cL Yfk;have ak:=ai W (YY aA.2) ah;have m:=CE (o:=o) (r:=Ytq) ak.1 aA.1 Y5H λc ao=>aj (bR ao) ((kg (p:=a) W.1 ah).2);refine ZnU;show V.tup [ZE,(bM Y1g.1).getD YEk Y7]=V.tup [ZE,ZOJ];exact aa (Mk ak.2) rfl
 |b o a b eh eQ=>
  intro N W aA ah;refine pg Yfk YIf;have ak:=eh W YbZ Y2S;have dD:=kg W.1 Y2S;have d7:=ZTx;have av:=eQ ak.1 Z0Y d7;have w2:=kg YGS d7;have m:=CE (o:=o) (r:=Ytr) YG2 bD Y5t λc ao=>Ywm (λe=>aj e YkC) λh=>aj Y1T Y5m;refine ZnU;show V.tup [ZE,Yvg YEk Y7,Yvg Y81.2 Y7]=V.tup [ZE,ZOJ,fL Yr t b];exact aa (Mk YG3) (aa (Mk (YEE.2.elim λX e=>by refine gT e (aj (Gp dD.2) ?_);exact ak.2)) (aa (Mj YTp Y2n) rfl))
structure fu where
 (b T L:Nat)
def gw(p:Y0j):V:=YD [ZFZ,Y7Y]
noncomputable abbrev gO (B:fu) (pp:Nat) (ext:dm):dm:=(YcV,Z1h)::(Z2C,Z1g)::(YcT,YcH)::ext
abbrev fv(m:ag)(B:fu)(s:cv)(ext:dm):Y1:=jd (∃pp,m B.b=ZaI∧m pp=some (0,Y5 YN2)) (m B.T=some (12,Y5 YhY)) (m B.L=some (20,Y9 4 (lA YhY)))
variable{ext:dm}{B:fu}
theorem fv.dq{p:Z9}{s:cv}(Z:ZOn)(F:YFo)(h0:YWP)(da:p 4=false)(atr:p 12=false)(ats:p 20=false):ZOk:=⟨Yf9 λO z=>⟨F _ _ z.1 da,F _ _ z.2 h0⟩,F _ _ Z.2 atr,F _ _ Z.3 ats⟩
theorem fv.no{s:cv}(Z:ZOn)(F:Y6C):ZOk:=Z.dq F rfl rfl rfl rfl
noncomputable abbrev jF:Z9:=cl 4
def jG(N:Yd):Y1:=∀v∈Yr,ZOO
theorem XQ(n:Nat):∀v,YGd→fV (n+1) v=true:=by
 induction n with
 |zero=>exact Zc
 |succ n ai=>
  intro v h;refine YM;obtain⟨vs,e,h⟩:=V.ph (h:Zcq);refine ax YgN
  cases vs with
  |nil=>exact Y0L
  |cons a r=>
   have h:=Y1q;exact lF ⟨h.1,sz λx aq=>ai x (ju h.2 x aq)⟩
theorem k2{n m:Nat}(h:YB6){v:V}(t:YGd):fV m v=true:=h.rec t λO ai=>XQ _ v ai
theorem r7{n:Nat}{o:Nat}:fV (n+1) Y2Q=true↔∀v∈vs,YGd:=(aX Zep (NC):(true&&vs.all ZOP)=true↔_)
theorem kH{cl:Calls}{n p:Nat}{x:V}(bo:Y1H=Yoz)(hm:m p=YpD)(cR:c8 es ZM=YQ)(h:YFX):(bH cl (.op fc ZAB)).1 r m Q:=bQ (aw (bc bo (aw (cst (aS ⟨_,_,_,hm,rfl,_,cR,h⟩)))))
theorem XR{P:cn}{o:Nat}(Z:Y3r)(W:Y0a)(aE:Y8d)(aA:Y4M)(av:YgO)(aR:∀c∈aZ,YLC)(aO:Z8W=ZUE)(bq:fV 8 Y2Q=true){cT:Yp}(h:∀ab,Y8p→fv ab B (YEe,P) ext→Q (ay Y93.2) ab):a6 ZH KQ Z9w mh ZS Q:=by
 refine YM;obtain⟨pp,ah,nr⟩:=Z.1;refine Yb;have oW:ZIy:=rfl;have xx:YTJ:=rfl;refine Yt;intro aB6;refine en (fo (aw (bc rfl (aw (kH rfl ah oW (aS ⟨_,_,_,Z.3,bq,?_⟩))))));by_cases hm:Z6∈N
 ·obtain⟨i,e,af⟩:=w6 hm;have w:=Z3N;have aJ:YEe=N:=w.1;have aC:Y93.2=i:=w.2;rw[aJ,aC]at h;have l0:c8 ZTp Y2Q=Y3h:=Mh Z5d (aa aO ZbZ);refine OU l0 ?_;show a6 ZH U7 Z9w mh ZS Q;refine Yt;intro aB7;exact cZ (bQ (aw (kH rfl ah oW (aw (bc rfl (aS ⟨_,_,_,Z.3,bq,_,l0,h mh Yy Z⟩))))))
 ·have w:=zB hm;have aJ:YEe=YFR:=w.1;have aC:Y93.2=N.length:=w.2;rw[aJ,aC]at h;have att:=XP W hm aA av aR;have bZ:=Mg att;replace bZ:=sC aO (bL YNm bZ);have uv:Z8W∉Yr:=λq=>(HE bZ).2.2 _ q _ Y2v rfl;refine OU (ato uv) ?_;have vy:Yvj:=aj Y3d aE;show a6 _ U6 _ _ _ _;refine Yt;intro aB8;refine tq (d6 (kH rfl ah xx ⟨_,_,Z.2,Yh8,kH rfl ah oW (bc rfl ⟨_,_,_,Z.3,bq,?_,?_⟩)⟩))
  ·exact aj YF (aj Z8b Yh8)
  have atu:eE ZTp Y2Q (YI ((Y8H:Nat):Int))=YVd:=atp uv;refine aa atu ?_;have f1:aB jF mh ZcS:=aB.at Z.3 rfl;have Ml:=bw mh B.L (20,ct.dict 4 YVd);have tP:upd mh B.L YIv B.T=some (12,Y5 Yr):=cg Z.3 Z.2;have ip:upd mh B.L YIv B.b=ZaI:=cg Z.3 ah;have kF:upd mh B.L YIv pp=Za8:=cg Z.3 nr;generalize ZcS=m1 at f1 Ml tP ip kF ⊢;refine hO (mx (kH rfl ip xx ⟨⟨_,_,tP⟩,e5 rfl ⟨_,_,tP,Yh8,?_⟩⟩));have vw:bM YFR=YCn:=aj YNm (sC aO rfl);have l0:c8 YVd Y2Q=some YG4:=Mh bZ (iE N▸ug);exact f9 (Qr:=Q) (cZ ((bQ (aw (kH rfl ZJq oW (aw (bc rfl (aS ⟨_,_,_,ZJp,bq,_,l0,h _ (f1.trans (aB.at tP rfl:aB jF m1 ZcL)) (⟨⟨pp,ZJq,cg tP kF⟩,by refine aa vw ?_;exact Yc,aa vw ZJp⟩:fv ZcL B (YFR,P) ext)⟩))))))))
theorem Gq{l:Y3}(h:∀v∈l,Zcu):ZR1:=by
 cases l with
 |nil=>rfl
 |cons a r=>exact(V.ph (YGo:a.eM false Y2A=true)).elim Zkr
theorem Mm{n:Nat}{v:V}(h:YGd):Zcu:=by
 cases n with
 |zero=>exact Y0L
 |succ n=>exact(V.ph (show Zcq from h)).elim Zkr
abbrev atv(mh:ag)(B:fu)(N:Yd)(P:cn)(ext:dm)(st:Ydw)(J:Ydv)(ll:Y5O)(d:ZC)(r:bG)(m:ag)(bU:Y1):Y1:=YFm→ZOm→J YGR→∀(cT:Yp),r=ll cT→bU
abbrev atw(mh:ag)(B:fu)(N:Yd)(P:cn)(ext:dm)(st:Ydw)(J:Ydv)(ll:Y5O)(d:ZC)(r:bG)(m:ag):Y1:=∀bU:Y1,atv mh B N P ext st J ll d r m bU→bU
theorem XS{P:cn}(F:YZ)(l:ZC)(kv:Y6i)(st:Ydw)(J:Ydv)(va:J N){o:Nat}(aE:l.length≤2)(bq:∀v∈Y7u,fV 7 v=true)(Z:Y3r)(H:∀d x rest,l=YCw→∀(m:ag)(Q':Yj),YFm→ZOm→J YGR→(∀v ab,ZAz→fv ab B (Zay,P) ext→J Zay→Q' v ab)→aU g k 655 [Y1Z,Y3v] m Q')(h:∀m cT,YFm→fv m B (ZTf,P) ext→J ZTf→a6 ZH KQ Z9v m ZS Q)(K:YN):aU g (k+1) 655 [Y1Z,Z2L] mh Q:=by
 have aP:(YKS::Y7u).length≤1000001:=YFy;refine Y02;intro gb gc gd;refine WI (d6 (bc rfl ⟨Y1X,aP,Gq λv aO=>Mm (bq v aO),?_⟩));refine k0 l kv (atw mh B N P ext st J λcT=>Z9v) (λO bA=>bA Yy Z va none rfl) Y2M YIh Y3k
 ·refine ZfH;subst xy;exact t1 (hO (eZ (oS rfl rfl (H d x rest e m _ f cw j λO O dZ c9 xt=>f9 (Qr:=Q) (e8 _ _ (λO bA=>bA YUY (aT wc c9) (aL wc xt) _ rfl))))))
 ·refine bp λax=>ZfH;subst xy;exact ax (h m cT f cw j)
theorem fold_same(l:ZC)(N:Yd):l.foldl (λ(N:Yd)(_:α)=>N) N=N:=by
 induction l with
 |nil=>rfl
 |cons a l ai=>exact ai
theorem atx{P:cn}(K:YN)(F:YZ)(W:Y0a)(c2:Y53)(aE:Y8d):∀(n i k:Nat)(v:V){mh:ag}{Q:Yj},i<n→Y3r→YJ1→(∀ab,Y8p→fv ab B (N,P) ext→Q Y4q ab)→aU g (k+1+i) 655 [Y1Z,v] mh Q:=by
 intro n
 induction n with
 |zero=>exact λi O O O O h=>YCe
 |succ n ai=>
  intro i k v mh Q BP Z aO h;have Mn:Y2t:=ZHn
  obtain⟨x,aq⟩:=CD Mn;have e:=c4 aO YNP;have Gr:ZOO:=c2 v ZNV;have dI:=YRm
  (replace Gr:=bN e Gr;refine oh e ?_)
  refine kK Y9A (XS F x.2 Yrl (λN O=>N) Y5o trivial YLO (r7.mp Gr) Z (λd c rest iW m Q' f cw O dp=>?_) (λm cT f cw O=>?_) K)
  ·have ao:c<i:=dI.2.2 c YgV;obtain⟨j,fe⟩:=Nat.exists_eq_add_of_lt ao;have lv:k+i=k+j+1+c:=aX fe (dS (dw k j 1) (aL YjU (bW (gi (j+1) c) (congrArg _ (dw c ..)))))
   (replace cw:=ZMh;rw[fold_same]at dp)
   refine kK lv (ai c (k+j) _ (ew ao ZQw) cw ?_ λab dZ c9=>dp _ ab dZ c9 trivial);rw[ho,dy (by rw[iE];exact lD ao Mn)];rfl
  ·replace cw:=ZMh;have w:=Cr W.1 aq;have aC:ZMa.2=i:=w.2;exact XR cw W aE dI.1 YLO (λc ao=>lD YjG Mn) rfl Gr λab dZ c9=>aa aC (h ab YUY ((w.1:ZMa.1=N)▸c9))
theorem Mo{t:Tab}(ps:Y2D):∀N,YBC.1=ps.foldl ZgB N:=by
 induction ps with
 |nil=>exact Zf
 |cons p ps ai=>exact λN=>ai _
theorem aty{o:Nat}(c2:Y53)(h:fV 8 ZUE=true):jG YEe:=by
 by_cases q:Z6∈N
 ·exact aL (ZU:YEe=N) c2
 ·refine aL (show YEe=YFR from ZN) ?_;intro v aO;replace aO:=bL YNm aO;exact Yxa (c2 v) λe=>aX (bR e) h
abbrev Gs(g:G)(k:Nat)(B:fu)(P:cn)(ext:dm)(t:Tab)(p:cE):Y1:=∀{mh:ag}{Q:Yj}{N:Yd},Y3r→Y0a→Y53→N.length+ZV≤13→YAj→fV 8 YDC=true→(∀ab,Y8p→fv ab B (Y6t,P) ext→jG Y6t→Q (ay YBn) ab)→aU g YmS 655 [Y1Z,YDC] mh Q
theorem XT{P:cn}(K:YN)(F:YZ){t:Tab}{n:Nat}:Gs g k B P ext t Y0r:=λ{mh Q N}Z W c2 az ah bq h=>by
 refine YM;obtain⟨c,e,ao⟩:=ah;refine Yb;have aC:Yat=c:=by show YBp=c;refine YCa;rfl
 rw[aC]at h;have c1:YkP:=ZII
 refine oh c1 ?_;have lv:YH6+dep Y0r=k+Z2Z+1+c:=by refine aL (fO _ 1 c) (dS (dw k Z2Z c) (mL (x8 (h9 (ew ao az):c≤13)) ?_));rfl
 refine kK lv (atx K F W c2 Y07 (c+1) c _ _ (o9 c) Z ?_ λab f cw=>h ab f cw c2);rw[ho,ZLi];rfl
theorem Mp{g:G}{k:Nat}{B:fu}{P:cn}{ext:dm}(K:YN)(F:YZ){t:Tab}{o:Nat}{ps:Y2D}{p:cE}(kC:∀{T},YkR=YD (ZE::ps.map (fL T t)))(ar:Y3s)(aA:Y4M)(atz:∀q∈ps,gu q=true)(aE:Y9U)(hd:YjO)(ah:∀{n},ZMg)(cf:∀{N},ZXY)(kY:∀q∈ps,∀{mh:ag}{Q:Yj}{N:Yd},Y3r→Y0a→Y53→N.length+dep q≤13→eS t N.length q→fV 8 YkQ=true→(∀ab,Y8p→fv ab B (YoF.1,P) ext→jG YoF.1→Q (ay YoF.2) ab)→aU g ZSm 655 [Y1Z,YkQ] mh Q):YdI:=λ{mh Q N}Z W c2 az n6 bq h=>by
 refine kK (fO Y2W 1 _:YmS=ZSm+1) ?_;have jD:=r6 W YbY n6
 (rw[cf]at jD;rw[cf]at h)
 (replace bq:=bN kC bq;rw[kC]at jD;refine Ynt)
 have kt:=r7.mp bq;refine XS F ps ZOI ZgB (λM=>fm M∧jG M) ⟨W,c2⟩ aE kt Z (λd x rest e m Q' f cw j dp=>?_) (λm cT f cw j=>?_) K
 ·have aq:YYC:=Y1o;have gv:=xn (ps:=d) W.1 Zjz;replace gv:=bN Z5e gv;have nt:=lX gv.1.le YSS;have fa:=Mj gv.1.2 YSS;refine ac1 fa (kY x aq cw j.1 j.2 (au ZQU (au ?_ az)) nt (aX fa (XQ 7 _ (kt _ ZTU))) λab dZ c9 CF=>dp _ ab dZ c9 ⟨(r6 j.1 (YY (atz x aq)) nt).1,CF⟩)
  (refine bW hd ?_;refine aa e YgU;refine sC ui ?_;refine ZDE;refine aT yb ZEI)
  exact c0 (au ZGN Y1I) _
 ·have gv:=xn (ps:=ps) W.1 Zk1
  (replace cw:=aT Z5e cw;rw[←Mo]at j)
  have mv:=CE (o:=o) (r:=YBC) j.1 aA ZEY YUn;have ev:=c4 jD.2 mv.2;refine XR cw j.1 (au (au YLq (c0 (au Y1I (dH hd.symm)) _)) Y07) aA ZEY YUn ev bq λab dZ c9=>h ab YUY c9 (aty j.2 (aV ev bq))
theorem XU(k a b:Nat):Y2W+YfY=k+b+14+a:=dS (fO k b 14) (aL (dw YH6 ..) (bW ZPP (fO Y2W (a+b) 1 |>.symm▸(dw Y2W (a+b) 1).symm)))
theorem atA{k:Nat}{P:cn}(K:YN)(F:YZ){t:Tab}(ar:Y3s):YdI:=by
 induction p generalizing k with
 |v n=>exact XT K F
 |c o=>exact @Mp g k B P ext K F t o [] Y9v Ysf ar ar YO7 Z0 rfl YrO rfl YIj
 |u o a ai=>
  have jU:=Y8z;exact @Mp g k B P ext K F t o [a] Y78 Ysf ar YGz (λO aF=>Y0H▸jU.2) Y5H rfl Yrs rfl λq aF=>aa Y0H (aa (fO Y2W Y3a 1:Y2W+dep Y78=YH6+Y3a) ZE1)
 |b o a b eh eQ=>
  have jU:=Y8z;have fK:=Yib;refine @Mp g k B P ext K F t o Y1R Y4c Ysf ar YGz (λO aF=>Y6p (λe=>aa e fK.1) λaF=>Y0H▸fK.2) Y5t rfl Zib rfl YOI
  ·exact aa e (aa (show Y2W+YTy=k+YAg+14+Y3a from Z92) ZMt)
  ·exact aa Y0H (aa ((congrArg (λz=>Y2W+(z+1)) ZPM).trans Z92:Y2W+YTy=k+Y3a+14+YAg) ZMZ)
theorem Gu{n:Nat}(h:r.length=n):r=Yuj YLD:=by
 subst h;refine Hi (aL YF (fN.symm)) λi ak av=>aL YBW (bW YK8 ?_);unfold cI;refine dS ZLl ?_;rfl
theorem k3{l:bG}{n:Nat}(h:r.take n=l)(af:i<n):Y1H=cI l i:=by
 subst h;unfold cI;exact dS (List.getElem?_take) (dS ZRb rfl)
def pX(f:YL)(p:Y0j):YL:=g0 f YVs YMV
theorem atB{f:YL}{p:Y0j}(h:YLi):YMk=f:=funext λi=>by
 unfold pX;rw[h,abX,Nat.max_self];by_cases q:f i=Y0t
 ·exact aj YDZ (q.symm)
 ·exact YAx
abbrev xA(N:Yd)(P:cn)(f:YL):Y1:=hR YVe YVj
theorem atD{P:cn}{f:YL}{p:Y0j}(C:YY7)(ak:YWQ)(av:YWS)(he:ZlP):xA N P YMk∧pX f p p.1=pX f p p.2∧(∀a b,YD9→pX f p a=pX f p b)∧Yyp≤YEn∧(YUW→Yyp+1≤YEn):=by
 by_cases q:YLi
 ·rw[atB q];exact⟨C,q,Y4V,YW,λh=>absurd q h⟩
 ·have m:=B9 (S:=Zmq) C.1 ak av q;have r:=zt (S:=Zmq) C.1 m.1 YHJ YHK YHL;refine⟨⟨Lh C.1 m.1 YHK,Ls C.2 (λO af=>Yd3 af) λR c h=>?_⟩,Lu,ZgY,au Y1I (dH r),λO=>dH r⟩;have uQ:R Y16 Y0t:=c.3 (c.2 (h _ ak)) (c.3 (he R c) (h _ av));rcases qM Y16 Y0t with w | w
  ·refine YSW;exact uQ
  ·refine YSW;exact c.2 uQ
def gx(N:Yd)(f:YL):Y3:=a4 YwN
theorem vz{f:YL}(h:Y2t):YGn[i]?=some ZFR:=by
 refine aj (gy) (aX (gy) (dU YMt ?_));rfl
theorem vA(N:Yd)(f:YL):YxG=N.length:=aj YF YSV
abbrev vB(B:fu)(ei i9:Nat)(r:bG):Y1:=r.take 4=[Z2,YXC,Y5h,some (Y0 i9)]∧r.length=13
theorem xB{cl:Calls}{p n:Nat}{x:V}(bo:Y1H=Yoz)(aM:YAW=YHo)(hm:m p=Y1h)(aE:Y2a)(aq:YqE=YQ)(h:YFX):(bH cl (.op gW [v i,v j])).1 r m Q:=bQ (aw (bc bo (aw (bc aM (aS ⟨_,_,hm,aE,x,aq,h⟩)))))
theorem xC{cl:Calls}{t a b:E}(h:YBg r m λx m=>cond x (YOd r m Q) (YSk.1 r m Q)):(bH cl Z0L).1 r m Q:=h
variable{ei:Nat}{i9:Nat}
theorem atE{f:YL}(az:Y4h){p:Y0j}(aE:YB4)(ak:YWQ)(av:YWS)(bo:YXn)(h:∀ab b bI,Y1y=some (0,Y5 ZPd)→Y0G→vB B b i9 bI→YKK):a6 ZH U9 ((r.set 4 ZaN).set 5 Yp5) mh Qn Q:=by
 have e:=Gu YGC;have m9:=ZSv;have g1:=ZSw;have g2:=YmV;have g3:=YVT;generalize YLD=y at e m9 g1 g2 g3;subst e;have gY:YOy:=YL8
 refine Yt;intro asj;refine KX (d6 (bQ (aw (xB g2 rfl aE gY (vz ak) (aw (xB g2 rfl aE gY (vz av) (aS λb ah=>⟨0,_,_,Yc,⟨Ld (L:=[Y16,Y0t]) ZZc,λl pm hM e2 d7=>YOO⟩⟩)))))));rw[VX pm hM];have fn:aB no mh Zc5:=YvF;generalize Zc5=m1 at fn ⊢;revert m1;refine Y18;intro m1 fn;have mw:=fn _ _ aE rfl;show a6 _ U8 [y 0,y 1,y 2,y 3,ZaN,Yp5,some ZFU,some ZFT,y 8,y 9,y 10,y 11,y 12] m1 Qn Q;have FD:(gx N f).map Zkh=ZPd:=by
  exact(Lm YwN ZlG).trans (congrArg a4 kJ)
 refine Yt;intro WL;refine el (tE (bc g2 ⟨_,_,mw,comp_map YGn Zkh (λm=>m1=m) YL8 (λO e=>aV e (⟨0,mw⟩)) rfl (λv aO acc m gr aD e cf=>?_) λm e gg iQ=>Y4X⟩))
 ·subst e;refine Y9q λz w=>?_;rw[w.2]at cf ⊢;refine my (xC (fo (aw (bc rfl YhB))));have cf:gr (acc++[ay YVD]) m1:=cf m1 rfl;by_cases q:z=YMV
  ·rw[ZU]at cf;exact lS (YJL (beq_iff_eq.mpr q)) ZGt
  ·rw[ZN]at cf;exact iP (YJL YCr) ZGt
 ·subst e;refine aa FD ?_;exact f9 (Qr:=Q) (h _ gg _ Yc (fn.trans YKj) ⟨by show[y 0,y 1,YNA,y 3]=_;refine aT m9 (gS g1 ZDB);rfl,rfl⟩)
theorem XW{P:cn}{f:YL}{cl:Calls}(W:Y0a)(c2:Y53)(az:Y4h)(Z:Y3r){b1 l1:Nat}(aE:YB4){x:a8}(aq:Y4i)(hit:cI r it=YpA)(ah:cI r b1=Z2)(uU:cI r l1=Y5h)(h:∀ab,Y0G→Q Yhc ab):(bH cl (.op rE [.op oTup [.op fi [v it,Y0I]],.op nT [ZF iK [.op kT [v it]] ZQ 1 [b1,l1] [] Yc1]])).1 r mh Q:=by
 have dI:=YRm;have af:=YLc;refine YM;obtain⟨pp,l3,nr⟩:=Z.1;refine Yb;have aP:(Z8R::Y5B Yrl).length≤1000001:=aj g5 (aT YF (au (dX YLO) Y2));have kv:∀c∈x.2,Ya9:=λc ao=>by rw[ho,dy (by rw[iE];exact ZTr)];rfl
 have ec:Yvj:=ZEK;have fa:Yyl=Y5h:=uU;have fB:inR 1 [b1,l1] r=[none,Z2,Y5h]:=by
  show[none,Yyk,Yyl]=_
  (exact gS (ah:Yyk=Z2) (aa fa rfl))
 refine bQ (aw (d6 (hD 0 hit aP rfl ⟨rfl,aw (d6 (tF (d6 (bc hit ⟨Y1X,aP,Gq Y8C,?_⟩))))⟩)))
 ·exact Y9l λc z=>Mm (n:=8) (c2 v (aV z.2 (et (kv c z.1))))
 refine aa fB (kf x.2 Yrl (λd acc m=>YHO∧acc=a4 ZKb) Zn Y2M (λd c rest e acc m z gr cf=>?_) Y41)
 ·obtain⟨rfl,rfl⟩:=z;have ao:c∈x.2:=Y1o;refine my (bQ (aw (bc rfl (aw (bQ (aw (kH rfl l3 (rfl:ZIy) (aw (bc rfl (aS ⟨_,_,_,Z.3,c2 _ (et ZTW),_,(Mh Z5d ZTW),aS ⟨_,_,aE,YL8,_,vz ZTr,?_,ZJj⟩⟩))))))))))
  ·exact aj YF (aj YF (au (au Y7a YLO) Y2))
  ·exact bW dK ((dK (f:=ay) (l₁:=ZKb) (l₂:=[f c])).symm)
 ·obtain⟨rfl,rfl⟩:=z;have l2:Yv9≤2:=aj YF (aj YF YLO);exact λb jT=>⟨0,_,_,Yc,YSc,qJ _,aS ⟨Yi5,rfl,h _ Y8r⟩⟩
theorem XX(W:Y0a):Yo8=N.zipIdx.map Ysd:=by
 refine Ye8
 (refine ZBX;refine ZCo)
 by_cases h:Y2t
 ·obtain⟨x,aq⟩:=CD h;refine ZCb;show some (V.tup [YJe,Yvi])=some (V.tup [ZFP,YHI]);refine aa (ho) (aa YNP YgQ);rfl
 ·refine ZCa;rfl
abbrev atF(N:Yd)(f:YL)(p:Y0j)(bU:Y1):Y1:=∀(x:_)(y:_),N[p.1]?=YQ→N[p.2]?=Y06→YTc→YUW→bU
abbrev XY(N:Yd)(f:YL)(p:Y0j):Y1:=∀bU:Y1,atF N f p bU→bU
abbrev Seen(N:Yd)(f:YL)(d:Y2R)(L:Y2R)(late:cn):Y1:=iG Z5A (late.length≤d.length) (∀z∈d,∃j,Ydi=Y0N∧(f j=YUX∨ZU3)) (∀k j,(k,j)∈L→∃y,YRJ∧Yik=k) (∀p∈late,Z93)
variable{L:Y2R}{late:cn}
theorem Seen.new{f:YL}{d:Y2R}(s:Yep){x:a8}(aq:Y4i)(q:YR3=none):Seen N f Yj2 (L++[(Y2p,i)]) late:=by
 have l1:YaE:=YGD
 refine⟨by refine aL l1 YKs;exact dX s.1,by refine Yg8;exact kn s.2,YOM,Ys6,s.5⟩
 ·refine ZCh;rcases iw hz with h | h
  ·exact Yyr λj w=>⟨by refine aT w.1 ?_;rfl,w.2⟩
  ·exact aa Y1T (aa q (⟨i,ZIF,Zk⟩))
 ·rcases iw h with h | h
  ·exact s.4 k j h
  ·have e:=gQ Y1T;exact⟨x,aa e.2 aq,ZLr⟩
theorem Seen.old{f:YL}{d:Y2R}{l2:cn}(s:Yep){x:a8}(q:YR3=Y0N)(ak:YUU∨l2≠[])(av:ZU3→l2≠[])(aP:l2.length≤late.length+1)(da:∀p∈l2,Z93):Seen N f Yj2 L l2:=by
 have l1:YaE:=YGD
 refine⟨by refine Yg8;exact kn s.1,by refine Yg8;exact au aP (dX s.2),YOM,s.4,da⟩;rcases iw hz with h | h
 ·exact Yyr λj w=>⟨w.1,w.2.imp id av⟩
 ·exact aa Y1T (⟨j,q,ak⟩)
abbrev Gv(B:fu)(ei i9 bs fR:Nat)(r:bG):Y1:=YXn∧YiZ=some (Y0 bs)∧YTN=Yox
theorem XZ{f:YL}(az:Y4h){fR:Nat}(g2:YiY=Y5h)(lB:YTN=Yox)(X0:cI r 10=Y3h)(X1:cI r 12=YBL)(aE:YB4)(bq:mh fR=YXH)(af:Y2t)(aM:j<N.length)(gY:late.length≤13)(h0:YUU→Qn r mh)(ak:f j≠f i→Qn r (upd mh fR (8,Y5 Yxv))):a6 ZH Vb r mh Qn Q:=by
 have l1:YOy:=Yh2;refine en (fo (aw (xB g2 X1 aE l1 (vz aM) (aw (xB g2 X0 aE l1 (vz af) Y7Q)))));by_cases q:YUU
 ·(refine aa q ZYr);exact h0 q
 ·refine rk Ylk ?_;show a6 ZH Va r mh (λbI ab=>YKK) Q;refine hO (mx (bc lB ⟨⟨_,_,bq⟩,aw (bQ (oS X1 X0 ⟨rfl,aS ⟨_,_,bq,by refine Y2I;exact ZFB,?_⟩⟩))⟩));have e:ZU2++[V.tup [Y8w,Y4q]]=Yxv:=(dK (f:=gw) (l₁:=late) (l₂:=[(j,i)])).symm;exact aa e (ak q)
inductive atG(N:Yd)(f:YL)(mh:ag)(B:fu)(ei i9 bs fR:Nat)(d:Y2R)(r:bG)(m:ag):Y1
 |mk (aP:∀b o,Y9R→YT9→YTA→YVl) (bo:Z4Q) (L:Y2R) (late:cn) (s:Yep) (ak:m bs=some (8,YbS)) (av:m fR=YXH)
theorem atH{P:cn}{f:YL}(W:Y0a)(c2:Y53)(az:Y4h){b0:fu}(Z:Y3r){bs fR:Nat}(aE:YB4)(hs:mh bs=ZaJ)(bq:mh fR=ZaK)(bo:Z4Q)(h:∀ab L late bI,Seen N f N.zipIdx L late→ZDK→(∀b o,Y9R→YT9→YTA→Y1y=YB)→vB B ei fR bI→YKK):a6 ZH Vc r mh Qn Q:=by
 have Mq:bs≠fR:=λe=>by replace hs:=aQ bq (bN e hs);exact ct.noConfusion (gQ (cu hs)).2
 have sep:YZD:=YYl;refine Gk (bc YmW Zmx);show∃P:Y2j,P Yo8 r mh∧_;refine ZCj;refine k0 N.zipIdx Ysd (λd r m=>atG N f mh B ei i9 bs fR d r m)
  ⟨YYX,bo,[],[],⟨YW,YW,YYd,YrP,YIc⟩,hs,bq⟩ (λO O O z=>⟨12,z.1 _ _ Z.2 (sep Z.2 hs Yf) (sep Z.2 bq Yf)⟩) Yrm YsF
 ·refine YM;obtain⟨aP,bo,L,late,s,ak,av⟩:=w;refine Yb;have aq:N[z.2]?=Zas:=pJ (N:=N) (YGc:Yzb);have af:=YLc;have hd:Y5Z≤13:=by
   have q:=Y7e;replace q:=fU g5 ZGS;exact au (au YLB ZKp) az
  have CG:=aP _ _ aE (sep aE hs Yf) (sep aE bq Yf);have fB:=Z4P;have m9:=ZSx;have g1:=YmW;have g2:=ZSy;have g3:=k3 YSz Ywd;have vC:=YGC.1;have lB:=YGC.2;generalize YLD=y at fB m9 g1 g2 g3 vC lB;subst fB;refine cy (el (mx (bc vC ⟨⟨_,_,_,ak⟩,aw (XW (it:=11) (b1:=0) (l1:=2) W c2 az (⟨Yf9 λpp z=>⟨aP _ _ z.1 (sep z.1 hs Y21) (sep z.1 bq Y21),aP _ _ z.2 (sep z.2 hs Y21) (sep z.2 bq Y21)⟩,aP _ _ Z.2 (sep Z.2 hs Y21) (sep Z.2 bq Y21),aP _ _ Z.3 (sep Z.3 hs Y21) (sep Z.3 bq Y21)⟩:ZOl) CG aq ?_ ?_ ?_ λm1 f1=>e5 rfl ⟨_,_,_,YkI,?_,w5 _,?_⟩)⟩)))
  ·rfl
  ·exact m9
  ·exact g2
  ·exact aj YF (au (au s.1 ZF1) Y2)
  refine d9 (YoO:c8 Y13 ZGg=(L.lookup YAa).map ay) ?_;have Mr:=YkI;have pF:=f1 _ _ av rfl;have mw:=f1 _ _ CG rfl;have oM:∀{aH:ag}{lr:Y2R}{l2:cn}{dv:bG},Seen N f (d++[Yza]) lr l2→aH bs=some (8,Y9 3 (dW bO lr))→aH fR=some (8,Y5 (l2.map gw))→(∀b o,m1 b=YB→YT9→YTA→aH b=YB)→Gv B ei i9 bs fR dv→jq dv aH:=λs2 a1 a2 dB eb=>e8 _ _ ⟨λb o e dn fI=>dB b o (f1 _ _ (aP b o e dn fI) rfl) dn fI,eb,_,_,s2,a1,a2⟩
  cases q:Ydi with
  |none=>
   refine aa ((YYM:eE Y13 ZGg YAT=dW bO (L++[(YAa,z.2)]))) (XZ az g2 lB rfl rfl (dE (sep mw Mr Yf) |>.trans mw) (late:=late) YwI af af ZFJ (λO=>oM (s.new aq q) Yc YwI (λO O e dn O=>(dE dn).trans e) Zno) λn=>absurd rfl n)
  |some j=>
   refine YM;obtain⟨d1,bb,fy⟩:=s.4 _ _ Ype;refine Yb;have X2:Gv B ei i9 bs fR [y 0,y 1,y 2,y 3,y 4,y 5,y 6,y 7,y 8,y 9,some YAT,some ZUF,YBL]:=Zno
   refine XZ az g2 lB rfl rfl mw pF af (eo bb) ZFJ (λMs=>oM (s.old q (YY Ms) id Y1I s.5) Mr pF YYX X2) λmN=>oM (s.old (l2:=late++[(j,z.2)]) q (YJ ZiU) (λO e=>Yge) ZEV Zjs) ((dE Mq).trans Mr) Yc (λO O e O fI=>(dE fI).trans e) X2;rcases iw ar with ar | ar
   ·exact Yom
   ·exact aL YSr ((λO bA=>bA d1 z.1 bb aq fy mN))
 ·obtain⟨aP,bo,L,late,s,ak,av⟩:=w;have fB:=Z4P;have m9:=ZSx;have g1:=YmW;have g2:=ZSy;have lB:=YGC.2;generalize YLD=y at fB m9 g1 g2 lB;subst fB;exact el (bc lB (f9 (Qr:=Q) (h m L late _ s av aP ⟨by show[y 0,y 1,y 2,Yox]=_;(refine aT m9 (gS g1 (aa g2 ?_)));rfl,rfl⟩)))
theorem atI{f:YL}:YEn≤N.length:=YKv
theorem atJ{P:cn}{f:YL}(W:Y0a)(C:YY7){x y:a8}(af:Y4i)(aM:YRJ)(e:YTc){R:YeF}(c:YYA):R i j:=
 c.5 i j x y f af aM (λz=>by
  by_cases q:z<N.length
  ·exact YY (C.2 R c z q)
  ·exact YJ ⟨λh=>q (lD ((W.2 i x af).2.2 z h) Y4L),λh=>q (lD ((W.2 j y aM).2.2 z h) YLb)⟩) e
theorem atL{P:cn}{f:YL}(C:YY7)(s:Seen N f N.zipIdx L [])(ar:∀p∈P,YLi):Y5c:=⟨C.1,λi j x y af aM e=>by
 have at_:∀{i:Nat}{x:a8},Y4i→∃j,YR3=Y0N∧YUU:=λ{i x}h=>(s.3 YJU (ON h)).imp λj w=>⟨w.1,YNc id λq=>absurd rfl q⟩
 refine YM;obtain⟨a,bx,hL⟩:=at_ af;obtain⟨b,cM,ff⟩:=at_ aM;refine Yb;replace bx:=ZBu;exact ZBx,ar,C.2⟩
abbrev vD(N:Yd)(P:cn)(f:YL)(Wp:cn)(c:Nat):Y1:=yc YY7 (∀p∈Wp,YWQ∧YWS∧ZlP) (Wp=[]→Y5c) (c=1000∨(c=YEn∧∀p∈Wp,YUW)) (∀p∈P,p∈Wp∨YLi) (Wp.length≤900000)
abbrev zK(N:Yd)(P:cn)(f:YL)(Wp d:cn)(dZ:YL):Y1:=yc (xA N P dZ) (∀a b,YD9→dZ a=dZ b) (∀p∈d,ZLB) (d=[]→dZ=f) (YEm≤YEn) (d≠[]→(∀p∈Wp,YUW)→YEm+1≤YEn)
variable{Wp:cn}
theorem zK.step{P:cn}{f:YL}{d rest:cn}{c:Nat}{p:Y0j}(I:ZfX)(S:YXo)(e:Wp=d++p::rest):zK N P f Wp (d++[p]) (pX dZ p):=by
 have ar:p∈Wp:=YGc;have z:=S.2 p ar;have j:=atD I.1 z.1 Z4 Z3;refine⟨j.1,λa b h=>YM7.1 _ _ (I.2 a b h),λq aF=>YxY (λh=>YM7.1 _ _ (I.3 q h)) λh=>by rw[Y1T];exact j.2.1,λh=>absurd (Dy h).2 Y03,au YM7.2.1 I.5,λO hd=>?_⟩;by_cases q:d=[]
 ·(rw[I.4 q]at j;refine aa (I.4 q) ?_)
  exact YM7.2.2 (hd p ar)
 ·exact au (dX YM7.2.1) (I.6 q hd)
theorem zK.next{P:cn}{f:YL}{c:Nat}(I:zK N P f Wp Wp dZ)(S:YXo)(W:Y0a)(az:Y4h)(hw:Wp≠[])(s:Seen N dZ N.zipIdx L late):Zd6∧YEm<c:=by
 have pp:∀p∈P,ZLB:=λp ar=>(S.5 p ar).elim (I.3 p) (I.2 _ _);refine⟨⟨I.1,λp ar=>Yom _ λO O a b e O=>⟨eo a,eo b,λO c=>atJ W I.1 a b e c⟩,λe=>atL I.1 (aV e s) pp,YJ ⟨rfl,λp ar=>Yom _ λO O O O O h=>h⟩,λp ar=>YJ (pp p ar),au s.2 (aj Ol Y07)⟩,?_⟩;rcases S.4 with e | e
 ·exact aL e (fF (au atI az) Y2)
 ·exact aL e.1 (I.6 hw e.2)
theorem X3{P:cn}{f:YL}(h:Y5c):YGn=ZPc:=congrArg a4 (sv λO af=>Cu h (zF h) YMB)
theorem vD.first{P:cn}(W:Y0a)(dk:∀p∈P,Ynx)(aE:YeR):vD N P id P 1000:=
 have C:xA N P id:=⟨⟨λi O=>bV i,Y29⟩,λO c i O=>c.1 i⟩
 ⟨C,λp ar=>⟨ZLZ.1,ZLZ.2,λO c=>c.4 p ar⟩,λe=>⟨C.1,λi j x y af aM q=>by
  exact(xX Y4L W.1).mp (af.trans ((iF YUl.1 (by have w:=YJE;replace w:=aQ Z6Q (bL Z6Q w);exact w):x=y)▸aM.symm)),λO ar=>absurd ZNk cS,C.2⟩,Zk,λO ar=>YbY,aE⟩
theorem ne_nil(l:ZC):(!j0 Y7u [])=YtR:=ZHg
inductive atM(N:Yd)(P:cn)(B:fu)(f:YL)(Wp:cn)(mh:ag)(i9:Nat)(d:cn)(r:bG)(m:ag):Y1
 |mk (fr:Y7N) (dZ:YL) (r8:Nat) (bo:vB B r8 i9 r) (aE:m r8=Za9) (I:ZfX)
abbrev atN(N:Yd)(P:cn)(B:fu)(mh:ag)(c:Nat)(r:bG)(m:ag)(bU:Y1):Y1:=∀(f:YL)(Wp:cn)(ei i9 pS:Nat),YXo→m ei=ZaA→m i9=ZaX→Y7N→YXn→bU
abbrev atO(N:Yd)(P:cn)(B:fu)(mh:ag)(c:Nat)(r:bG)(m:ag):Y1:=∀bU:Y1,atN N P B mh c r m bU→bU
theorem atP{P:cn}(W:Y0a)(c2:Y53)(az:Y4h)(Z:Y3r){f:YL}{c pS:Nat}(S:YXo)(hw:Wp≠[])(aE:YB4)(xD:mh i9=ZaX)(bo:YXn)(h:∀ab dZ late r8 fR bI,Zd6→YEm<c→ab r8=Za9→ZDK→Y0G→vB B r8 fR bI→YKK):a6 ZH Vd r mh Qn Q:=by
 refine forL (bc YVT ⟨_,_,xD,k0 Wp gw (atM N P B f Wp mh i9) ⟨Yy,f,ei,bo,aE,S.1,Y4V,YO8,Zf,YW,λh=>absurd rfl h⟩ (λO O O z=>⟨pS,z.1 _ _ xD rfl⟩) ZiD Y3k⟩)
 ·refine YM;obtain⟨fr,dZ,r8,bo,aE,I⟩:=z;refine Yb;have z:=S.2 p Y1o;exact cy (atE az aE z.1 Z4 bo λO b O ah f1 CH=>e8 _ _ ⟨ZOh,_,b,CH,ah,I.step S e⟩)
 ·refine YM;obtain⟨fr,dZ,r8,bo,aE,I⟩:=z;refine Yb;have fB:=Gu YGC;have m9:=ZSv;have g1:=ZSw;have g2:=YmV;have g3:=YVT;generalize YLD=y at fB m9 g1 g2 g3;subst fB;refine B0 (aw (bQ (aS λbs Mt=>⟨8,aw (bQ (aS λfR qU=>Zmk))⟩)));have f1:aB no m Zc3:=(aB.new Mt).trans ZB6;have lE:upd YXi fR Y4Y bs=ZaJ:=cY qU Yc;have qc:=bw YXi fR Y4Y;have aq:∀{b o},YVl→YT9∧YTA:=λ{b o}e=>⟨λq=>by replace e:=aQ Mt Y5W;exact Y4u,λq=>by
   have w:=(aB.new (p:=no) (x:=(8,ZKJ)) Mt) _ _ e rfl;replace w:=aQ qU YCo;exact YLF⟩
  generalize Zc3=m1 at f1 lE qc ⊢;refine atH W c2 az (b0:=B) (Z.no ZOh) YUZ lE qc ⟨Yt9,rfl,rfl⟩ λab L late bI s bq f2 CH=>?_;have uB:=I.next S W az hw s
  have cz:Y6C:=λb o e O=>f2 b o YUa ZEl.1 ZEl.2;exact h ab dZ late r8 fR bI uB.1 uB.2 (cz _ _ aE rfl) bq Ykc CH
theorem Gw{P:cn}(K:YN)(F:YZ)(W:Y0a)(c2:Y53)(az:Y4h)(Z:Y3r)(dk:∀p∈P,Ynx)(aE:YeR)(h:∀b aW,YCc=some (0,Y5 ZPc)→ZQr→Y7M):aU g (k+1) 660 [Y1Z] mh Q:=by
 refine YM;obtain⟨pp,l3,nr⟩:=Z.1;refine Yb;have xx:YTJ:=rfl;have Mu:c8 YGk YcT=ZZy:=rfl;have vy:Yvk:=ZEK;have zA:ZVX=ZPe:=by
  exact aX Y3d ((sv Y29).trans (congrArg a4 (Ov _).symm))
 refine Y02;intro gb gc gd;refine KW (aw (kH rfl l3 xx (aw (d6 (d6 (d6 (kH rfl l3 xx ⟨_,_,Z.2,vy,?_⟩)))))));show Yvk∧(nL Y8H).length≤1000001∧alloc mh (Y5 ZVX) _;refine aa zA (⟨vy,YL8,Zhk⟩);have f1:aB no mh Zcc:=Y11;have ak:=bw mh b YZi;generalize Zcc=m1 at f1 ak ⊢;show a6 ZH Ve [Z2,YXC,Y6a,none,none,none,none,none,none,none,none,none,none] m1 ZS Q;refine el (d6 (kH rfl (f1 _ _ l3 rfl) Mu ⟨_,_,f1 _ _ nr rfl,ZHt,λe2 d7=>Y4X⟩));have f2:aB no m1 ZcO:=Y5S;have av:=bw m1 e2 Y8E;generalize ZcO=aH at f2 av ⊢;refine KY ⟨atO N P B mh,1000,(λO bA=>bA id P b e2 0 (.first W dk aE) (f2 _ _ ak rfl) av Y7k Zn),λc r m z=>bp λax=>z _ λf Wp ei i9 pS S vE xD fr bo=>ax (fo (aw (bc YVT (aw (bQ (aS λgg iQ=>⟨0,aS ⟨_,_,cY iQ xD,_,_,Yc,Y5F,?_⟩⟩))))))⟩
 ·refine Yl5;rfl
 have cz:aB no m ZcJ:=YKj;generalize ZcJ=bF at cz ⊢;show cond (!j0 Z8x []) _ _;refine d9 (ne_nil ..) ?_
 cases Wp with
 |nil=>exact cZ (Qn:=ZS) (bc YmV (h ei bF (X3 Z7T▸Yiy) (zF Z7T) Ykc))
 |cons p Wp=>exact atP W c2 az (Z.no Ykc) S Y03 Yiy (cz _ _ xD rfl) bo λab dZ late r8 fR bI a7 lt ak av f4 CH=>⟨_,lt,λO bA=>bA dZ late r8 fR 8 a7 ak av ((fr.trans cz).trans f4) CH⟩
def Mv(p:cE):E:=p.rec (λn=>.op oTup [bK n]) (λo=>.op oTup [bK o]) (λo O a=>.op oTup [bK o,a]) λo O O a b=>.op oTup [bK o,a,b]
theorem X4{cl:Calls}:∀{Q:Yj},Q Zl m→(bH cl (Mv p)).1 r m Q:=by
 induction p with
 |v n=>exact Zik
 |c o=>exact Zik
 |u o a ai=>exact λh=>bQ (aw (cst (aw (ai YgI))))
 |b o a b eh eQ=>exact λh=>bQ (aw (cst (aw (eh (aw (eQ YgI))))))
theorem X5(p:cE):(bB p).isTup=true:=by cases p <;> rfl
theorem Gx{cl:Calls}{q:cE}(h:Q (YD [Zl,Y8x]) m):(bH cl (.op oTup [Mv p,Mv q])).1 r m Q:=bQ (aw (X4 (aw (X4 (aS ⟨Gq λO aO=>YJ9 (λe=>e▸X5 p) λaO=>YG8▸X5 q,h⟩)))))
def Mw:dm:=cB.map λq=>(Y36,Z2Q)
theorem Mx:∀q∈cB,c8 Mw Y36=some Z2Q:=lY rfl rfl rfl rfl
theorem My(K:YN)(F:YZ)(h:∀b ab,Y1y=some (0,Y9 1 Mw)→YFn):aU g (k+1) 629 [] mh Q:=by
 refine gJ ZT K rfl Y2 (cZ (bQ (aw (cst (aw (Gx (p:=Y4f) (q:=YBv) (aw (cst (aw (Gx (p:=YbO) (q:=Z0C) (aw (cst (aw (Gx (p:=YBv) (q:=YQP) (aw (cst (aw (Gx (p:=YPV) (q:=c5) (aS (⟨Mw,rfl,(Y2:4≤15),⟨?_,Yrn⟩,YYm⟩))))))))))))))))))))
 ·exact(qQ (kv:=V.str) YO5 (l:=[32,28,11,16])).mpr YC
 ·exact(ee he).elim λq z=>ZCS
theorem atQ{cl:Calls}{i:Int}(h:Q Ybb m):(bH cl (.op (Ts i) [])).1 r m Q:=h
theorem atR{l:Y3}(h:Ymj):ZR1:=by
 cases l with
 |nil=>rfl
 |cons a l=>
  have h:=Y1q;refine(V.jM h.1).elim λn e=>e▸?_
  cases l with
  |nil=>rfl
  |cons b l=>exact(V.jM (cL h.2).1).elim λn e=>e▸ZHg
theorem X6{cl:Calls}{f o:Nat}{x:V}{w:cE→V}(aE:Y9U)(ok:hv ZXM=true)(ao:∀q∈ps,∀(ab:ag)(Q':Yj),Y6C→(∀aH,aB no ab aH→Q' (w q) aH)→cl f [x,Y8x,YA] ab Q')(h:∀ab,Y6C→Q (YD (ZE::ZXM)) ab):
  (bH cl (.op rE [Yc7,.op nT [ZF iK Y8k ZQ 1 YKb [] (.op ZJH YfS)]])).1 [YQ,YNB,Y05] m Q:=by
 have aP:YEY:=YFy;have l2:(ps.map w).length≤2:=ZEF;refine bQ (aw (d6 (hD 0 rfl aP rfl ⟨rfl,aw (d6 (tF (d6 (bc rfl ⟨Y1X,aP,Cg ps,kf ps bB (λd acc ab=>Y6C∧acc=d.map w) ⟨Yy,rfl⟩ Y2M (λd q rest e acc ab z gr cf=>?_) λacc ab z=>?_⟩))))⟩)))
 ·obtain⟨fr,rfl⟩:=z;exact my (eZ (F3 rfl rfl rfl (ao q Y1o ab _ fr λO f2=>⟨aj YF ZEp,cf _ _ ⟨fr.trans f2,(dK (f:=w) (l₁:=d) (l₂:=[q])).symm⟩⟩)))
 ·obtain⟨fr,rfl⟩:=z;exact λb jT=>⟨0,_,_,Yc,YSc,ok,aS ⟨Yi5,rfl,h _ (fr.trans Y8r)⟩⟩
def stN(L:Y2R)(t:Tab)(p:cE):Y0X:=p.rec (λn=>Y9c) (λo=>Ydj) (λo O x=>x.elim none YZ6) λo O O x y=>x.elim none λx=>y.elim none Zl6
def kI(x:Y0X):V:=x.elim YEx ay
theorem atU{t:Tab}:∀{c},YXS=Y0M↔xp Zkt t p c:=by
 induction p with
 |v n=>exact .rfl
 |c o=>exact .rfl
 |u o a ai=>
  intro c;refine⟨Y6k,Zim⟩
  ·cases e:YHr with
   |none=>replace h:=ZPR;exact Y08
   |some x=>replace h:=ZPR;exact⟨x,ai.mp e,h⟩
  ·show YEo none YZ6=_;exact dT (ai.mpr z.1) z.2
 |b o a b eh eQ=>
  intro c;refine⟨Y6k,λh=>h.elim λx z=>ZfT⟩
  ·replace h:=aQ (show stN L t Y4c=Yz6 from rfl) h
   cases e:YHr with
   |none=>replace h:=YLo;exact Y08
   |some x=>
    cases aC:YXR with
    |none=>(replace h:=YLo;rw[aC]at h);exact Y08
    |some y=>(replace h:=YLo;rw[aC]at h);exact⟨x,y,eh.mp e,eQ.mp aC,h⟩
  ·show YEo none YsV=_
   (refine dT (eh.mpr z.1) (aa (eQ.mpr Z4) ?_));exact Z3
theorem Mz{k:V}(h:∀x:a8,Y4s≠k):c8 Y13 k=none:=by
 induction L with
 |nil=>rfl
 |cons p L ai=>exact Y9s (dT (ic (h p.1):b8 Yvm.1 k=false) ai)
theorem atV{n:Nat}:Y3D≠YEx:=λe=>by
 have e:Y0q=-1:=by injection e
 exact absurd e (λh=>by cases h)
theorem MA{x:a8}{o:Nat}(hm:V.int (-1)∈vs):Y4s≠Y2Q:=λe=>by
 replace hm:=aL ((g4 Z8V).2) hm;exact(jm hm).elim λn z=>atV Yqz
theorem X7(x:Y0X):(kI x).isInt=true:=by cases x <;> rfl
abbrev X8(g:G)(k:Nat)(L:Y2R)(t:Tab)(p:cE):Y1:=∀{mh:ag}{Q:Yj}{ed tk a:Nat},YnG→YnW→Y7J→ZlT→aU g ZSk 665 Z9b mh Q
theorem X9{t:Tab}{n:Nat}(h:Y9c=none):YiM=none:=by
 rw[YyU,h];rfl
theorem atW(K:YN)(F:YZ){t:Tab}{n c:Nat}(ao:YXV):X8 g k L t Y0r:=λ{mh Q ed tk a}aR O aD h=>by
 refine Y02;intro gb gc gd;refine ZMy;refine ZYp;show a6 ZH Vf [ZZv,YXI,Y05] mh YYY _;refine cZ (bQ (aw (bc rfl (aw (hD 0 rfl Y7l rfl (aS ⟨_,_,_,aD,rfl,_,YQe,?_⟩))))));have e:stN L t Y0r=Y0M:=ao;rw[e]at h;exact Yl8
theorem MB(K:YN)(F:YZ){t:Tab}{o:Nat}(kC:YKz)(aA:YXW)(aE:Y9U)(cR:(c8 Y13 (YD (ZE::ps.map Zk8))).getD YEx=ZT4)(kY:∀q∈ps,∀{mh:ag}{Q:Yj}{ed tk a:Nat},YnG→YnW→Y7J→(∀ab,Y0G→Q YmY ab)→aU g j 665 [YJn,Y8x,YA] mh Q){ed tk:Nat}(aR:YnG)(bq:YnW)(aD:Y7J)(h:ZlT):aU g (j+1) 665 Z9b mh Q:=by
 have aP:YEY:=YFy;refine oh kC Y02;intro gb gc gd;refine en (fo (aw (hD 0 rfl aP rfl ZLz)));refine ZYq;show a6 ZCG Vg [ZZv,YNB,Y05] mh ZS Q;refine cZ (mx (bc rfl ⟨⟨_,_,_,aR⟩,aw (X6 aE ?_ (λq aF O O fr dp=>kY q aF ZOf bq ZOe dp) λab fr=>aw (atQ (aS ⟨_,_,_,ZOf,?_,?_⟩)))⟩))
 ·exact atR (sz λO aO=>Y9l λO z=>z.2▸X7 _)
 ·exact(sz λO aO=>Y9l λq z=>aV z.2 (X7 _):(ps.map Zk8).all V.isInt=true)
 ·exact aj cR (h ab fr)
theorem MC(h:hN i=true)(j:Nat)(aM:hN j=false):YVI:=λe=>by replace h:=aQ aM YL2;exact Y0L
theorem zL{t:Tab}(bq:Y3u){o:Nat}(aA:Y4M):YXW:=bq.one (P:=λt=>YXW) (λx=>by
 refine ZEb;rfl) λx y=>by
 refine ZEb;show Hf o [(4,y)]=none;refine aj nz (dT (beq_false_of_ne (MC aA 4 rfl)) ?_);rfl
theorem atX(K:YN)(F:YZ){t:Tab}(bq:Y3u){n:Nat}(ar:Y3s)(ah:YLZ):X8 g k L t p:=by
 induction p generalizing k with
 |v x=>exact ah.elim λc z=>atW K F z.1
 |c o=>
  refine MB (ps:=[]) (p:=Y9v) K F rfl (zL bq ar) Z0 ?_ YIj;show(c8 Y13 YQI).getD YEx=kI Ydj;refine aT (qK (kv:=bO) (x:=YP8) Y4W:c8 Y13 YQI=(L.lookup YP8).map ay) ?_;cases Ydj <;> rfl
 |u o a ai=>
  have ar:=Y8z;intro mh Q ed tk jf ak av aP da;refine MB (ps:=[a]) (p:=Y78) (j:=k+1+Y3a) K F rfl YYK Y5H ?_ (λq aF=>by
   exact aa Y0H (ai Y7V ah)) ak av aP da
  show(c8 Y13 (YD [ZE,kI YHr])).getD YEx=kI Yz7
  cases YHr with
  |none=>refine aT (Mz λO=>MA (vs:=[YmZ]) Y2v) ?_;rfl
  |some x=>
   show(c8 Y13 Z2P).getD _=kI YFN;refine aT (qK (kv:=bO) (x:=YPA) Y4W:c8 Y13 Z2P=(L.lookup YPA).map ay) ?_;cases YFN <;> rfl
 |b o a b eh eQ=>
  have ar:=Y8z;have fK:=cL Y7V;intro mh Q ed tk jf ak av aP da;refine MB (ps:=Y1R) (p:=Y4c) (j:=ZSj) K F rfl YYK Y5t ?_ Zjx ak av aP da
  ·show(c8 Y13 (YD [ZE,kI YHr,kI YXR])).getD YEx=kI Yz6
   cases YHr with
   |none=>refine aT (Mz λO=>MA (vs:=[YmZ,kI YXR]) b3) ?_;rfl
   |some x=>cases YXR with
    |none=>refine aT (Mz λO=>MA (vs:=[kI YQ,YmZ]) YGY) ?_;rfl
    |some y=>
     show(c8 Y13 Z2O).getD _=kI YR4;refine aT (qK (kv:=bO) (x:=YP9) Y4W:c8 Y13 Z2O=(L.lookup YP9).map ay) ?_;cases YR4 <;> rfl
  ·rcases dz aF with e | aF
   ·exact aa e (aa ZPN (aV ZO (aa YUd (eh fK.1 Y2S))))
   ·exact aa Y0H (aV ZO (aa YUd (eQ fK.2 Y2n)))
theorem MD{t:Tab}(c2:Y53)(ah:YAj):(fL Yr t p).isTup=true:=by
 cases p with
 |v n=>
  obtain⟨c,e,ao⟩:=ah;have c1:YkP:=ZII
  refine aX c1 (aX (ho) (gS (dy (by refine aL Y3d ?_;exact ao)) ?_));exact Mm (c2 _ (v3 _))
 |_=>rfl
abbrev aaa(g:G)(k:Nat)(B:fu)(N:Yd)(P:cn)(ext:dm)(t:Tab)(p:cE):Y1:=∀{mh:ag}{Q:Yj}{a:Nat},Y3r→Y7J→ZlS→aU g ZSk 675 Z9Z mh Q
theorem atY{g:G}{k:Nat}{B:fu}{N:Yd}{P:cn}{ext:dm}{t:Tab}(K:YN)(F:YZ)(az:Y4h){n c:Nat}(ao:YXV)(aE:YLC):aaa g k B N P ext t Y0r:=λ{mh Q a}Z aD h=>by
 obtain⟨pp,ah,nr⟩:=Z.1;have xx:YTJ:=rfl;refine Y02;intro gb gc gd;refine ZMy;refine ZYp;show a6 ZH Vn [Z2,YXI,Y05] mh YYY _;have c1:YkP:=by show Yvh;refine gz ao ?_;rfl
 rw[c1]at h;have aq:Ya9:=by rw[ho,dy (by rw[iE];exact aE)];rfl
 refine Yt;intro aB9;exact cZ (bQ (aw (kH rfl ah xx (aw (bQ (aw (bc rfl (aw (hD 0 rfl Y7l rfl (aS ⟨_,_,_,aD,rfl,_,YQe,aS ⟨_,_,Z.2,by refine aj Y3d ?_;exact Y07,_,aq,Yl8⟩⟩))))))))))
theorem ME{P:cn}{t:Tab}(K:YN)(F:YZ){o:Nat}(kC:YKz)(aA:YXW)(aE:Y9U)(bq:∀q∈ps,(fL Yr t q).isTup=true)(cR:YDC=YD (ZE::ps.map ZOI))(kY:∀q∈ps,∀{mh:ag}{Q:Yj}{a:Nat},Y3r→Y7J→(∀ab,Y0G→Q YkQ ab)→aU g j 675 [Y1Z,Y8x,YA] mh Q)(Z:Y3r)(aD:Y7J)(h:ZlS):aU g (j+1) 675 Z9Z mh Q:=by
 have aP:YEY:=YFy;refine oh kC (gJ ZT K rfl Y2 (en (fo (aw (hD 0 rfl aP rfl (e5 rfl ⟨_,_,_,aD,rfl,ZYq⟩))))));show a6 ZCG Vo [Z2,YNB,Y05] mh ZS Q;rw[cR]at h;exact cZ (X6 aE (Gq λO aO=>Y9l λq z=>aV z.2 (bq q z.1)) (λq aF O O fr dp=>kY q aF (Z.no fr) ZOe dp) h)
theorem atZ{k:Nat}{P:cn}{t:Tab}(K:YN)(F:YZ)(c2:Y53)(az:Y4h)(bq:Y3u)(ar:Yl1)(ah:YAj):aaa g k B N P ext t p:=by
 induction p generalizing k with
 |v x=>
  obtain⟨c,z⟩:=ah;exact @atY g k B N P ext t K F az x c z.1 z.2
 |c o=>
  intro mh Q jf ak av aP;exact ME (ps:=[]) (p:=Y9v) K F rfl (zL bq Yh5) Z0 YO7 rfl YO7 ak av aP
 |u o a ai=>
  have ar:=cL Yh5;intro mh Q jf ak av aP;exact ME (ps:=[a]) (p:=Y78) (j:=k+1+Y3a) K F rfl YYK Y5H (λO aF=>Y0H▸MD c2 ah) rfl (λq aF=>by
   exact aa Y0H (ai (YY Y7V) ah)) ak av aP
 |b o a b eh eQ=>
  have ar:=cL Yh5;have fK:=cL Y7V;intro mh Q jf ak av aP;refine ME (ps:=Y1R) (p:=Y4c) (j:=ZSj) K F rfl YYK Y5t (λO aF=>Y6p (λe=>e▸MD c2 Y2S) λaF=>Y0H▸MD c2 Y2n) rfl Zjx ak av aP;rcases dz aF with e | aF
  ·exact aa e (aa ZPN (aV ZO (aa YUd (eh (YY fK.1) Y2S))))
  ·exact aa Y0H (aV ZO (aa YUd (eQ (YY fK.2) Y2n)))
theorem at0{x:a8}{w:Nat}(h:YFO=YpO):ZM8=Y13:=by
 induction L with
 |nil=>exact Y08
 |cons p L ai=>
  have e:eE (dW bO Yo3) Y4s Y3E=cond (b8 YSo Y4s) ((YSo,Y3E)::Y13) (Yvm::ZM8):=rfl;replace h:=YFs;by_cases q:p.1=x
  ·replace h:=Ykx
   (refine ZEW);rfl
  ·replace h:=Ykw;refine aj e (dT (ic λh=>q (nc h)) YjI);rfl
abbrev xE(f:YL)(d L:Y2R):Y1:=jd (∀z∈d,Ydi=some YUX) (∀k j,L.lookup k=Y0N→∃z,z∈d∧k=YAa∧j=YUX) Z5A
theorem xE.end{f:YL}(h:YY8):Zkt=YsU:=funext λx=>funext λc=>propext ⟨λe=>(h.2 x c e).elim λz w=>qP.mpr ⟨z.2,z.1,pJ w.1,w.2.2.symm,Y3j⟩,λe=>(qP.mp e).elim λi w=>w.elim λy w=>by
 exact aT Y3O (fU Y3j (h.1 (y,i) (ON w.1)))⟩
inductive at1(f:YL)(mh:ag)(fb:Nat)(d:Y2R)(p:YKH)(r:bG)(m:ag):Y1
 |mk (av:∀b o,Y9R→YiB→YVl) (L:Y2R) (fC e9:Yp) (s:xE f d L) (ak:ZUI) (e:r=p fC e9)
variable{d1:Yp}
theorem at3{P:cn}{f:YL}(W:Y0a)(c2:Y53)(az:Y4h)(Z:Y3r)(C:Y5c){fb:Nat}{hx mW:Yp}(aE:YB4)(aR:mh fb=some YIu)(h:∀ab L fC e9,YY8→ab fb=YXG→(∀b o,Y9R→YiB→Y1y=YB)→a6 ZH Vl Z9u ab Qn Q):a6 ZH Vm [Z2,Y5h,d1,hx,mW,Y3x,none,none,none,none,none,none] mh Qn Q:=by
 have l1:YOy:=Yh2;have sep:YZD:=YYl;refine YM;obtain⟨pp,l3,nr⟩:=Z.1;refine ax (Gk (kH rfl l3 (rfl:YTJ) Zmx));show∃P:Y2j,P Yo8 _ mh∧_;refine ZCj;let at4:=λYOi(r:bG)YJJ=>at1 f mh fb d (λfC e9=>Z9u) r m;refine k0 N.zipIdx Ysd at4
  ⟨YO4,[],none,none,⟨YYd,λO O e=>Y4u,YW⟩,aR,rfl⟩ (λO O O z=>⟨12,z.1 _ _ Z.2 ZZb⟩) Yrm YsF
 ·refine YM;obtain⟨x,i⟩:=z;obtain⟨av,L,fC,e9,s,ak,rfl⟩:=w;refine Yb;have aq:Y4i:=pJ (N:=N) (YGc:YJU∈N.zipIdx);have hd:d.length≤13:=by
   have q:=Y7e;replace q:=ZGS;exact au (au Yk ZKp) az
  have CG:=av _ _ aE (sep aE aR Yf);refine cy (tq (xB rfl rfl CG l1 (vz YLc) (bc rfl (XW (it:=7) (b1:=0) (l1:=1) W c2 az (⟨⟨pp,av _ _ l3 (sep l3 aR Yf),av _ _ nr (sep nr aR Yf)⟩,av _ _ Z.2 ZZb,av _ _ Z.3 (sep Z.3 aR Yf)⟩:ZOl) CG aq rfl rfl rfl λm1 f1=>⟨_,_,_,YkI,w5 _,?_,?_⟩))))
  ·exact aj YF (au (au s.3 hd) Y2)
  have fin:∀fA,xE f Yj2 fA→ZM7=dW bO fA→jq [Z2,Y5h,d1,hx,mW,Y3x,Y3h,YpA,none,none,none,none] (upd m1 fb (16,Y9 3 ZM7)):=λfA s' bk=>e8 _ _ ⟨λb o e n=>YBi (f1 _ _ (av b o e n) rfl),fA,_,_,s',by refine aa bk ?_;exact Yc,rfl⟩;have dl:YaE:=YGD
  cases q:YR3 with
  |none=>
   refine fin (L++Z9N) ⟨YOM,λax j fe=>?_,aL dl (aj cj (dX s.3))⟩ YYM
   ·refine aj YQp ?_;rcases iw hz with hz | hz
    ·refine aT (s.1 z hz) ?_;rfl
    ·rw[bR hz,q,nz,beq_self_eq_true];rfl
   ·replace fe:=aQ YQp fe
    cases ck:L.lookup ax with
    |some xt=>replace fe:=ZMj;exact(s.2 ax j (ck.trans fe)).imp λz w=>ZnT
    |none=>
     replace fe:=ZMj;have w:=gQ (bR (tv (L:=Z9N) fe));exact⟨YJU,YCx,w.1,w.2⟩
  |some j=>
   refine YM;obtain⟨z,hz,aJ,aC⟩:=s.2 _ _ q;refine Yb;replace q:=fU (C.2 z.2 i z.1 x (pJ (N:=N) (e▸ko _ hz:Yzb)) aq aJ.symm:YUX=f i) (fU aC q);refine fin L ⟨λy bb=>(iw bb).elim (s.1 y) λbb=>by refine aa YL3 ?_;exact q,λax j fe=>(s.2 ax j fe).imp λO w=>ZnT,aL dl (kn s.3)⟩ (at0 q)
 ·refine YM;obtain⟨av,L,fC,e9,s,ak,rfl⟩:=w;exact ax (h m L fC e9 s ak av)
def jH(x:Nat)(y:Y0X):Tab:=(3,x)::y.elim [] λy=>[(4,y)]
def nu(n:Nat)(R:YV):Z5O:=if YHQ then Z7K else[none]
def nv(L:Y2R)(p:cE)(x:Nat)(y:Y0X):Y1P:=(stN L Y2V p).elim [] Zi9
def q2(L:Y2R)(q:hQ)(R:YV)(x:Nat):Y1P:=Yao YWA
def r9(L:Y2R)(q:hQ)(R:YV):Y1P:=Z7I
theorem CI{x:Nat}{y:Y0X}{h:fT}:h∈nv L p x y↔h.2=Y2V∧stN L h.2 p=some h.1:=by
 unfold nv
 cases e:stN L Y2V p with
 |none=>exact⟨Yru,λz=>by rw[z.1,e]at z;exact cW Yqz⟩
 |some c=>exact⟨λz=>by rw[bR z];exact⟨rfl,e⟩,λz=>have w:=cA (congrArg (λt=>YXS) z.1) z.2;je (iF (c4 e w).symm z.1)⟩
theorem MF{n:Nat}{R:YV}{t:Tab}:Yo6↔∃x,YNn∧∃y,y∈nu n R∧t=Y2V:=by
 delta pU nu;by_cases q:YHQ
 ·refine aa ZU (⟨Yrx,Yrx⟩)
  ·have w:=z.2;rw[ZU]at w;exact w.elim λy w=>⟨Y06,kp ⟨y,w.1,rfl⟩,w.2⟩
  ·exact aa ZU (YIO λy w=>(ee w.1).elim λd1 v=>⟨d1,v.1,by rw[w.2,←v.2];rfl⟩)
 ·refine aa ZN (⟨λh=>h.imp λx z=>⟨z.1,none,Y2v,?_⟩,Yrx⟩)
  ·have w:=z.2;rw[ZN]at w;exact w
  ·refine YSM;exact YIO λy w=>by rw[w.2,bR w.1];rfl
theorem MG{f:YL}(H:YY8){h:fT}:h∈ZYX↔YWW:=by
 delta r9 pV
 (refine aj ZXI (dS (propext MF) (aV H.end (fU (propext atU) ?_))))
 refine⟨λz=>z.elim λx z=>(rj z.2).elim λy w=>⟨⟨x,z.1,y,w.1,Z3F.1⟩,Z3F.2⟩,λz=>z.1.elim λx w=>⟨x,w.1,YNc λy v=>Ap ⟨y,v.1,CI.mpr ⟨v.2,z.2⟩⟩⟩⟩
theorem at5{x fY:Nat}{y mP:Y0X}(h:Y2V=jH fY mP):Zej:=by
 have e:=YUk;refine⟨(gQ e.1).2,?_⟩
 cases y with
 |none=>cases mP with
  |none=>rfl
  |some b=>exact absurd e.2.symm Y03
 |some a=>cases mP with
  |none=>exact absurd e.2 Y03
  |some b=>exact congrArg some (gQ YxD).2
theorem at6{n:Nat}{R:YV}(h:R.Nodup):(nu n R).Nodup:=by
 by_cases q:YHQ
 ·exact aL ZU (oa.map some (λO O h e=>h Y4I) h)
 ·exact aL ZN Y7v
theorem aab{R:YV}(h:R.Nodup):(r9 L q R).Nodup:=by
 have FC:∀{x fY:Nat}{y mP:Y0X}{a b:fT},a∈Ynb→b∈nv L YG fY mP→a=b→Zej:=λaD ah e=>at5 ((CI.mp aD).1.symm.trans (aa e ((CI.mp ah).1)));refine HF ⟨λx aq=>HF ⟨YOL,ayO (λn O aD O ah e=>n (FC aD ah e).2) (at6 h)⟩,ayO (λn a aD b ah e=>?_) h⟩
 ·unfold nv
  cases YpS with
  |none=>exact Hk
  |some c=>exact YRH
 ·exact(rj aD).elim λy w=>(rj ah).elim λmP v=>n (FC w.2 v.2 e).1
theorem aac{f:YL}(aF:Y1t){l:Y1P}(bZ:l.Nodup)(aE:∀h∈l,YWW):l.length≤N.length:=by
 have e:(YOl ZjA).length=N.length:=YSV;refine au (B8 (M:=YOl ZjA) bZ λh bJ=>YM) (dH e);obtain⟨x,aq,ex⟩:=Gd (nod:=Ylf) q aF h.2 h.1 (aE h bJ);obtain⟨i,y,af,aJ,aC⟩:=qP.mp aq;refine ax (kp ⟨i,ZWT,iF aJ ?_⟩);show ZQq=h.2
 (refine bL ex (bW aC (dU (ho) ?_));refine aa af ?_);rfl
theorem at7{f:YL}(H:YY8)(aF:Y1t):Yyb≤N.length:=aac aF (aab Z6P) λh=>(MG H).mp
theorem CJ(x:Nat)(y:Y0X):jE Y2V:=by
 cases y with
 |none=>exact YZT
 |some y=>exact Znf
theorem MH{f:YL}{h:fT}(z:YWW):jE h.2:=(MF.mp z.1).elim λx w=>YNc λy v=>aa v.2 Yd5
theorem at8(l l':Tab):DQ ZTj ZTZ=true:=by
 induction l generalizing l' with
 |nil=>rfl
 |cons a l ai=>cases l' with
  |nil=>rfl
  |cons b l'=>exact lF ⟨rfl,ai l'⟩
theorem aad{l:Y1P}(h:∀x∈l,YmF):m5 (l.map h4):=⟨λa aD b ah=>Y8N λx z=>YOq λy w=>aV z.2 (w.2▸YPO (by
 have e:mq [YCk,YAh] [ZFa,YCz]=cond ZG3 (ZJy&&cond ZG4 true ZUO) true:=rfl
 (refine aj e (aa (YPO (W7 _ _):ZUO=true) (gz ((DR _ _).trans (at8 _ _):ZJy=true) ?_)))
 cases ZG3 with
 |false=>rfl
 |true=>cases ZG4 <;> rfl)),
 λO aD=>Y8N λx z=>z.2▸YZn (YxH (P:=λt=>strsOk YfI=true) Zf Y29)⟩
def xF(y:Y0X):V:=y.elim Y7 ay
theorem at9{cl:Calls}{x:Nat}{y:Y0X}(lE:YiZ=YE2)(qc:YTN=YXM)(h:∀b ab,TabAt ab b Y2V→Y6C→YeX):(bH cl Z0I).1 r m Q:=by
 refine xC (fo (aw (bc qc YhC)))
 cases y with
 |none=>exact bQ (aw (cst (aw (bc lE (aS ⟨ir (jH x none),rfl,(Y2:1≤15),Z4N,YYm⟩)))))
 |some y=>exact bQ (aw (cst (aw (bc lE (aw (cst (aw (bc qc (aS ⟨ir (jH x Y06),rfl,YaK,Z4N,YYm⟩)))))))))
abbrev tQ(mh m:ag)(dN:Nat)(eA:Y1P):Y1:=hR (m dN=some (8,Y5 ZM6)) (∀b o,Y9R→YiA→YVl)
theorem aua:∀q∈cB,Ycj+YCy=2∧YLp:=lY Zn Zn Zn Zn
theorem aub:∀q∈cB,∀(n:Nat)(x:Nat)(y:Y0X),x<n→(∀z,y=Zar→z<n)→(YWo→y≠none)→ZMb∧eS Y2V n Yq:=by
 have nt:∀{n x:Nat}{y:Y0X},x<n→eS Y2V n c5:=λ{n x y}aq=>⟨x,rfl,aq⟩
 refine lY (λO O O aq O O=>⟨Y7w,Y7w,Y7w⟩) (λn x y aq bb h=>?_) (λO O O aq O O=>⟨⟨Y7w,Y7w⟩,Y7w⟩) λn x y aq bb h=>⟨⟨Y7w,trivial⟩,Y7w⟩
 cases y with
 |none=>exact absurd rfl Yl9
 |some z=>
  have aae:eS (jH x Zar) n py:=⟨z,rfl,bb z rfl⟩
  exact⟨⟨Y7w,aae⟩,aae,Y7w⟩
variable{oX:Yp}{eg:Yp}{dN:Nat}{tR:Yp}
theorem auc(K:YN)(F:YZ)(aF:Y1t){x n:Nat}{y:Y0X}(ah:ZMb){fb:Nat}{eA:Y1P}(Z:Zbb)(aR:mh fb=YXG)(kN:YkU)(aE:eA.length≤13){df hx ba cJ:Yp}(h:∀ab ba cJ,tQ mh ab dN (eA++Ynb)→Qn Z9r ab):a6 YSJ Vj Z9r m Qn Q:=by
 refine Yt;intro aud;refine el (at9 rfl rfl λb m1 ip f1=>?_);show a6 YSJ Vi [df,eg,Y2x,hx,YN8,Y3x,oX,tR,YE2,YXM,Y6a,cJ] m1 Qn Q;refine Yt;intro aCa;refine el (eZ (aw (bc rfl (aw (bQ (aw (bQ (aw (eZ (aS (My K F λbs aH hs f2=>e5 rfl ⟨_,_,_,hs,rfl,_,Ye4,aw (cst (aS ⟨Y4Z,Y4r,rfl,e5 rfl ?_⟩))⟩)))))))))));have F0:=Y7k;have w:=aua q aF;rw[show k+4=ZSi+1+YCy by rw[fO ZSi 1,dw (k+1),w.1]];refine atX K F Yd5 w.2 ah (F0 _ _ (Z.2 _ _ aR kN) rfl) rfl YkJ λbF cz=>?_;have aaf:=F0.trans cz;have ke:=aaf _ _ Z.1 rfl;have oM:∀b o,Y9R→YiA→bF b=YB:=λb o e n=>aaf _ _ (Z.2 b o e n) rfl;have ao:∀{c},YpS=c→Ynb=c.elim [] Zi9:=λe=>by unfold nv;exact dT e rfl
 cases e:YpS with
 |none=>
  rw[ao e]at h;exact en (fo (aw (bc rfl (aw (cst (aS (h bF _ _ ⟨(eL eA).symm▸ke,oM⟩)))))))
 |some c=>
  rw[ao e]at h;refine Yt;intro aCb;refine en (fo ZFM);show a6 _ Vh [df,eg,Y2x,hx,YN8,Y3x,oX,tR,YE2,YXM,Y6a,Y58] bF YsG Q;have Gy:=Yd5;refine Yt;intro aue;refine hO (mx (bc rfl ⟨⟨_,_,ke⟩,aw (bQ (aw (bc rfl (aw (d6 (d6 (bc rfl ⟨_,_,_,ZKM,rfl,W8 Gy λcO fK=>⟨_,_,Yc,?_,?_,aS ⟨?_,aS ⟨_,_,cY fK ke,?_,?_⟩⟩⟩⟩)))))))⟩))
  ·exact Gy.one (P:=ZkV) Zgz ZgX
  ·exact Gy.one (P:=ZkW) Zf Y29
  ·exact Gy.one (P:=ZkX) Zf Y29
  ·refine Y2I;exact Y7W
  refine f9 (Qr:=Q) (h _ _ _ ⟨((dK (f:=h4) (l₁:=eA) (l₂:=YRs)).symm:ZM6++[V.tup [Y3Z,dr Y2V]]=(eA++YRs).map h4)▸Yc,λkO o bk n=>YBi (cY fK (oM kO o bk n))⟩)
theorem auf{R d rest:YV}{i3 CK:Z5O}{x:Nat}(e:R=YCw)(aC:YDn=i3++CK):(YTk++YV6).length≤Yyc:=by
 have ak:∀w:Nat→Y1P,R.flatMap w=d.flatMap w++(w x++rest.flatMap w):=λw=>aX e (aj rg (congrArg _ uf));have av:q2 L q R x=YV6++CK.flatMap YWA:=by
  show Yao _=_;exact aX aC (rg)
 (refine bW (rfl:r9 L q R=Z7I) (bW (ak ..) (aa av (fH Y0k (fU Y0k (aL (cj (as:=ZKU)) ?_))))))
 exact Yk
theorem tQ.trans{eA aag:Y1P}(a:Zbb)(b:tQ m ab dN aag):tQ mh ab dN aag:=⟨b.1,λx o e n=>b.2 x o (a.2 x o e n) n⟩
variable{jV:Yp}
theorem auh(K:YN)(F:YZ)(aF:Y1t){R d rest:YV}{x n lo:Nat}(gI:∀x∈R,x<n)(e:R=YCw)(hlen:Yyc≤13){fb:Nat}(ke:m dN=some (8,Y5 ((d.flatMap Y9V).map h4)))(aR:ZUI)(xG:m lo=some (0,Y5 (a4 R))){df ba cJ:Yp}(h:∀ab jV ba cJ,tQ m ab dN YwD→Qn YRw ab):a6 YSJ Vk YRw m Qn Q:=by
 have sep:YZD:=YYl;have CC:YwD=YTk++Yao YWA:=by rw[rg,uf,Dt,eL];rfl
 have ev:∀Q':Yj,(∀a m1,m1 a=some (0,Y5 ((nu q.1 R).map xF))→(∀y,Y06∈YDn→y<n)→(YWo→none∉YDn)→Yfl→Q' YA m1)→(bH YSJ Z0K).1 YRw m Q':=by
  intro Q' dp;refine xC (fo (aw (bc rfl YhC)));by_cases CL:YWo
  ·have fy:YDn=Z7K:=if_pos CL;rw[fy]at dp;exact OV CL (d9 Y3t (bc rfl (dp lo m (aa kJ xG) (λO bb=>YaO λz w=>cu w.2▸gI z w.1) (λO bb=>YaO λO w=>cW w.2) Yy)))
  ·have fy:YDn=[none]:=if_neg CL;rw[fy]at dp;show ZSV;refine aX (ic λe=>CL YAH) ?_;exact bQ (aw (cst (aS λb ah=>⟨0,dp b _ Yc (λO bb=>cW YL3) (λe=>absurd e CL) Y11⟩)))
 refine forL (ev _ λa m1 aD bb az f1=>⟨_,_,aD,?_⟩);have aah:=f1 _ _ ke rfl;refine k0 YDn xF (λi3 r ab=>(∃jV ba cJ,r=YRw)∧tQ m1 ab dN ZKU) ⟨⟨jV,ba,cJ,rfl⟩,Y8L▸aah,YO4⟩ (λO O O z=>⟨0,Z3 _ _ aD (sep aD aah Yf:a≠dN)⟩) (λi3 y CK aC r ab z jq e8=>?_) λr ab z=>?_
 ·obtain⟨⟨jV,ba,cJ,rfl⟩,cw⟩:=z;have aai:y∈YDn:=YSP;refine t1 (auc K F aF (aub q aF n x y (gI x (Y1o:YNn)) (λz qA=>bb z (qA▸aai)) λaui fq=>az aui (fq▸aai)).1 cw (f1 _ _ aR rfl) (sep aR ke Yf:YkU) (au (auf e aC) hlen) λaH ba cJ c9=>e8 _ _ ⟨⟨_,_,_,rfl⟩,?_⟩)
  (refine bW rg (fH uf (aa Dt (fH Y1U (bL Y0k ?_)))))
  exact c9
 ·refine YM;obtain⟨⟨jV,ba,cJ,rfl⟩,cw⟩:=z;exact ax (h ab jV ba cJ ⟨aa CC cw.1,λb o cM nb=>cw.2 b o (f1 _ _ cM rfl) nb⟩)
theorem aaj(n:Nat)(f:YL):(roots n f).Nodup∧j9 ZAU:=⟨Z6P,yg ((Oq _ Ho).imp λ{a b}h=>(Xt b a).trans ZLO)⟩
theorem MI{f:YL}(C:YVe)(bZ:us.Nodup)(hm:∀v,Y9d↔v∈YGn)(mc:j9 us):us=YKd:=by
 have r:=aaj N.length f;refine VK (FU _) bZ ((qQ Zgb).mpr r.1) (λv=>(hm v).trans (⟨λh=>Yag λc z=>(ee z.1).elim Zj6,λh=>Yag Yrj⟩)) mc r.2
 ·have af:=YVL;exact aL z.2 (fU w.2 (kp ⟨f i,pL.mpr ⟨C.lt af,C.2 i af⟩,rfl⟩))
 ·have m:=pL.mp z.1;exact aL z.2 (kp ⟨c,kp ⟨c,og m.1,m.2⟩,rfl⟩)
theorem aak{P:cn}{f:YL}(K:YN)(F:YZ)(W:Y0a)(c2:Y53)(az:Y4h)(Z:Y3r)(C:Y5c)(aF:Y1t)(aE:YB4)(h:∀b ab,Y1y=some (0,Y5 ((qV N f YG).map h4))→YFn):aU g (k+5) 670 [Y1Z,Z1r,Y36] mh Q:=by
 have sep:YZD:=YYl;refine Y02;intro gb gc gd;refine B0 (aw (d6 (bc rfl ⟨_,_,aE,⟨YL8,FU _,Z0c⟩,λus bZ hm mc lo xG=>⟨0,aw (bQ (aS λdN ke=>⟨8,aw (bQ (aS λfb l3=>⟨16,Y3p⟩))⟩))⟩⟩)))
 (rw[Ye2]at ke;rw[Ye2]at l3;refine aa Ye2 ?_)
 have f1:aB no mh Zc1:=((aB.new xG).trans (aB.new ke)).trans (aB.new l3);have ak:upd YNU fb YIu lo=some Ytx:=cY l3 (cY ke Yc);have av:upd YNU fb YIu dN=ZaK:=cY l3 Yc;have aP:=bw YNU fb (16,ZKJ);have mN:∀{b o},Y9R→YiA:=λe q=>by
  have w:=(aB.new (p:=no) (x:=Yu5) xG) _ _ e rfl;replace w:=aQ ke YCo;exact YLF
 have nb:∀{b o},Y9R→YiB:=λe q=>by
  have w:=((aB.new (p:=no) (x:=Yu5) xG).trans (aB.new (x:=YuL) ke)) _ _ e rfl;replace w:=aQ l3 YCo;exact YLF
 generalize Zc1=m1 at f1 ak av aP ⊢;refine at3 W c2 az YfA C YUZ aP λaH L fC e9 MJ BL du=>?_;have Gz:=du _ _ ak (sep ak aP Yf);have r2:=du _ _ av (sep av aP Yf);have aal:lo≠dN:=sep Gz r2 Yf;have hlen:Yyb≤13:=au (at7 MJ aF) az;refine forL (bc rfl ⟨_,_,Gz,k0 Y2Y ay (λd r m=>LP (λmB jV ba cJ=>[Z2,Y5h,Y2x,ZZw,YN8,Y3x,fC,e9,mB,jV,ba,cJ]) (tQ aH m dN (d.flatMap (q2 L q Y2Y))) r) ⟨⟨r2,YO4⟩,none,none,none,none,rfl⟩ (λO O O z=>⟨0,Y6h _ _ Gz aal⟩) YIh Y3k⟩)
 ·refine YM;obtain⟨cw,mB,jV,ba,cJ,rfl⟩:=z;exact ax (t1 (auh K F aF (n:=N.length) (λO aq=>(pL.mp aq).1) e hlen cw.1 (cw.2 _ _ BL (sep BL r2 Yf:YkU)) (cw.2 _ _ Gz aal) λO O O O c9=>e8 _ _ ⟨cw.trans c9,_,_,_,_,rfl⟩))
 ·refine YM;obtain⟨cw,mB,jV,ba,cJ,rfl⟩:=z;refine Yb;have ok:∀x∈ZYX,YmF:=λx aq=>MH ((MG MJ).mp aq);refine cZ (d6 (bc rfl ⟨_,_,cw.1,⟨ZHv,aad ok,λO aD=>Y8N λx z=>z.2▸(ok x z.1).one (P:=λt=>dI (YD YfI) 8=true∧V.tup YfI≠Y37) ZhF Zge⟩,λl pl hM b ah=>Y4X⟩));exact aa (JX (aad (λx aq=>MH ((Gg aF W C.1 x).mp aq):∀x∈YoQ,YmF)) (pl.trans (((Dr (aab (aaj _ _).1) Ydl.1).mpr λx=>(MG MJ).trans (Gg aF W C.1 x).symm:(r9 L q Y2Y).Perm YoQ).map h4)) hM Ydl.2) (h b _ Yc λO O e O=>cY ah (cw.2 _ _ (du _ _ YUa YMd) ZUV))
noncomputable abbrev eV (n:Nat):Nat:=(n+3) / 2
abbrev Tk(N:Yd)(i:Nat):Y1:=∃v,YJ1∧fV Yjk v=true
def GA(N:Yd)(P:cn)(i:Nat):Y1:=∃j,j<i∧∀gr e1 g,Ysv→(∀p∈P,YDs)→YLx→g i=g j
abbrev q3(s:cv):Y1:=iG ZOc ZSG (∀g,hl s.1 s.2 g→∀i,i<Y4S→g i=i→Z8I) Zlz ZZ5
theorem GB{n m:Nat}(h:YB6):eV n≤eV m:=ayP ZQV
theorem auj{n m:Nat}(h:n+2≤m):eV n+1≤eV m:=au (dH (Nat.add_div_right (n+3) (Y2:0<2)).symm) (ayP (aj Y9A ZQV))
theorem GC(n:Nat):1≤eV n:=au (Y2:1≤eV 0) (GB ZKt)
theorem tS{N M:ZC}{x:α}(h:YBb)(aq:Y4i):M[i]?=YQ:=h.elim λX e=>by refine aT e (aj (qb YLc) ?_);exact aq
theorem oY{N M Cs:ZC}(h:YBb)(h':∃X,Cs=M++X):∃X,Cs=YKF:=h.elim λX e=>h'.elim λY bk=>⟨X++Y,aj bk ZC7⟩
theorem vF{N M:ZC}(h:YBb):Z5g:=h.elim Yrf
theorem MK{M:Yd}(h:YBb):∃Y,bM M=Yr++Y:=h.elim λX e=>aa e (XO N X)
theorem Tk.up{M:Yd}(t:Tk N i)(h:YBb):Tk M i:=t.imp λv z=>⟨tS (MK h) z.1,k2 (GB (vF h)) z.2⟩
theorem GA.up{M:Yd}{P:cn}(l:GA N P i)(h:YBb)(ar:∀p∈P,YDs):GA M e1 i:=l.imp λj z=>⟨z.1,λgr AZ g av aP G=>z.2 gr AZ g (oY h av) (λp q=>aP p ZEn) G⟩
variable{gr:Yd}
theorem ML{P:cn}{f g:YL}(C:Y5c)(G:YLx)(h:Ysv)(ar:∀p∈P,YDs)(af:Y2t):g (f i)=g i:=
 have c:=Xo G
 (C.4 Zj1 ⟨c.1,c.2,c.3,λp q=>c.4 p ZEn,λi j x y w aq bb=>c.5 i j x y w (tS h aq) (tS h bb)⟩ i af).symm
theorem MM{P:cn}{f g:YL}(W:Y0a)(C:Y5c)(G:YLx)(h:Ysv)(ar:∀p∈P,YDs){o c:Nat}(ao:(o,cs)∈Y6R)(aD:gr[a]?=ZaW)(e:aZ.map g=ZKI):g a=g c:=by
 refine YM;obtain⟨i,y,af,aJ,aC⟩:=qP.mp ao;refine Yb;have aC:=gQ aC;have bb:Yqq g=ZKI:=by
  exact bW YAN (aL kJ (sv λk aR=>(ML C G h ar (lD ((W.2 i y af).2.2 k aR) Y4L)).symm))
 exact aj (G.2 a i Z6 y aD (tS h af) (iF YAM (e.trans bb.symm))) (aQ (ML C G h ar Y4L) (congrArg _ aJ))
variable{dP:Yd}
theorem auk{P:cn}{f g:YL}(W:fm dP)(C:YlX)(G:YLx)(h:∃X,gr=dP++X)(ar:∀p∈P,YDs){t:Tab}:∀{N:Yd}{c:Nat},N.Nodup→YAj→(∃X,gr=Y6t++X)→xp (λx c=>x∈i8 dP f c) t p c→g YBn=g c:=by
 induction p with
 |v x=>exact λ{N c}O O O s=>congrArg g (by show YBq=c;refine aT s ?_;rfl)
 |c o=>exact λ{N c}bZ ah cf s=>MM W C G h ar s (tS cf (pT (r:=YBe) bZ).2.2) rfl
 |u o a ai=>
  intro N c bZ ah cf s;refine YM;obtain⟨x,yO,s⟩:=s;refine Yb;have m:=pT (o:=o) (r:=Ytq) (kg (p:=a) bZ ah).1.1;exact MM W C G h ar s Zbc (by
   show[g YEk]=[g x]
   exact aT (ai bZ ah ZWF yO) rfl)
 |b o a b eh eQ=>
  intro N c bZ ah cf s;refine YM;obtain⟨x,y,yO,TS,s⟩:=s;refine Yb;have dD:=kg (p:=a) bZ Y2S;have d7:=ZTx;have w2:=kg (p:=b) YGS d7;have m:=pT (o:=o) (r:=Ytr) YEE.1;have aam:=ZWF;exact MM W C G h ar s Zbc (by
   show[g YEk,g Y81.2]=[g x,g y]
   exact aT (eh bZ Y2S (oY YEE.2 aam) yO) (gS (eQ YGS d7 aam TS) rfl))
def cR(p:cE):Nat:=p.rec Y8A Y5n ZgO λO O O a b=>max a b+1
theorem MN{T:Y3}{t:Tab}{r n:Nat}(bo:1≤r)(bq:∀v c,YXX→fV r Z8E=true):YLZ→fV (r+YAY) YkR=true:=by
 induction p with
 |v x=>exact λah=>ah.elim λc z=>by show fV r Z8D=true;exact aa z.1 (bq x c z.1)
 |c o=>exact ZhE
 |u o a ai=>exact λah=>r7.mpr λv aO=>YG8▸ai ah
 |b o a b eh eQ=>exact λah=>r7.mpr λv aO=>YJ9 (λe=>e▸k2 (c0 YRQ r) ZMs) λaO=>YG8▸k2 (c0 YRR r) ZMY
theorem zM{o:Nat}{r:Y8c}(ak:YHg≤i)(av:i<Ywt):i=Y8M∧YJD:=by
 by_cases h:YPB
 ·replace av:=fU (Ym1:YOp) av;exact Ygj
 ·have w:=zB h;have aJ:YJD:=w.1;have aC:YaN:=w.2;replace av:=bL cj (fU aJ av);exact⟨aa aC (mG (hp av) ak),aJ⟩
abbrev CM(t:Tab)(N:Yd)(p:cE):Y1:=∀i,N.length≤i→i<YyQ→i=YBn∨Tk Y6t i
def aan(t:Tab)(N:Yd):Y1:=∀v c,YXX→YLC∧fV Yjk Y6o=true
theorem aao:∀q∈cB,∀(t:Tab)(N:Yd),Y0a→aan t N→ZMd→ZMe→CM t N YG∧CM t N Yq:=by
 have v0:∀{t N n},CM t N Y0r:=λ{t N n}i ak av=>Ygj;have bD:∀{t N o n},CM t N (.u o Y0r):=λ{t N o n}i ak av=>YY (zM (r:=(N,[Yat])) ak av).1;have b1:∀{t N o n m},CM t N (.b o Y0r Z2V):=λ{t N o n m}i ak av=>YY (zM (r:=(N,[Yat,(putN t Z2V N).2])) ak av).1;refine lY (λO O O O O O=>⟨bD,b1⟩) (λO O O O O O=>⟨b1,b1⟩) (λt N W T O ah=>⟨b1,YOG⟩) λt N W T ah O=>⟨YOG,v0⟩
 ·by_cases q:i<YyP
  ·have e:i=Y7z.2∧Y7z.1=N++[(8,[YPD])]:=zM (o:=8) (r:=(N,[YPD])) ak q;have ek:=r6 W (p:=Y4f) Zk ah;have aap:YyP=N.length+1:=(congrArg l5 e.2).trans ZJr;have uB:((8:Nat),[Y7z.2])∉Y7z.1:=λhm=>by
    obtain⟨j,aM⟩:=pe hm;have dC:=(ek.1.2 j _ aM).2.2 _ Y2v;have du:=YLb;replace dC:=aj e.1 dC;replace du:=bL aap du;exact absurd (ew dC (hp du)) ZZi
   refine YJ ⟨_,tS (MK (pT (o:=8) (r:=Ytp) (kg (p:=Y4f) W.1 ah).1.1).1.2) (aa e.1 ek.2),?_⟩;have dv:Yjk+1≤eV YyO:=bW ((congrArg l5 (zB uB).1).trans (by rw[cj,aap];rfl):YyO=N.length+2) (auj YW);exact k2 dv (MN (p:=Y4f) YQu (λv c h=>(T v c h).2) ah)
  ·exact YY (zM (o:=8) (r:=Ytp) Y9F av).1
 ·by_cases q:i<YDr.1.length
  ·exact YJ ⟨_,tS (MK (pT (o:=1) (r:=Yto) (pT (o:=17) (r:=YBe) W.1).1.1).1.2) ((zM (o:=17) (r:=YBe) ak q:i=YDr.2∧YDr.1=N++[(17,[])]).1▸(r6 (t:=t) W (p:=Y9u) Zk trivial).2),k2 YQu (r7.mpr Zgi)⟩
  ·exact YY (zM (o:=1) (r:=Yto) Y9F av).1
theorem aul:∀q∈cB,And (cR YG≤2) (cR Yq≤2):=lY YC YC YC YC
theorem aum{n:Nat}{R:YV}{t:Tab}(h:Yo6):∀v c,YXX→c∈R:=λv c e=>by
 obtain⟨x,aq,y,bb,jy⟩:=MF.mp h;have m:=tv e;replace m:=bL jy m;rcases dz m with q | q
 ·exact aL YJE aq
 ·cases y with
  |none=>exact absurd q cS
  |some y=>
   refine aL ((gQ YG9).2) ?_;unfold nu at bb;by_cases w:YHQ
   ·replace bb:=bL Ym2 bb;exact YaO λz v=>cu v.2▸v.1
   ·replace bb:=bL Ylv bb;exact cW YL3
abbrev pY(dP:Yd)(ki:cn)(s:cv):Y1:=yc ZOc ZSG (∃X,s.1=dP++X) (∀i,dP.length≤i→i<Y4S→Z8I∨GA s.1 Ymf i) Zlz ZZ5
variable{ki:cn}
theorem pY.init(B:YMs):pY dP ki YJ3:=⟨B.1,B.2,YBc,λO ak av=>Ygj,YO8,B.5⟩
theorem pY.tab{s:cv}{f:YL}{h:fT}(D:YWY)(B:YMs)(C:YV4)(z:YWX){M:Yd}(tB:∃X,M=s.1++X):aan h.2 M:=λv c e=>by
 have m:=pL.mp (aum z.1 v c e);refine((B.3 f C c m.1 m.2).up (oY D.3 tB)).elim λw y=>⟨by have l:=eo y.1;replace l:=bL Y3d l;exact l,aX (ho) (gS y.1 ?_)⟩;exact y.2
theorem pY.tk{s:cv}{f:YL}{h:fT}(D:YWY)(B:YMs)(C:YV4)(aF:Y1t)(z:YWX)(az:Y4S≤10):fV 8 (fL YhY h.2 YG)=true∧fV 8 (fL (bM YHa.1) h.2 Yq)=true:=by
 have b:=Z4O;have T:=Z3W;have g:=aul q aF;have aaq:eV Y4S≤6:=GB az;exact mL (Mj ZTL.1.2 b.3) (⟨k2 (gR aaq g.1) (MN YQu Zka b.2),k2 (gR aaq g.2) (MN YQu Zka b.3)⟩)
theorem pY.put{s:cv}{f:YL}{h:fT}(D:YWY)(B:YMs)(C:YV4)(aF:Y1t)(z:YWX)(lK:fm YJG)(c2:jG YJG)(hle:Y9H.1.length≤13):pY dP ki Ytj:=by
 have b:=Z4O;have dD:=ZTL;have e2:=ZTy;have w2:=kg YGS e2;have cO:=YEE.2;have ga:∀gr e1 g,(∃X,gr=YJG++X)→(∀p∈ki++YX3,YDs)→YLx→g YHa.2=g h.1:=λgr e1 g ak av G=>auk B.1 C G (oY D.3 (oY YTp ZWE)) (λp ar=>av p YVX) D.1.1 b.2 ZWE z.2;have ao:h.1<dP.length:=(Gd (nod:=i8 dP f) q aF h.2 h.1 z).elim λx w=>YyV λi v=>v.elim λy v=>aV v.2.1 (Yd3 YUD);refine⟨lK,c2,oY D.3 Ynn,YOG,Zjs,hle⟩
 ·by_cases dM:i<Y4S
  ·exact(D.4 i ak dM).imp (·.up Ynn) (·.up Ynn (Zjt:∀p∈Ymf,p∈ki++YX3))
  ·by_cases dt:i<YHa.1.length
   ·refine(((aao q aF h.2 s.1 D.1 Z3W b.2 b.3).1) i (hq dM) dt).elim ZiS λt=>YY (t.up cO);refine YgN;exact ZPJ
   ·refine(((aao q aF h.2 _ ((r6 D.1 (YY (lY (P:=λq=>Yl2) YZM YZM YZM ZnZ q aF:Yl2).1) b.2).1) (D.tab B C z YTp) (lX YAd b.2) e2).2) i (hq dt) av).elim ZiS YY;refine aX e (bL ZPJ ?_);exact(G.3 _ (a2 _ ZKf)).symm
 ·rcases iw ar with ar | ar
  ·exact⟨ew Z3T.1 ZFA,ew Z3T.2 ZFA⟩
  ·rw[YSr];exact⟨YkC,Y5m⟩
theorem pY.fin{s:cv}{f:YL}(D:YWY)(B:YMs)(C:YV4):q3 (s.1,Ymf):=by
 refine⟨D.1,D.2,λg G i af e=>?_,λp ar=>(iw ar).elim (λar=>⟨ew Z2x.1 YNX,ew Z2x.2 YNX⟩) (D.5 p),D.6⟩;by_cases h0:i<dP.length
 ·have l:i≤f i:=by
   have w:=G.1.1 (f i) (ew (Yd3 h0) YNX);replace w:=aQ e (aQ (ML C G D.3 (λO ar=>YVX) h0) w);exact w
  exact(B.3 f C i h0 (mG (C.1.1 i h0) l)).up D.3
 ·refine(D.4 i (hq h0) af).elim id λl=>l.elim ZjL;have w:=z.2 s.1 _ g YBc (λO ar=>ar) G;replace w:=aQ e w;exact absurd (aa w (G.1.1 j (lD z.1 af))) (su z.1)
noncomputable abbrev jr (tr:Bool) (most:Nat):dm:=[Ytw,(Z2A,YhE)]
theorem aar:∀q∈cB,YLT∧YCy≤2∧YjP≤2∧Yl2:=lY YtB YtB YtB ⟨Y2,Y2,Y2,rfl,Y62⟩
theorem aun(k:Nat)(h:d≤2):YVP=k+(2 - d)+14+d:=aL (fO _ 14 d) (dS YjU (mL (x8 h) rfl))
abbrev xH(m1 m:ag)(B:fu)(fD:Nat)(dP:Yd)(P:cn)(ext:dm)(s:cv):Y1:=hr (∀a o,m1 a=YB→jF o.1=false→a≠fD→m a=YB) (m fD=some (8,Y5 YN2)) (fv m B (s.1,P) ext) (pY dP P s)
theorem aas{P:cn}(K:YN)(F:YZ){t:Tab}(ar:Yl1):YdI:=by
 rcases ar with ar | ar
 ·exact atA K F ar
 ·cases p with
  |v n=>exact XT K F
  |_=>exact nb ar
abbrev auo(mh:ag)(B:fu)(P:cn)(ext:dm)(t:Tab)(N:Yd)(d:Y2D)(acc:Y3)(m:ag):Y1:=iG (acc=a4 Y7y.2) (fv m B (YJN,P) ext) (fm YJN) (jG YJN) YFm
theorem done_two{P:cn}(K:YN)(F:YZ){t:Tab}(aF:Y1t)(bq:Y3u)(W:Y0a)(c2:Y53)(az:N.length≤10)(ei:ZMd)(aat:ZMe)(BV:fV 8 (fL Yr t YG)=true)(tr:fV 8 (fL (bM YoG.1) t Yq)=true)(Z:Y3r)(h0:Y5Y=Z2)(da:cI r 4=Y2x)(nA:cI r 7=YNH)(h:∀b ab,Y1y=some (0,Y5 [ay YoG.2,ay YVA.2])→Y8p→fv ab B (YVA.1,P) ext→fm YVA.1→jG YVA.1→YeX):
  (bH YCb Z0O).1 r mh Q:=by
 have pK:=ZDI;refine tF (bQ (aw (eZ (aS (My K F λbs m1 hs f1=>aw (bc da (aS ⟨_,_,_,hs,rfl,_,Ye4,?_⟩)))))));have zy:Yyi=YNH:=nA;have fB:inR 1 [0,7] r=[none,Z2,YNH]:=by
  show[none,YEl,Yyi]=_
  (exact gS YxJ (aa zy rfl))
 refine ZDA;have aE:∀d x rest,Z9t=YCw→(gu x=true∨nk x=true)∧YTz≤2∧eS t N.length x∧fV 8 (fL (bM YJN) t x)=true∧(∀y∈d,eS t N.length y)∧YaH+YTz≤3∧ZKY:=by
  intro d x rest e
  cases d with
  |nil=>
   exact aV (YaS) (⟨YY Yo4.2.1,pK.2.1,ei,BV,λy bb=>ZDV,by refine gT List.map_nil (aT List.sum_nil (aj YDb ?_));exact au pK.2.1 Y2,Z0⟩)
  |cons y d=>cases d with
   |nil=>
    have e:=YGh;exact aV e.1 (aV (YxD) (⟨Yo4.2.2,Yo4.1,aat,tr,λO bb=>YL3▸ei,pK.1,YW⟩))
   |cons z d=>exact absurd (g4 YGh.2).2.symm (by cases d <;> exact Y03)
 refine kf Z9t bB (auo mh B P ext t N) ⟨rfl,YfA,W,c2,f1.iO⟩ Y2M ZiG Y41
 ·refine YM;obtain⟨rfl,fg,W1,GD,f2⟩:=z;obtain⟨oZ,dx,nt,AG,bd,nI,ld⟩:=aE d x rest e;refine Yb;have gv:=xn (t:=t) (ps:=d) W.1 bd;have MO:=lX gv.1.le nt;have len:Y7y.1.length+YTz≤13:=au ZQU (aj ZO (gR az nI));refine aa (aun k dx) (my (eZ (aw (bc rfl (aw (eZ (aw (bc rfl (aw (bc rfl (aw (d6 (bc rfl ⟨Y6T,Yui,(bq.one (P:=λt=>Yz9) (λO=>YwY) λO O=>Ywc:Yz9),Ge bq,λfR qU=>Zmg⟩)))))))))))));have cz:aB no m (upd m fR YIs):=ZB6;have aau:=bw m fR Yu2;generalize upd m fR Yu2=bF at cz aau ⊢;refine atZ K F GD (au Yk len) bq oZ MO (fg.no cz) aau λeK f4=>aS (aas K F oZ ((fg.no cz).no f4) W1 GD len MO AG λi0 gL aup auq=>⟨?_,cf _ _ ⟨?_,?_,?_,?_,?_⟩⟩)
  ·exact aj YF (aj Yl3 (au ld Y2))
  ·exact fH YBV ((dK (f:=ay) (l₁:=Y7y.2) (l₂:=[_])).symm)
  ·exact gT YBV aup
  ·exact bW YBV ((r6 W1 oZ MO).1)
  ·exact bW YBV auq
  ·exact((f2.trans cz.iO).trans f4.iO).trans gL
 ·obtain⟨rfl,fg,W1,GD,f2⟩:=z;exact λb ah=>⟨0,h b _ Yc (f2.trans Y11) (fg.no Y11) W1 GD⟩
theorem aav(hs:Y1P):∀s:cv,(mA most q hs s).2.length≤YDx+hs.length:=by
 induction hs with
 |nil=>exact ZkL
 |cons h hs ai=>
  intro s;refine au (ai Yh3) ?_;have e:Yh3.2.length≤YDx+1:=by
   by_cases w:YnL
   ·exact dU Ym2 Y1I
   ·exact dU Ylv (dH ZJr)
  refine au (h7 e _) (dH ?_);rw[fO,dw];rfl
variable{fD:Nat}
theorem xH.dq{P:cn}{s:cv}(D:xH m1 m B fD dP P ext s)(F:Y6C):xH m1 ab B fD dP P ext s:=⟨λa o e h n=>F _ _ (D.1 a o e h n) rfl,F _ _ D.2 rfl,D.3.no F,D.4⟩
theorem aur{B:fu}{P:cn}{f:YL}(K:YN)(F:YZ){s:cv}(D:xH m1 m B fD dP P Y3J s)(fu:q3 YOk)(C:YlX)(hm:Y3f)(aF:Y1t){h:fT}(z:YWX)(aE:YDx≤1000){zN vG GF:Yp}(dp:∀ab vG jV,xH m1 ab B fD dP P Y3J Yh3→Qn YfL ab):a6 YCb Vr YfL m Qn Q:=by
 refine YM;obtain⟨pp,ah,nr⟩:=D.3.1;refine Yb;have vy:Yvl≤1000001:=aj Y3d (au D.4.6 Y2);refine Yt;intro aCc;refine en (fo (aw (d6 (kH rfl ah (rfl:c8 YGj YcV=YXC) ⟨_,_,D.3.2,vy,aw (kH rfl ah Yym Y3p)⟩))));show cond (decide ((Yvl:Int)≤Yy1)) _ _;refine ZCo;unfold applyN at dp;by_cases w:YnL
 ·rw[Ym2]at dp;exact d9 (decide_eq_false λh=>su w (Dk.mp h)) (dp m vG jV D)
 ·rw[Ylv]at dp;have w:=hq w;have az:=au w hm;refine d9 (decide_eq_true (Dk.mpr w)) ?_;show a6 YCb Vq YfL m YsG Q;have b:=Gi Zd7 q aF h.2 z.1;have tk:=D.4.tk fu C aF z az;refine Yt;intro Xj;refine KX (done_two K F aF (MH z) YFH YFI az b.2 b.3 tk.1 tk.2 D.3 rfl rfl rfl λe2 aH av f2 c9 lK aaw=>⟨_,_,av,?_⟩);have sa:=f2.go D.2;show a6 YCb Vp [Z2,eg,d1,YBK,Y2x,zN,oX,Yp7,some ZFV,some ZFS,GF] aH YsG Q;refine Yt;intro asL;refine hO (mx (bc rfl ⟨⟨_,_,sa⟩,aw (bQ (oS rfl rfl ⟨rfl,aS ⟨_,_,sa,ZHt,?_⟩⟩))⟩));have bx:YN2++[V.tup [ZFV,ZFS]]=(s.2++YFk).map gw:=(dK (f:=gw) (l₁:=s.2) (l₂:=YFk)).symm;refine aa bx ?_;have dD:=kg YFH.1 b.2;have sep:∀{a:Nat}{t:Nat}{o:ct},aH a=Y59→t≠8→a≠fD:=λaD n e=>n (congrArg Ysb (c4 YkD sa));obtain⟨cO,aJ,aC⟩:=c9.1;refine f9 (Qr:=Q) (f9 (Qr:=Q) (dp _ _ _ ⟨λa o e ar n=>YBi (f2 _ _ (D.1 a o e ar n) ar),Yc,⟨⟨cO,(dE (sep aJ Yf)).trans aJ,(dE (sep aC Yf)).trans aC⟩,(dE (sep c9.2 Yf)).trans c9.2,(dE (sep c9.3 Yf)).trans c9.3⟩,D.4.put fu C aF z lK aaw (au (ZKj (kg YGS ZTy).1).3 (au (gR az ZDI.1) Y2))⟩))
def xI(l:YaV):V:=YD [Z2E,Z1w]
noncomputable abbrev runN (most:Nat) (ls:Ydr) (s:cv):cv:=ls.foldl YsE s
theorem aus(ls:Ydr)(h:∀l∈ls,l.2.length≤13):∀s:cv,(runN most ls s).2.length≤YDx+13*ls.length:=by
 induction ls with
 |nil=>exact ZkL
 |cons l ls ai=>
  intro s;exact au (ai (λl aE=>h l (eI _ aE)) _) (au (h7 (au (aav l.2 s) (c0 (h l b3) _)) _) (dH (fH g5 (bW YK4 (aj ZO (congrArg _ (gi 13 ..)))))))
theorem aax{cl:Calls}{c:E}{elt:wG}{x y:V}{N:Ys}(h:Yvd YPH m λb ab=>cond b (elt YPH ab Ysa) Ye5):mV YA5 false r Ywp elt Z2R acc m N:=h
theorem any_filter(l:ZC)(p:YIT):(!(l.filter p).isEmpty)=l.any p:=by
 induction l with
 |nil=>rfl
 |cons a l ai=>
  refine dU Hv (aL Ae ?_)
  cases p a with
  |true=>rfl
  |false=>exact ai
theorem aut{f:YL}{df mW zN vG:Yp}(az:Y4h)(hf:mh fD=some (t,Y5 (fr.map gw)))(aE:YB4)(ar:∀p∈fr,Ynx)(hs:fr.length≤1000)(h:∀ab,Y0G→Q (YK (fr.any YZ2)) ab):a6 ZH KR [df,eg,d1,YBK,mW,zN,oX,tR,vG,jV,Y5h] mh ZS Q:=by
 have l1:YOy:=Yh2;refine Yt;intro aCd;refine cZ (bQ (aw (tE (bc rfl ⟨_,_,hf,kf fr gw (λd acc m=>YHO∧acc=YwE λO=>YI 1) Zn (λO O O z=>aV z.1 (⟨t,hf⟩)) ZiG Y41⟩))))
 ·obtain⟨rfl,rfl⟩:=z;have c5:=ar x YGc;have le:(YwE Yrc).length≤1000000:=by
   exact aj YF (au YI4 (au Y7a (au hs Y2)))
  have cf:=λgC bk=>cf gC mh Zna;refine aax (fo (aw (xB rfl rfl aE l1 (vz c5.1) (aw (xB rfl rfl aE l1 (vz c5.2) Y7Q)))));show cond (!b8 (ay YkG) (ay YkH)) _ _;rw[Hw,Hv,List.filter_nil]at cf;by_cases q:YkG=YkH
  ·(refine aa q (mK Y3t ?_))
   rw[show ZNs=false from by rw[q];exact bne_self_eq_false _]at cf;exact cf _ (fH (rfl:(if false=true then[x]else[])=([]:cn)) (bW Y1U rfl))
  ·refine mK Ylk ?_;rw[show ZNs=true from bne_iff_ne.mpr q]at cf;exact cst ⟨le,cf _ (dK (f:=Zgy) (l₁:=d.filter YZ2) (l₂:=[x])).symm⟩
 ·obtain⟨rfl,rfl⟩:=z;refine λb ah=>⟨0,aw (bQ (aS λe2 d7=>⟨0,aS ⟨_,_,YTa,_,_,Yc,Y5F,?_⟩⟩))⟩
  ·refine Yl5;rfl
  ·show Q (YK (!j0 _ [])) _;exact aX (ne_nil (kv:=Zgy) ..) (aX (any_filter ..) (h _ YvF))
theorem aay{B:fu}{P:cn}{f:YL}(K:YN)(F:YZ){lots:Z5L}{gY:Nat}(Z:fv mh B YOk Y3J)(hm:Y3f)(fu:q3 YOk)(C:YlX)(aE:mh gY=some Yty)(da:lots.length≤4)(aA:∀l∈lots,ZTa∧(∀h∈YVZ,pV dP f YAy h)∧l.1.2.length≤13∧mh l.2=ZaB)(dk:YeR)(h:∀ab,Y8p→fv ab B Yal Y3J→q3 Yal→Yal.2.length≤P.length+52→Q (YK (YMY).2) ab):aU g YDX 680 [Y1Z,Z1t] mh Q:=by
 refine YM;obtain⟨pp,ah,nr⟩:=Z.1;refine Yb;have Mu:∀{pp},c8 YGj YcT=ZZy:=rfl;have pl:(P.map gw).length≤900000:=aj YF dk;refine Y02;intro gb gc gd;refine B0 (aw (d6 (kH rfl ah Mu ⟨_,_,nr,au pl Y2,λbe aaz=>⟨0,aw (bQ (aS λfD sa=>Zmk))⟩⟩)));have f1:aB no mh Zc6:=(aB.new aaz).trans ZB7;have ak:upd YXk fD Y4Y be=Za8:=cY sa Yc;have av:=bw YXk fD YuL;have mN:∀{b o},Y9R→b≠fD:=λe q=>by
  have w:=(aB.new (p:=no) (x:=(0,ct.list YRT)) aaz) _ _ e rfl;replace w:=aQ sa YCo;exact YLF
 generalize Zc6=m1 at f1 ak av ⊢;revert m1;refine Y18;intro m1 f1 ak av;show a6 YCb Vt [Z2,YXE,YXD,YBK,none,none,none,none,none,none,none] m1 ZS Q;have bo:∀d rest,lots=YLN→(YWz).2.length≤13*d.length:=λd rest e=>au (aus YaG (λO aE=>(ee aE).elim λz w=>w.2▸(aA z (aa e ZTS)).2.2.1) YJ3) (dU YF YjE);refine forL (bc rfl ⟨_,_,YUZ,k0 lots xI (λd r m=>ar3 (λfl e0 fC e9 mB kj=>[Z2,YXE,YXD,YBK,fl,e0,fC,e9,mB,kj,none]) (xH m1 m B fD dP P Y3J (YWz)) r) ⟨⟨YYX,av,YfA,.init fu⟩,_,_,_,_,_,_,rfl⟩ (λd r m z=>⟨0,Y5E _ _ YUZ YOh (mN aE)⟩) (λd l rest e r m z jq e8=>?_) Y3k⟩)
 ·refine YM;obtain⟨D,fl,e0,fC,e9,mB,kj,rfl⟩:=z;refine Yb;have mw:=aA l Y1o;have ld:d.length≤4:=au Y7a da;have es:runN most ((d++[l]).map Yh) YJ3=mA most YAy YVZ (YWz):=aT dK wc;have tT:=au (bo d _ e) (iu 13 ld);rw[es]at e8;generalize YWz=s at D tT e8;have sT:=f1 _ _ YnM.2 rfl;refine cy (forL (bc rfl ⟨_,_,D.1 _ _ sT YOh ZUW,?_⟩));let auu:=λ(i3:List _)(r:bG)YJJ=>LP (λfC e9 mB kj=>[Z2,YXE,YXD,YBK,some Z2E,some Z1w,fC,e9,mB,kj,none]) (xH m1 m B fD dP P Y3J (mA most YAy i3 s)) r;refine k0 YVZ h4 auu ⟨D,_,_,_,_,rfl⟩ (λi3 r m z=>⟨0,Y5E _ _ sT YOh ZUW⟩) (λi3 x CK aC r m z aaA auv=>?_) Y3k
  ·refine YM;obtain⟨r0,fC,e9,mB,kj,rfl⟩:=z;refine Yb;have l2:i3.length≤13:=au ZGo YnM.1;exact cy (aur K F r0 fu C hm mw.1 (mw.2.1 x YSP) (au (aav i3 s) (au (gR tT l2) Y2)) λO O O auw=>auv _ _ ⟨aL Xv auw,_,_,_,_,rfl⟩)
  ·refine YM;obtain⟨r0,fC,e9,mB,kj,rfl⟩:=z;exact ax (f9 (Qr:=Q) (e8 _ _ ⟨r0,_,_,_,_,_,_,rfl⟩))
 ·refine YM;obtain⟨D,fl,e0,fC,e9,mB,kj,rfl⟩:=z;refine Yb;have tT:=au (bo lots [] Y8L) (iu 13 da);have iW:YMY=((YJP.1,P++YJP.2),YJP.2.any λp=>h6 YJP.1 P p.1 !=h6 YJP.1 P p.2):=rfl;rw[iW]at h;generalize YHi=s at D tT h;have aaB:=Zd7;refine Yt;intro aCe;refine el (eZ (e5 rfl (Gw (k:=k+15) K F YFH YFI D.4.6 D.3 (λp ar=>⟨ew ZOi.1 aaB,ew ZOi.2 aaB⟩) dk λei aH vE G f2=>?_)));obtain⟨cO,aJ,aC⟩:=D.3.1;have aJ:=f2 _ _ aJ rfl;have aaC:=f2 _ _ D.2 rfl;have auy:aB jF mh aH:=λa o e ar=>f2 _ _ (D.1 a o YUa ar ZUV) rfl;show a6 YCb Vs [Z2,YXE,YXD,YBK,fl,e0,fC,e9,mB,kj,Y5h] aH ZS Q;refine Yt;intro aCf;refine tq (bQ (oS rfl rfl ⟨_,_,(f2 _ _ (D.1 _ _ ak YOh (λe=>by replace ak:=aQ av (bN e ak);exact absurd (congrArg YZ1 (cu ak)) YwC:be≠fD)) rfl),_,_,aaC,by refine ZCW;exact au (gR dk tT) Y2,λgg iQ=>⟨0,bc rfl (cst ⟨_,_,_,cY iQ aJ,rfl,(Y2:5≤1000000),?_⟩)⟩⟩));have cz:aB no aH (upd aH gg (0,Y5 Z6d)):=YKj;have aP:=bw aH gg (0,ct.list Z6d)
  (rw[←dK]at cz;rw[←dK]at aP;refine aV dK ?_)
  generalize upd aH gg (0,Y5 ((P++s.2).map gw))=bF at cz aP ⊢;revert bF;refine Y18;intro bF cz aP;have iQ:=cz _ _ aJ rfl;show a6 YCb KR _ Ypt ZS Q;have f4:aB jF bF Ypt:=aB.at iQ rfl;have ja:=(D.3.no f2).no cz;have sep:∀{a:Nat}{t:Nat}{o:ct},bF a=Y59→t≠4→a≠B.b:=λaD n e=>n (congrArg Ysb (c4 YkD iQ));exact aut D.4.6 (f4.go (cz _ _ aaC rfl)) (f4.go Yiy) D.4.5 (au tT Y2) λi0 gL=>h i0 (((auy.trans cz.iO).trans f4).trans gL.iO) (fv.no (⟨⟨gg,Yc,(dE (sep aP Yf)).trans aP⟩,(dE (sep ja.2 Yf)).trans ja.2,(dE (sep ja.3 Yf)).trans ja.3⟩:fv Ypt B (s.1,P++s.2) Y3J) gL) (D.4.fin fu C) (aj cj (c0 tT _))
abbrev kk(m:ag)(B:fu)(tr:Bool)(most:Nat)(s:cv)(c:Nat):Y1:=jd (fv m B s Y3J) (q3 s) (YDx≤c)
theorem kk.no{c:Nat}{s:cv}(Z:ZTM)(F:Y6C):kk ab B tr most s c:=⟨YFj F,Z.2,Z.3⟩
theorem kk.up{c:Nat}{s:cv}{ft:Nat}(Z:YMI)(h:c≤ft):kk mh B tr most s ft:=⟨Z.1,Z.2,au Z.3 h⟩
theorem kk.hits{c:Nat}{s:cv}(Z:YMI)(G:hl s.1 s.2 YUv)(aF:Y1t):(∀h∈YmJ,ZX1)∧(jo s q).length≤13:=by
 have a:∀h∈YmJ,ZX1:=λh bJ=>(Gg aF YAI G.1 h).mp bJ;exact⟨a,au (aac aF Ydl.1 a) YKW⟩
theorem aaD{c:Nat}{s:cv}(K:YN)(F:YZ)(hm:Y3f)(Z:YMI)(ao:c+52≤800000)(aF:Y1t){e:E}(af:Y1H=Z2)(he:∀(m:ag)(Q':Yj),Q' Y36 m→(bH YKn e).1 r m Q')(h:∀ab,Y8p→kk ab B tr most ZT3.1 (c+52)→Q (YK ZT3.2) ab):(bH YKn (.op YTY [v i,.op fj [.op oTup [e,.op YTX [v i,.op YAZ [v i],e]]]])).1 r mh Q:=by
 have dk:ZZ6:=ZF4;refine eZ (aw (bc af (aw (bQ (aw (bQ (aw (he _ _ (aw (eZ (aw (bc af (aw (eZ (aw (bc af (aS (Gw (k:=YVP) K F YAI YRp YKW Z.1 Z.2.4 dk λei m1 vE G f1=>aw (he _ _ (aS (aak (k:=YDW) K F YAI YRp YKW (YFj f1) G aF vE λtU aH MP f2=>aS ⟨rfl,aS Zia⟩)))))))))))))))))))));have cz:aB no aH (upd aH gY (0,Y5 YfH)):=ZB3;have aP:=bw aH gY Yu9;generalize upd aH gY Yu9=bF at cz aP ⊢;revert bF;refine Y18;intro bF cz aP;have hL:=Yx9;have bJ:=Z.hits G aF;exact aay (lots:=YfB) K F Z99 hm Z.2 G aP YwZ (λl aE=>by
  exact aa (bR aE) (⟨aF,bJ.1,bJ.2,cz _ _ MP rfl⟩)) dk λeK f4 qX MQ px=>h eK ZQZ ⟨qX,MQ,au px (h7 Z.3 _)⟩
abbrev sb(g:G)(k:Nat)(B:fu)(tr:Bool)(most:Nat)(p:iD):Y1:=∀{mh:ag}{Q:Yj}{s:cv}{c:Nat},YMI→ZIS≤800000→(∀ab,Y8p→kk ab B tr most YLY.1 ZIS→Q (YK YLY.2) ab)→aU g k 685 [Y1Z,YAo] mh Q
theorem auz(K:YN)(F:YZ)(hm:Y3f)(aF:Y1t):sb g Y6U B tr most Z0y:=λ{mh Q s c}Z ao h=>by
 refine Y02;intro gb gc gd;refine ZMw;exact tN rfl (cZ (aaD K F hm Z ao aF rfl (λO O dp=>hD 1 rfl Y4Z rfl dp) h))
def accN(F:YO3)(l:ZC)(s:cv):YGQ:=l.foldl ZkD Yb4
theorem aaE{F:YO3}{d:ZC}{x:α}{s:cv}:accN F YAc s=(Z42.1,Ygm.2++[Z42.2]):=wc
theorem auA{F:YO3}(l:ZC){s:cv}:Ygn.2.length=l.length:=by
 have h:∀r:YGQ,Ymk.2.length=YoX+l.length:=by
  induction l with
  |nil=>exact ZkG
  |cons a l ai=>exact λr=>YvU
 exact(h _).trans YVc
theorem auB{F:YO3}(l:ZC)(s:cv):l.foldl ZkE Yb5=(Ygn.1,Ygn.2.any id):=by
 have h:∀(r:YGQ),l.foldl ZkE (r.1,YoW)=(Ymk.1,Ymk.2.any id):=by
  induction l with
  |nil=>exact ZkG
  |cons a l ai=>
   intro r;have w:=ai YIp;replace w:=Au List.any_append w;refine aj NI (aj NI (bL w ?_));show Hc _ (YOW,YoW||YOX) l=Hc _ (YOW,YoW||(YOX||false)) l;exact aa (Ds ..) rfl
 exact h Yb4
theorem aaF(bs:Yds):(bs.map V.bool).all (j2 · Y0h)=true∧(bs.map V.bool).any (b8 · Y0h)=ZHa:=by
 induction bs with
 |nil=>exact Zn
 |cons b bs ai=>
  rw[mF,List.all_cons,Ae,Ae,Y7T,YCi]
  cases b <;> exact Zn
theorem CN{cl:Calls}{v:V}(h:Y39):(bH cl (.op (wN v) [])).1 r m Q:=h
theorem aaG{c:Nat}{s:cv}{cl:Calls}(l:ZC)(kv:Y6i)(xJ:YO3)(w:Zg8){src elt:E}(hs:∀Q':Yj,Q' (YD Y7u) mh→(bH cl src).1 r mh Q')(h0:Y5Y=Z2)(Z:YMI)(ao:ZIR≤800000)(aE:l.length≤4)(step:∀a∈l,∀(m:ag)(s:cv)(c:Nat)(Q':Yj),ZTM→ZIT≤800000→(∀ab,ZAz→kk ab B tr most Zel.1 ZIT→Q' (YK Zel.2) ab)→YEZ [some Ymg,Z2] m Q')(h:∀ab,Y8p→kk ab B tr most ZDh.1 ZIR→Q (YK (ZDh.2.any id)) ab):(bH cl (.op JE [YHX,ZF iK [src] ZQ 1 [0] [] elt])).1 r mh Q:=by
 have fB:inR 1 [0] r=[none,Z2]:=by
  show[none,YEl]=_;exact gS YxJ rfl
 refine bQ (aw (cst (aw (tF (hs _ ZDA)))));let auC:=λYOi YvP YJJ=>YFm∧kk m B tr most Ygo.1 ZIQ∧acc=Ygo.2.map YK;refine kf l kv auC ⟨Yy,Z,rfl⟩ Y2M YYq Y41
 ·obtain⟨f,cw,rfl⟩:=z;have ws:ZIQ+52*w x=c+52*Ytb:=by(exact aa dK (fH ui (aa acE (aL Ot (bW YI5 (ZO))))))
  have wl:Ytb≤Yai:=by
   exact fH e (fH ((hG d [x] rest).symm:YCw=YAc++rest) (bW (dK (l₁:=YAc)) (aL ui Yk)))
  refine my (step x YGc m _ _ _ cw (au (dH ws) (au (c0 (iu 52 wl) c) ao)) λaH f2 c9=>⟨?_,cf _ _ ⟨Y4z,?_,?_⟩⟩)
  ·exact aj YF (aj (auA ..) ZEp)
  ·exact aX aaE (bL ws c9)
  ·exact fH aaE ((dK (f:=V.bool) (l₁:=Ygo.2) (l₂:=[_])).symm)
 ·obtain⟨f,cw,rfl⟩:=z;exact λb ah=>⟨0,aS ⟨_,_,Yc,ZDH.1,aX (ZDH.2) (h _ ZNt (cw.no Y11))⟩⟩
theorem MR{cl:Calls}{a s:Mine.Internal.S}{e:E}{x n:Nat}(bo:YiY=Za4)(h:ZW7)(q:YKf):a6 cl (.cV (Y6w (.op oEq [v 2,bK n]) e) a YO s) r m Qn Q:=en (Gh (fo (aw (bc bo (aw (cst (aS ⟨rfl,iP ZRJ (iP rfl YkL)⟩)))))))
theorem aaH{g:G}{k:Nat}{B:fu}{tr:Bool}{most:Nat}(K:YN)(F:YZ){p:iD}{ps:YFQ}(kC:YAo=Yca)(hw:ZQY)(aE:Y9U)(dk:∀{tr most s},YLY=(ZDf.1,ZDf.2.any id))(kY:∀q∈ps,sb g k B tr most q):sb g (k+1) B tr most p:=λ{mh Q s c}Z ao h=>by
 have aP:Yv3:=YFy;refine Ynt
 (replace ao:=k7 hw ao;rw[hw]at h)
 refine gJ ZT K rfl Y2 (el (hD 0 rfl aP rfl (kG rfl rfl (MR rfl rfl (kG rfl rfl (tN rfl (cZ (aaG ps gh ZMJ hF (λO dp=>d6 (bc rfl ⟨Y1X,aP,Gm ps,dp⟩)) rfl Z ao Y7W (λa aD O O O O cw n0 dp=>eZ (oS rfl rfl (kY a aD cw n0 dp))) Zhc))))))));rw[dk]at h;exact ZPi
theorem auD(l:YRC):(l.map Y5n).sum=l.length:=by
 induction l with
 |nil=>rfl
 |cons a l ai=>rw[mF,yb,ai,gi];rfl
theorem auE(K:YN)(F:YZ)(hm:Y3f):sb g Y6U B tr most YEu:=λ{mh Q s c}Z ao h=>by
 obtain⟨pp,ah,nr⟩:=YRo;refine gJ ZT K rfl Y2 ZMv;show a6 _ FN YfM mh ZS Q;refine kG rfl rfl (en (Gh (fo (aw (bc rfl (aw (cst (aS ⟨rfl,fo (aw (bc rfl (aw (cst (aS ⟨_,_,_,ah,rfl,_,Yyn,?_⟩)))))⟩))))))))
 cases tr with
 |true=>
  show a6 YKn Vu YfM mh (λbI ab=>a6 YKn KS bI ab ZS Q) Q;have hw:Yw4=4:=auD cB;have n0:c+52*Yw4≤800000:=dU hw ao;refine cZ (aaG (most:=most) (tr:=true) (s:=s) (c:=c) cB YZ4 YME Y5n (λO dp=>CN dp) rfl Z n0 Ywf (λO aF m O O Q' cw n0 dp=>aaD K F hm cw n0 aF rfl (λO O dp=>bc rfl dp) dp) Zhc);have e:ZMO=(ZDg.1,ZDg.2.any id):=(show ZMO=ZJ4 from by
   show ZYw=_;exact cond_true _ _).trans (auB (F:=YME) cB s)
  rw[e]at h;rw[hw]at cw;exact ZPi
 |false=>
  show a6 YKn KS YfM mh ZS Q;have dk:ZZ6:=ZF4;refine tN rfl (el (eZ (e5 rfl (Gw (k:=YVP) K F YAI YRp YKW Z.1 Z.2.4 dk λei m1 vE G f1=>Yt))));intro aCg;refine cZ (eZ (aw (bc rfl (aw (tF (CN (kf cB YZ4 (λd acc m=>ZB1∧∃lots:Z5L,YVg=d.map Zk3∧acc=YMM∧∀l∈lots,ZTa∧YVZ=jo s YAy∧m l.2=ZaB) ⟨Yy,[],rfl,rfl,λO aE=>absurd aE cS⟩ Y2M ZiE Y41)))))))
  ·obtain⟨f2,lots,aJ,rfl,aE⟩:=z;have aF:Y1t:=Y1o;refine my (bQ (aw (bc rfl (aw (eZ (F3 rfl rfl rfl (aak (k:=YDW) K F YAI YRp YKW ((YFj f1).no f2) G aF (f2 _ _ vE rfl) λtU aH MP cz=>aS ⟨rfl,?_,cf _ _ ⟨YkK,lots++YfB,?_,?_,λl h=>?_⟩⟩)))))))
   ·refine aj YF (ZBl);have w:=Y7e;rw[cj]at w;exact YSa
   ·rw[dK,aJ,dK];rfl
   ·exact(dK (f:=xI) (l₁:=lots) (l₂:=YfB)).symm
   ·rcases iw h with h | h
    ·exact⟨Yft.1,Yft.2.1,cz _ _ Yft.2.2 rfl⟩
    ·refine ZCl;exact⟨aF,rfl,MP⟩
  ·obtain⟨f2,lots,aJ,rfl,aE⟩:=z;refine Zia
   have cz:aB no m (upd m gY Yty):=ZB3;have aP:=bw m gY Yu8;generalize upd m gY Yu8=bF at cz aP ⊢;have hL:=Yx9;have aC:eH false most YEu s=n9 most (YVg) s:=by refine dS aJ ?_;rfl
   rw[aC]at h;refine aay (lots:=lots) K F Z99 hm Z.2 G aP ?_ (λl w=>⟨YFp.1,?_,?_,cz _ _ YFp.2.2 rfl⟩) dk λeK f4 qX MQ px=>h eK ZQZ ⟨qX,MQ,au px (gR Z.3 (Y2:52≤52*4))⟩
   ·refine ZBl;exact Ywf
   ·refine aa YvL ?_;exact Z9D.1
   ·refine aX YvL ?_;exact Z9D.2
theorem MS{c w b n:Nat}(h:c+52*b≤n)(e:YqG):c+52*w+52*a≤n:=aj ZO (bN YI5 (au (c0 (iu 52 e) c) h))
theorem auF{cl:Calls}{a b:E}(h:YOd r m λx ab=>x.Ay False λx=>cond x Z6r Yvc):(bH cl Z1d).1 r m Q:=h
theorem auG{g:G}{k:Nat}{B:fu}{tr:Bool}{most:Nat}(K:YN)(F:YZ){a b:iD}(aD:ZZZ)(ah:sb g k B tr most b):sb g (k+1) B tr most Y9w:=λ{mh Q s c}Z ao h=>by
 refine ZP3;show a6 _ FN [Z2,some (gh Y9w),some Z29,none,none] mh ZS Q;refine kG rfl rfl (MR rfl rfl (kG rfl rfl (kG rfl rfl (tN rfl Yij))));have dD:YGt+0≤hF Y9w:=Yk;have hE:eH tr most Y9w s=cond YOo Y92 ZML:=rfl;have q0:c+52*YGt+52*hF b=c+52*hF Y9w:=by rw[dw,←uh];rfl
 rw[hE]at h;refine auF (eZ (aw (bc rfl (aw (hD 1 rfl Y5I rfl (aS (aD Z (MS (a:=0) ao dD) λm1 f1 fg=>?_)))))))
 cases e:YOo with
 |true=>
  rw[e]at h;have q:Q (YK YOo) m1:=h m1 f1 (fg.up (c0 (iu 52 dD) c));replace q:=ZGe;exact q
 |false=>
  rw[e]at h;exact eZ (aw (bc rfl (aw (hD 2 rfl Y5I rfl (aS (ah fg (MS ao YW) λaH f2 c9=>h aH Y7k (bL q0 c9)))))))
abbrev auH(mh:ag)(B:fu)(tr:Bool)(most w:Nat)(T:Y12)(F:Y4w)(n:Nat)(b:Bool)(v0 v1 v2:Yp)(r:bG)(m:ag)(bU:Y1):Y1:=∀(s':cv)(fl:Yp),YFm→kk m B tr most s' w→T=Cy F n b s'→r=[v0,v1,v2,none,fl]→bU
abbrev auI(mh:ag)(B:fu)(tr:Bool)(most w:Nat)(T:Y12)(F:Y4w)(n:Nat)(b:Bool)(v0 v1 v2:Yp)(r:bG)(m:ag):Y1:=∀bU:Y1,auH mh B tr most w T F n b v0 v1 v2 r m bU→bU
theorem auJ{g:G}{k:Nat}{B:fu}{tr:Bool}{most:Nat}(K:YN)(F:YZ){a:iD}{n:Nat}(az:Y2X)(aD:ZZZ):sb g (k+1) B tr most YF8:=λ{mh Q s c}Z ao h=>by
 refine ZP3;show a6 _ FN [Z2,ZaS,Za2,none,none] mh ZS Q;refine kG rfl rfl (MR rfl rfl (kG rfl rfl (kG rfl rfl (kG rfl rfl (forR (d6 (hD 2 rfl Y5I rfl ZnD)))))));refine k0 Y6L ay (λd=>auI mh B tr most (c+52*YTl) (eH tr most YF8 s) ZMK YHP YTw Z2 ZaS Za2)
  (λO bA=>bA s none Yy (by refine aa Hl (fH (Oo ..) ?_);exact Z) rfl rfl) Y2M YIh Y3k
 ·refine bp λax=>ZfJ;subst BO;have w:YwS:=YT4
  have hd:ZKX:=ZHm
  have ex:Zei:=ZI8
  obtain⟨j,fe⟩:ZmT:=ZnX
  refine Yb;have Me:ZVB:=ZHq
  rw[fe,XN]at hE;refine t1 (en (L6 (xk (aw (bc rfl (aw (hD 1 rfl Y5I rfl (aS (aD cw (MS ao (Zdd:ZKV)) λaH f2 c9=>?_)))))))));replace c9:=fH Zdc (bW YI5 (bL ZO c9));show cond (! Yjc.2) _ _
  cases cM:Yjc.2 with
  |true=>
   replace hE:=ZX4;refine e8 _ _ (λO bA=>bA (Yjc.1) _ Y4z ?_ ?_ rfl)
   ·refine ZD2;exact c9
   ·rw[cj,sx,Me,ZLQ];exact hE
  |false=>
   rw[cM]at hE;rw[hE]at h;refine ZD9;refine ZJL;show Z6n;exact YwJ▸(h aH Y4z (c9.up (c0 (iu 52 YMS) c)))
 ·refine ZfJ;subst BO
  (rw[fN]at cw;rw[fN]at hE)
  rw[rf]at hE;rw[hE]at h;refine cZ (bQ (aw (hD 2 rfl Y5I rfl Y8v)));show Z6o;exact YwK▸h m f cw
theorem zO(k a:Nat):Y6U+a+1=k+1+18+a:=aj (fO Y6U a 1) (dS (fO k 18 1) rfl)
theorem auK{k:Nat}(K:YN)(F:YZ)(hm:Y3f){p:iD}(ok:Md p):sb g (Y6U+k1 p) B tr most p:=by
 induction p generalizing k with
 |once q=>exact auz K F hm ok
 |all=>exact auE K F hm
 |seq1 a ai=>
  exact @aaH g ZSo B tr most K F YcR [a] rfl YZs Y5H ZlK λq aF=>aa Y0H (aV ZO (aa YYL ZE2))
 |Cx a b eh eQ=>
  refine @aaH g ZSp B tr most K F Yzx Y1R rfl Yw6 Y5t Yzl YOI
  ·exact aa e ZCJ
  ·exact aa Y0H ZCI
 |either a b eh eQ=>
  refine @auG g ZSp B tr most K F a b ?_ ?_
  ·exact ZCJ
  ·exact ZCI
 |rep a n ai=>
  exact @auJ g ZSo B tr most K F a n YHV (aV ZO (aa YYL ZE3))
noncomputable abbrev pZ:Z9:=cl 6
noncomputable abbrev p0 (cd:Nat) (n:Int):dm:=[(Y4 7,Z1q),(Y4 9,Y72)]
inductive jb(m:ag)(bX:Nat):Y1
 |mk (at_:∃cd n cs,m bX=some (6,Y9 1 (p0 cd n))∧m cd=ZaG∧cs.all V.isInt=true∧cs.length≤1000)
variable{bX:Nat}
theorem jb.dq{p:Z9}(Z:YH1)(F:YFo)(pd:p 6=false)(auL:p 14=false):YAw:=⟨Yf9 λO z=>z.imp λO z=>z.imp λO z=>⟨F _ _ z.1 pd,F _ _ Z4 auL,Z3⟩⟩
theorem aaI(x:Int){n:Nat}(h:0<n):∃w:Nat,w<n∧x.fmod Y0q=(w:Int):=by
 have az:YuA:=x1.mpr h;obtain⟨w,e⟩:=ax3 (Int.fmod_nonneg_of_pos x az);exact⟨w,x1.mp (aV e (Int.fmod_lt_of_pos x az)),e⟩
theorem CO{cl:Calls}{x y:Int}(h:Z6w):oI.o.ij cl Z9R m Q:=h
theorem tV(K:YN)(F:YZ){n:Nat}(Z:YH2)(az:0<n)(h:∀w ab,w<n→ZSO):aU g (k+1) 636 [YQ5,Y3D] mh Q:=by
 refine YM;obtain⟨cd,d,cs,ar,ao,ci,cl⟩:=Z.1;refine Yb;have lB:∀{d},c8 ZWn (Y4 9)=some (YI d):=rfl;have aaJ:∀{d},c8 ZWn (Y4 7)=some Z1q:=rfl;refine Y02;intro gb gc gd;refine tq (bQ (aw (kH rfl ar lB (aw (cst (aS (CO (bc rfl (cst ⟨_,_,_,ar,rfl,Ywc,?_⟩)))))))));show a6 ZH U4 YfO Ypz ZS Q;have f1:aB pZ mh Ypz:=aB.at ar rfl;have aaK:cd≠bX:=λe=>by replace ao:=aQ ar (bN e ao);exact absurd (congrArg YZ1 (cu ao)) (Yf:(6:Nat)≠14)
 have kF:=bw mh bX (6,ct.dict 1 Yo1);have qZ:upd mh bX YuI cd=ZaG:=(dE aaK).trans ao;generalize Ypz=m1 at f1 kF qZ ⊢;revert m1;refine Y18;intro m1 f1 kF qZ;have aaL:Y0q≠0:=λe=>p8 az (Int.ofNat_inj.mp e);refine Yt;intro aCh;refine en (fo (aw (kH rfl kF aaJ (aw (bQ (aS λb ah=>⟨0,aS ⟨_,_,cY ah qZ,_,_,Yc,Y5F,?_⟩⟩))))))
 ·refine Yl5;rfl
 have f2:aB no m1 ZcM:=Y11;generalize ZcM=aH at f2 ⊢;revert aH;refine Y18;intro aH f2;have fK:=ZO6;have zP:=f2 _ _ qZ rfl;have hL:=ZO3
 cases cs with
 |nil=>
  show a6 ZH KO YfO aH ZS Q;refine cZ (bQ (aw (bQ (aw (bQ (aw (bQ (aw (bQ (aw (kH rfl fK lB (aw (cst (aS ⟨YC,YC,aw (cst (aS (CO (aw (cst (aS ⟨YC,aw (cst (aS ⟨rfl,ZFL⟩))⟩))))))⟩))))))))))))));obtain⟨w,hw,e⟩:=aaI (Int.fdiv (Int.fmod ((d+1)*29+17) 97) 3) az;exact aX e (h w aH hw ⟨cd,d+1,[],fK,zP,rfl,Z0⟩ hL)
 |cons x cs=>
  refine dG ci YEQ;obtain⟨i,rfl⟩:=V.jM bD;show a6 ZH U3 YfO aH (λr m=>a6 ZH KO r m ZS Q) Q;refine cZ (bQ (aw (mx (kH rfl fK aaJ ⟨⟨_,_,zP⟩,aw (cst (aS ⟨rfl,_,_,zP,au cl Y2,ZFL⟩))⟩))));obtain⟨w,hw,e⟩:=aaI i az;exact aX e (h w _ hw ⟨cd,d+1,cs,(dE aaK.symm).trans fK,Yc,bC,ud cl⟩ (hL.trans (aB.at zP rfl)))
abbrev zQ(p:cE)(n h:Nat):Y1:=hr YAi Y3s (ZV≤n) (YAY≤h)
abbrev auM(g:G)(k d:Nat):Y1:=∀{mh:ag}{Q:Yj}{bX:Nat},YH2→(∀p ab,ZfY→YAw→Yfr→Q Zl ab)→aU g YmU 643 Z9a mh Q
theorem p1{w n:Nat}(h:w<n+1):w<n∨w=n:=Ao h
theorem aaM(d:Nat):V.int (((d+1:Nat):Int) - 1)=ay d:=congrArg V.int (acr (d:Int) 1)
theorem MT{cl:Calls}{x y:Int}(h:Z6v):nR.o.ij cl Z9R m Q:=h
theorem p2{cl:Calls}{a s:Mine.Internal.S}{w n:Nat}(bo:Y1H=YNF)(h:w≠n)(q:YKf):ZAa:=en (fo (aw (bc bo (aw (cst (aS ⟨rfl,iP (ic λe=>h YMc) YkL⟩))))))
theorem CP{cl:Calls}{a s:Mine.Internal.S}{n:Nat}(bo:Y1H=YHo)(q:a6 cl a r m (λbI ab=>a6 cl s bI ab Qn Q) Q):ZAa:=en (fo (aw (bc bo (aw (cst (aS ⟨rfl,lS (iI Y3D) q⟩))))))
theorem GG(K:YN)(F:YZ){b:Nat}(aD:0<a)(ah:0<b)(Z:YH2)(h0:Y5Y=Y0T)(ak:YTL=some (ay d))(h:∀w ab,(0<d→w<a)→(d=0→w<b)→ZSO):(bH ZC8 (.op Y7d [v 0,.cV Yc6 (bY Ya2) (bY (b:Int))])).1 r mh Q:=by
 refine eZ (aw (bc h0 (aw (xC (fo (aw (bc ak Y8v)))))));show cond ZLI _ _;refine d9 (dec_lt 0 d:ZLI=decide (0<d)) ?_
 cases d with
 |zero=>exact cst (aS (tV K F Z ah λw ab hw cw f=>h w ab Zii ZhD cw f))
 |succ d=>exact cst (aS (tV K F Z aD λw ab hw cw f=>h w ab ZhD (λh=>absurd h (k5 d)) cw f))
theorem aaN{cl:Calls}{w:Nat}(hw:w<2){x0 c6:Yp}(h:∀o,Y4M→Q (bB Y9v) mh):a6 cl KP [x0,c6,YNF] mh ZS Q:=by
 refine p2 (n:=2) rfl (ej hw:w≠2) (cZ (xC (fo (aw (bc rfl (aw (cst (aS ⟨rfl,iP (ic λe=>(ej (p9 hw):w≠3) YMc) (bQ (aw (bQ (aw (bQ (aw (cst (aS ⟨rfl,aw (bQ (aw (cst (aS ⟨rfl,aS ⟨rfl,aw (bc rfl Y3p)⟩⟩))))⟩))))))))⟩))))))));rcases p1 hw with q | q
 ·exact aa YYD (⟨Y4Z,bB Y9u,rfl,h 17 rfl⟩)
 ·exact aa q (⟨Y4Z,bB (.c 21),rfl,h 21 rfl⟩)
theorem aaO(K:YN)(F:YZ)(d:Nat):auM g k d:=by
 induction d with
 |zero=>
  intro mh Q bX Z h;exact gJ ZT K rfl Y2 (el (GG (k:=k) (a:=4) (b:=2) (d:=0) K F Y2 Y2 Z rfl rfl λO ab O hw cw f=>aaN ZR2 λo aA=>h Y9v ab ⟨trivial,aA,YwX,YwX⟩ cw f))
 |succ d ai=>
  intro mh Q bX Z h;have aC:2 ^ (d+1+1) - 1=YQR+YQR+1:=by
   have p:=Nat.one_le_two_pow (n:=d+1);exact aT (x7 2 (d+1)) (aT YK7 (aL ZO (bW (x8 p) ((Nat.sub_add_comm p)))))
  refine gJ ZT K rfl Y2 (el (GG (k:=YH8) (a:=4) (b:=2) (d:=d+1) K F Y2 Y2 Z rfl rfl Zkp));show a6 YKo KP ZA1 ab ZS Q;have call:∀{m:ag}{Q':Yj}{r:bG},Y5Y=Y0T→YTL=YNE→YH1→(∀p ab,ZfY→YAw→Yfq→Q' Zl ab)→(bH YKo YPs).1 r m Q':=Zig;rcases ZWo with q | q
  ·rcases p1 q with q | q
   ·exact aaN q λo aA=>h Y9v ab ⟨trivial,aA,au ZOd (dH aC.symm),ZOd⟩ cw f
   ·rw[q];refine CP (n:=2) rfl ?_;show a6 YKo U5 [Y0T,YNE,some (ay 2)] ab _ Q;refine cZ (bQ (aw (cst (aw (call rfl rfl cw λa aH ga c9 f2=>aw (call rfl rfl c9 λb bF sN ja cz=>aS ⟨rfl,h (.b 1 a b) bF ⟨⟨ga.1,sN.1⟩,?_,?_,?_⟩ ja (Yx8 cz)⟩))))))
    ·exact(lF ⟨ga.2,sN.2⟩:(gu a&&gu b)=true)
    ·refine ZBZ;exact dX (gR ga.3 sN.3)
    ·exact dX (Nat.max_le.mpr ⟨ga.4,sN.4⟩)
  ·rw[q];refine p2 (n:=2) rfl Yf (cZ (xC (fo (aw (bc rfl (aw (cst (aS ⟨rfl,bQ (aw (cst (aw (call rfl rfl cw λa aH ga c9 f2=>aS ⟨rfl,h (.u 8 a) aH ⟨ga.1,lF ⟨rfl,ga.2⟩,?_,dX ga.4⟩ c9 Y4z⟩))))⟩))))))));refine ZBZ;exact dX (au ga.3 Yk)
def MU(d:Nat):Nat:=d.rec 4 λO w=>w+w
def tB(d:Nat):Nat:=d.rec 0 λO h=>h+h+2
abbrev zR(p:iD)(d:Nat):Y1:=jd (Md p) (YDM≤MU d) (k1 p≤tB d)
abbrev auN(g:G)(k d:Nat):Y1:=∀{mh:ag}{Q:Yj}{bX:Nat},YH2→Ysr→aU g YmU 648 Z9a mh Q
theorem mX(d:Nat):4≤MU d:=by
 induction d with
 |zero=>exact YW
 |succ d ai=>exact au ai Yk
theorem MV(K:YN)(F:YZ){w:Nat}(Z:YH2)(ak:w≠1)(av:w≠2)(aP:w≠3)(da:w≠4){c6:Yp}(h:Ysr):a6 ZC8 FL [Y0T,c6,YNF] mh ZS Q:=by
 refine p2 (n:=1) rfl ak (p2 (n:=2) rfl av (p2 (n:=3) rfl aP (p2 (n:=4) rfl da (cZ (bQ (aw (cst (aw (bQ (aw (CN (aw (eZ (aw (bc rfl (aw (cst (aS (tV (n:=4) K F Z Y2 λc ab ao cw f=>Y3p)))))))))))))))))));have aq:cB[c]?=some YiV:=dy ao;refine⟨YEd,Y4 YiV.1,?_,aS ⟨rfl,h (.once YiV) ab ⟨et aq,au YwZ (mX d),Z0⟩ cw f⟩⟩;show(cB.map λq=>Z8Q)[c]?=_;rw[gy,aq];rfl
theorem aaP{cl:Calls}(Z:YH2){c6:Yp}(h:Ysr):a6 cl FL [Y0T,c6,some (ay 1)] mh ZS Q:=
 CP (n:=1) rfl (cZ (bQ (aw (cst (aS ⟨rfl,h YEu mh ⟨trivial,mX d,Z0⟩ Z Yy⟩)))))
abbrev auO(bX d:Nat)(ab:ag)(e:YV)(acc:Y3)(m:ag)(bU:Y1):Y1:=∀(ps:YFQ),ps.length=e.length→acc=YBB→(∀p∈ps,Yr2)→YH1→aB pZ ab m→bU
abbrev auP(bX d:Nat)(ab:ag)(e:YV)(acc:Y3)(m:ag):Y1:=∀bU:Y1,auO bX d ab e acc m bU→bU
theorem auQ(K:YN)(F:YZ)(d:Nat):auN g k d:=by
 induction d with
 |zero=>
  intro mh Q bX Z h;refine gJ ZT K rfl Y2 (el (GG (k:=k) (a:=6) (b:=2) (d:=0) K F Y2 Y2 Z rfl rfl λw ab O hw cw f=>?_));rcases p1 ZR2 with q | q
  ·have q:=YYD;exact MV K F cw YBF YBF YBF YBF YsC
  ·rw[q];exact aaP cw YsC
 |succ d ai=>
  intro mh Q bX Z h;refine gJ ZT K rfl Y2 (el (GG (k:=YH8) (a:=6) (b:=2) (d:=d+1) K F Y2 Y2 Z rfl rfl Zkp));have h:∀p aH,zR p (d+1)→jb aH bX→aB pZ ab aH→Q YAo aH:=YsC;show a6 YKo FL ZA1 ab ZS Q;have call:∀{m:ag}{Q':Yj}{r:bG}{i j:Nat},Y1H=Y0T→YAW=YNE→YH1→(∀p ab,Yr2→YAw→Yfq→Q' YAo ab)→(bH YKo (.op YGL [v i,.op nR [v j,Y1c]])).1 r m Q':=Zig;have bJ:∀{a b:Nat},a≤tB d→b≤tB d→a+b+2≤tB (d+1):=λak av=>h7 (gR ak av) 2;rcases ZWo with q | q
  ·rcases p1 q with q | q
   ·rcases p1 q with q | q
    ·rcases p1 q with q | q
     ·rcases p1 q with q | q
      ·have q:=YYD;exact MV (k:=YH8) K F cw YBF YBF YBF YBF h
      ·rw[q];exact aaP cw h
     ·rw[q];refine p2 (n:=1) rfl Yf (CP (n:=2) rfl Yt);intro aCi;refine cZ (bQ (aw (bQ (aw (cst (aS ⟨rfl,aw (d6 (F4 (d6 (bQ (aw (cst (aw (eZ (aw (bc rfl (aw (cst (aS (tV (k:=YH8) (n:=2) K F cw Y2 λc aH ao c9 f2=>ZC2))))))))))))))⟩))))));have lc:1+c≤2:=c0 ZQx 1;refine⟨ZFF,kf (di (1+c)) ay (auP bX d ab) (λO bA=>bA ([]) rfl rfl YO8 c9 f2) Y2M (λe x rest e3 acc m z N cf=>?_) Y41⟩
      ·refine ZfI;subst xv;refine my (call rfl rfl ja λp eK ar qX f4=>⟨?_,cf _ _ (λO bA=>bA (ps++[p]) (by rw[cj,cj,aJ];rfl) ((dK (f:=gh) (l₁:=ps) (l₂:=[p])).symm) (λq aF=>YxY (c1 q) λaF=>Y0H▸ar) qX ZKO)⟩);have w:=congrArg l5 e3;replace w:=YhV;refine ZEC;exact au YG1 ZFF
      ·refine ZfI;subst xv;replace aJ:=bL YDH (bL fN aJ);have l2:(ps.map gh).length≤2:=by refine aj YF (aj aJ Ygz);exact lc
       refine λb ah=>⟨0,_,_,Yc,YSc,Gm ps,aS ⟨Yi5,rfl,?_⟩⟩
       have ff:aB no m ZcH:=Y11;have MW:=ja.dq ff rfl rfl;generalize ZcH=pq at ff MW ⊢
       cases ps with
       |nil=>exact absurd aJ (k5 c).symm
       |cons a ps=>cases ps with
        |nil=>exact h YcR pq ⟨YTD.1,au YTD.2 Yk,bJ (b:=0) YTD.3 Z0⟩ MW ZKP
        |cons a2 ps=>cases ps with
         |nil=>
          have ek:=YTD;have cO:=c1 a2 YGY;exact h (.Cx a a2) pq ⟨⟨ek.1,cO.1⟩,gR ek.2 cO.2,bJ ek.3 cO.3⟩ MW ZKP
         |cons _ _=>exact absurd l2 (by refine dS YF ?_;exact su (fp 3 _))
    ·rw[q];refine p2 (n:=1) rfl Yf (p2 (n:=2) rfl Yf (CP (n:=3) rfl (cZ (bQ (aw (cst (aw (call rfl rfl cw λa O rx c9 f2=>aw (call rfl rfl c9 λb bF MX ja cz=>aS ⟨rfl,h Y9w bF ⟨⟨rx.1,MX.1⟩,gR rx.2 MX.2,bJ rx.3 MX.3⟩ ja YkK⟩)))))))))
   ·rw[q];refine p2 (n:=1) rfl Yf (p2 (n:=2) rfl Yf (p2 (n:=3) rfl Yf (CP (n:=4) rfl Yt)));intro aqI;refine cZ (bQ (aw (cst (aw (call rfl rfl cw λa O rx c9 f2=>aw (eZ (aw (bc rfl (aw (cst (aS (tV (k:=YH8) (n:=3) K F c9 Y2 λc bF ao ja cz=>aS ⟨rfl,h (.rep a c) bF ⟨⟨au (h9 ao) Y2,rx.1⟩,au (Nat.mul_le_mul ZQx rx.2) (dH (acy _)),bJ (b:=0) rx.3 Z0⟩ ja YkK⟩))))))))))))
  ·rw[q];exact MV (k:=YH8) K F cw Y21 Y21 Y21 Y21 h
def mC(a:Nat)(m ab:ag):Y1:=∀x o,m x=YB→x≠a→ab x=YB
theorem mC.trans(x:mC a m m1)(y:mC a m1 aH):mC a m aH:=λb o e n=>y b o (x b o e n) n
theorem fld{cl:Calls}{s:Mine.Internal.S}{e:E}{ob:ct}(bo:YLE)(aD:YMN)(af:YDT)(aE:YDF)(ev:∀Q':Yj,alloc m ob Q'→Ya7)(h:∀b ab,Y5X→Y1y=some (tg,ob)→YgY):Yfe:=by
 refine zg (ev _ λb ah=>⟨tg,bc bo ⟨_,_,cY ah aD,af,aE,?_⟩⟩);have n:Y5X:=λq=>by replace ah:=aQ aD (bN q ah);exact cW ah
 exact h b _ n (YBi Yc) Yc λx o e q=>YBj (cY ah e)
theorem sd{cl:Calls}{s:Mine.Internal.S}(bo:YLE)(aD:YMN)(af:YDT)(aE:YDF)(h:∀b ab,Y5X→Y1y=some (tg,Y0R)→YgY):a6 cl (Yi YbW Y0x s) r m Qn Q:=ZOb
theorem MY{cl:Calls}{s:Mine.Internal.S}{c:Nat}(bo:YLE)(aD:YMN)(af:YDT)(aE:YDF)(h:∀b ab,Y5X→Y1y=some (tg,Y9 c [])→YgY):a6 cl (Yi YbW (.op (tl c) []) s) r m Qn Q:=ZOb
theorem vH{cl:Calls}{s:Mine.Internal.S}{e:E}{x:V}(bo:YLE)(aD:YMN)(af:YDT)(aE:YDF)(ev:∀Q':Yj,Q' x m→Ya7)(h:∀ab,ZDJ→ZUS):Yfe:=
 zg (ev _ (bc bo ⟨_,_,aD,af,aE,h _ Yc ZgP⟩))
theorem zS{f:Nat}{l:YH}(K:YN)(hf:Yhy=YE3)(hm:YuQ)(t:Nat)(h:∀a m,m a=some (t,Ybk)→Y9Q→Y7N→aU g k f Z1p m λr ab=>r=Y7∧YeW):ZCA:=
 agd K hf hm λa d aD hd n=>⟨t,h a _ Yc aD λx o e O=>(dE Zk7).trans ((aB.new (p:=no) hd) x o e rfl)⟩
theorem CQ(aD:Y9Q)(f:Y7N)(k:YMP):Y0G:=λx o e O=>k x o (f x o e rfl) Zk7
theorem MZ{f:Nat}{l:YH}{x:V}(K:YN)(hf:Yhy=YE3)(hm:YuQ)(az:ns.length=2)(ff:yW g.K br f ns 2 (Yi (.fd C 0 (v 0)) (v 1) YO)=true)(h:∀a ab,YAQ=some (0,ZD C [x])→YKh):aU g (k+2) C [x] mh Q:=by
 exact zS K hf hm 0 λa m ak av f1=>gJ ff K rfl (aa az (bV 2)) (ix az (vH (x:=x) rfl ak YW YEc YEP λab e k=>(⟨rfl,h a ab e (CQ av f1 k)⟩:YFi∧YeW)))
theorem auR{x:V}(K:YN)(F:YZ)(h:∀a ab,YAQ=some (0,ZD 236 [x])→YKh):aU g (k+2) 236 [x] mh Q:=MZ K rfl (et (i:=6) rfl) rfl ZT h
theorem auS{x:V}(K:YN)(F:YZ)(h:∀a ab,YAQ=some (0,ZD 301 [x])→YKh):aU g (k+2) 301 [x] mh Q:=MZ K rfl (et (i:=11) rfl) rfl ZT h
theorem auT{x:V}(K:YN)(F:YZ)(h:∀a ab,YAQ=some (0,ZD 405 [x])→YKh):aU g (k+2) 405 [x] mh Q:=MZ K rfl (et (i:=19) rfl) rfl ZT h
noncomputable abbrev pD:bu:=⟨[],id,[],Y9i,[],0⟩
theorem se{P:Y1}(h:i<0):P:=YCe
theorem aaQ:Rest pD []:=⟨⟨Znl,lC,Zj7,⟨lC,YIc⟩,YrP,Zj7,λi O O h=>Y08,λi h=>Y4p,YYt,YOA,ZEx⟩,rfl,YIc,λO O O h=>se h⟩
theorem auU(K:YN)(F:YZ)(h:∀A ab,kV ab A []→Y0G→Q YF6 ab):aU g (k+2) 198 [] mh Q:=by
 exact zS K rfl (et (i:=0) rfl) 1 λa m ak av f1=>gJ ZT K rfl Y2 (sd (tg:=9) rfl ak YW YEc λb1 O dn aJ ak dC=>MY (tg:=17) rfl ak YW YJ6 λe2 O fI aC mQ du=>sd (tg:=25) rfl mQ YW YJ8 λgg O qp c1 aP gs=>sd (tg:=33) rfl aP YW YOm λnd eK O qe da jl=>(⟨rfl,h ⟨a,b1,e2,gg,nd⟩ eK ⟨da,jl _ _ ZPW dn,jl _ _ ZPX fI,⟨[],jl _ _ c1 qp,rfl,rfl⟩,[],qe,rfl,rfl⟩ (CQ av f1 Ytd)⟩:YFi∧Q YA eK))
theorem auV(K:YN)(F:YZ)(h:∀A ab,hP ab A 0 id 0→Y0G→Q YA2 ab):aU g (k+2) 487 [] mh Q:=by
 exact zS K rfl (et (i:=24) rfl) 2 λa m ak av f1=>gJ ZT K rfl Y2 (sd (tg:=10) rfl ak YW YEc λb1 O dn aJ ak dC=>sd (tg:=18) rfl ak YW YJ6 λe2 O fI aC mQ du=>sd (tg:=26) rfl mQ YW YJ8 λgg bF O c1 aP gs=>(⟨rfl,h ⟨a,b1,e2,gg,Y8A⟩ bF ⟨aP,⟨[],ZPW,rfl,ZgQ⟩,ZPX,⟨[],c1,YW⟩,YYt,Znl⟩ (CQ av f1 (YOj gs))⟩:YFi∧Q YA bF))
theorem auW(K:YN)(F:YZ)(h:∀A ab,d3 ab A pD→Y0G→Q Y1M ab):aU g (k+4) 617 [] mh Q:=by
 refine zS K rfl (et (i:=31) rfl) 3 λa m ak av f1=>gJ ZT K rfl Y2 (zg (eZ (aS (auU (k:=k) K F λB m1 fg ff=>bc rfl ⟨_,_,ZOU,YW,YEc,?_⟩))));have dC:mC a m Ypw:=λx o e q=>YBj (ff x o e rfl);have fr:∀{m ab:ag}{o:ct},m a=some (3,o)→YMP→aB YTf m ab:=λe k x o q c=>k x o q λz=>by
  replace q:=ZBv;replace c:=ZL2;exact Y9T
 have ky:∀i,i≠3→∀t,YTh→Yir=false:=λi n t h=>ZHE;have fg:=fg.dq (aB.at (p:=YTf) (o':=Z0v) ZOU rfl) Ymh;have ak:=bw m1 a (3,ct.obj 617 [Y1Z]);show a6 Y5T U1 [Y05] Ypw _ _;generalize Ypw=aH at dC fg ak ⊢;refine zg (eZ (aS (auV (k:=k) K F λU bF c9 n4=>bc rfl ⟨_,_,ZVH,YW,YJ6,?_⟩)));have du:mC a aH Ypu:=λx o e q=>YBj (n4 x o e rfl);have fg:=fg.dq (fr ak du) Ymh;have c9:=c9.dq (aB.at (p:=YTf) (o':=Z0u) ZVH rfl) ZTX;have mQ:=bw bF a (3,ct.obj 617 YfE);show a6 Y5T U0 [Y05] Ypu _ _;generalize Ypu=eK at du fg c9 mQ ⊢;refine sd (tg:=11) rfl mQ YW YJ8 λb1 i0 dn aJ fG gZ=>sd (tg:=19) rfl fG YW YOm λe2 pA fI aC pd oO=>MY (tg:=27) rfl pd YW Ywe λgg rN qp c1 nA BQ=>MY (tg:=35) rfl nA YW Ywg λnd auX px qe lE sf=>sd (tg:=43) rfl lE YW Ywh λzl M0 w7 kZ qc vI=>?_;have DZ:=(((gZ.trans oO).trans BQ).trans sf).trans vI;have hL:=fr mQ DZ;exact(⟨rfl,h ⟨a,b1,e2,gg,nd,zl,B,U,Y8A⟩ M0 ⟨qc,fg.dq hL Ymh,c9.dq hL ZTX,⟨[],vI _ _ (sf _ _ (BQ _ _ (oO _ _ aJ dn) dn) dn) dn,YW⟩,⟨[],vI _ _ (sf _ _ (BQ _ _ aC fI) fI) fI,YW⟩,vI _ _ (sf _ _ c1 qp) qp,⟨[],vI _ _ qe px,YW,YOA⟩,YOA,kZ⟩ (CQ av f1 (YOj DZ))⟩:YFi∧Q YA M0)
abbrev zT:=YV×cE
def kl(p:cE):Ydx:=p.rec (λn=>[([],Y0r)]) (λo=>[([],Y9v)]) (λo a A=>([],Y78)::Z2h) λo a b A B=>([],Y4c)::(Z2h++B.map λz=>(1::z.1,z.2))
def zU(z:zT):V:=YD [YD (a4 z.1),bB z.2]
def xK(k:Nat)(z:zT):zT:=(k::z.1,z.2)
def CR(p:cE):Y1:=Yah≤100∧∀z∈YHB,ZfK
theorem auY(l:ZC)(kv:Y6i):pairs Y7u=l.zipIdx.map λz=>V.tup [YAT,kv z.1]:=by
 refine Ye8
 (refine ZBX;refine aa YF ?_)
 by_cases h:ZR9
 ·have aq:Y54=some ZU1:=YU1;refine ZCb;show some (V.tup [YJe,(l.map kv).getD i Y7])=some (V.tup [ZFP,kv ZU1]);refine aa (ho) (aa (gy) (aa aq YgQ));rfl
 ·refine ZCa;rfl
theorem auZ{cl:Calls}{e:E}{t:dY}{b s:Mine.Internal.S}(h:Zd r m λv ab=>v.eM False λl=>∃P:Y2j,Z6R∧Zm1∧∀v vs r m,Y7H→YH3∧j3 t It.o.weak v r Yrh):a6 cl (Y0A It [e] t b s) r m Qn Q:=h
theorem au0{cl:Calls}{elt:wG}{x y:V}{N:Ys}(h:elt YPH m Ysa):mV YA5 false r YjW.2 elt Z2R acc m N:=h
abbrev M1(g:G)(k:Nat)(p:cE):Y1:=∀{mh:ag}{Q:Yj},(∀b ab,Y1y=some (8,Y5 ((kl p).map zU))→YFn)→aU g k 96 [Zl] mh Q
abbrev au1(fD:Nat)(m1:ag)(p:cE)(ll:YKH)(d:Z5R)(r:bG)(m:ag)(bU:Y1):Y1:=(m fD=some (8,Y5 ((([],p)::d.flatMap Ysc).map zU)))→mC fD m1 m→∀(cT eY:Yp),r=ll cT eY→bU
abbrev au2(fD:Nat)(m1:ag)(p:cE)(ll:YKH)(d:Z5R)(r:bG)(m:ag):Y1:=∀bU:Y1,au1 fD m1 p ll d r m bU→bU
theorem GH(K:YN)(F:YZ){o:Nat}(kC:YKz)(aE:Y9U)(ar:YHB=([],p)::ps.zipIdx.flatMap Ysc)(nI:CR p)(kY:∀q∈ps,CR q→M1 g k q):M1 g (k+1) p:=λ{mh Q}h=>by
 have aP:YEY:=YFy;have au3:∀d z rest,ps.zipIdx=ZKT→z.1∈ps∧CR z.1∧(d.flatMap Ysc).length≤100:=by
  intro d z rest e;have hz:z∈ps.zipIdx:=Y1o;have o1:=nI.1
  (replace o1:=aQ g5 (bN ar o1);rw[e]at o1;replace o1:=k7 rg o1;rw[uf]at o1;replace o1:=k7 cj (bN cj o1);rw[bt]at o1)
  have o1:=ud o1;refine⟨et (pJ (N:=ps) (x:=z.1) (j:=z.2) hz),⟨(au (au Yk Y1X) o1:(kl z.1).length≤100),YOL⟩,au Yk o1⟩;have w:=nI.2 Yqf (aj ar (eI _ (Ap ⟨z,hz,kp ⟨y,bb,rfl⟩⟩)));exact ud w
 rw[ar]at h;generalize M3:Zl=jD;replace M3:=aQ kC M3;subst M3;refine Y02;intro gb gc gd;refine el (bQ (aw (bQ (aw (bQ (aS ⟨rfl,aw (bc rfl (aS ⟨rfl,aS λfD sa=>⟨8,?_⟩⟩))⟩))))));have f1:aB no mh (upd mh fD (8,Y5 Z9f)):=ZB7;have ak:=bw mh fD YuK;generalize upd mh fD YuK=m1 at f1 ak ⊢;revert m1;refine Y18;intro m1 f1 ak;have nb:∀{m:ag}{x:Nat}{o:Y1E},mh x=YB→x≠fD:=λe q=>by replace e:=aQ sa Y5W;exact Y4u
 refine auZ ZKe;show∃P:Y2j,P (pairs YWf) _ m1∧_;refine aa (auY ..) (k0 ps.zipIdx (λz=>V.tup [YAT,bB z.1]) (au2 fD m1 p λcT eY=>[YNB,YBK,cT,eY]) (λO bA=>bA ?_ YO4 _ _ rfl) Y2M Yrm YsF)
 ·(refine aj ak (aa Dt ZDE))
  show _=some (8,ct.list [V.tup [Y37,Zl]]);exact aa kC rfl
 ·refine bp λax=>ZdP;subst xy;obtain⟨hz,fZ,dl⟩:=au3 d z rest e;refine ax (cy (hO (mx (bc rfl ⟨⟨_,_,ah⟩,aw (tE (eZ (e5 rfl (kY z.1 hz fZ λe2 aH av f2=>⟨_,_,av,kf ZTN zU (λd acc m=>aH=m∧acc=d.map Zl8) Zn (λO O O w=>aV w.1 (⟨8,av⟩)) (λi3 y CK aC acc bF w N cf=>?_) λacc bF w=>?_⟩))))⟩))))
  ·obtain⟨rfl,rfl⟩:=w;have bb:y∈ZTN:=YSP;refine au0 (bQ (aw (bQ (aw (bQ (aw (bc rfl (aS ⟨qJ [z.2],aw (bc rfl (aS ⟨?_,qJ (z.2::y.1),aw (bc rfl (aS ⟨rfl,?_,cf _ _ ⟨rfl,(dK (f:=Zl8) (l₁:=i3) (l₂:=[y])).symm⟩⟩))⟩))⟩))))))))
   ·exact aX YF (aj YDH (au (dX (fZ.2 y bb)) Ypl))
   ·exact aj YF (au (au ZGo fZ.1) Ypl)
  ·obtain⟨rfl,rfl⟩:=w;have d7:=f2 _ _ ah rfl;refine λgg iQ=>⟨0,aS ⟨_,_,cY iQ d7,_,_,Yc,?_,?_⟩⟩
   ·exact aX YF (aT YF (aT g5 (au (gR (dX dl) fZ.1) Ypl)))
   refine f9 (Qr:=Q) (e8 _ _ (λO bA=>bA ?_ (λx o e n=>YBi (cY iQ ((λx o e n=>f2 _ _ (oM x o e n) rfl:mC fD m1 aH) x o e n))) _ _ rfl))
   (refine aj Y6J (aa rg (aa uf (aa Dt (aa Y1U (aV Oj (aa (dK (l₂:=Yxr _)) (aa kJ ?_))))))))
   rfl
 ·refine ZdP;subst xy;exact cZ (bc rfl (h fD m ah λx o e O=>oM x o YUa (nb (m:=m) e)))
theorem au4{k:Nat}(K:YN)(F:YZ)(nI:CR p):M1 g (k+YAY+1) p:=by
 induction p generalizing k with
 |v n=>exact GH (ps:=[]) (o:=n) (p:=Y0r) K F rfl Z0 rfl nI YIj
 |c o=>exact GH (ps:=[]) (p:=Y9v) K F rfl Z0 rfl nI YIj
 |u o a ai=>
  refine GH (ps:=[a]) (p:=Y78) K F rfl Y5H (congrArg (([],cE.u o a)::·) Y8L) nI Zjw
  (rw[Y0H]at xM;refine aa Y0H ?_)
  exact ai xM
 |b o a b eh eQ=>
  refine GH (ps:=Y1R) (p:=Y4c) K F rfl Y5t (congrArg (λl=>([],cE.b o a b)::((kl a).map (xK 0)++l)) Y8L) nI Zjw;intro mh Q h;rcases dz aF with aF | aF
  ·(rw[aF]at xM;rw[aF]at h;rw[aF])
   exact(eh (k:=k) xM h).le (dX (c0 YRQ k))
  ·(rw[Y0H]at xM;rw[Y0H]at h;rw[Y0H])
   exact(eQ (k:=k) xM h).le (dX (c0 YRR k))
def CS(p:cE):Nat:=p.rec (λn=>n) (λo=>o) (λo O O=>o) λo O O O O=>o
def p3(d:Ydx):Y3:=YwF ZlC
theorem au5(p:cE):∃r,Zl=YD (Y4 (CS p)::r)∧r.length≤2:=by
 cases p with
 |v n=>exact Zn8
 |c o=>exact Zn8
 |u o a=>exact⟨_,rfl,Y5H⟩
 |b o a b=>exact⟨_,rfl,Y5t⟩
theorem au6{d:Ydx}(h:∀z∈d,ZPb)(aE:ZKZ):tp YWT:=by
 have key:∀v∈YWT,v=YFA∨v=Y4 4:=λv aO=>by
  refine YM;obtain⟨z,hz,e⟩:=YU6;refine Yb;have w:=ri hz;have o:=h z w.1;have r:=w.2
  cases q:z.2 with
  |v n=>
   (rw[q]at o;rw[q]at e)
   rw[←e];exact(gG o).imp Zil Zil
  |c o=>rw[q]at r;exact nb r
  |u o a=>rw[q]at r;exact nb r
  |b o a b=>rw[q]at r;exact nb r
 refine⟨?_,Znk,YY Y8C⟩
 ·show Ytc≤18;refine Y2I;exact au YI4 aE
 ·rcases ZTK with e | e <;> refine YCa <;> rcases key b ah with bk | bk <;> exact congrArg _ bk <;> rfl
 ·rcases ZTK with e | e <;> exact Yit <;> rfl
 ·rcases key v aO with e | e <;> exact Yit <;> rfl
abbrev GI(p:cE):Y1:=hr (CR p) (∀z∈YHB,ZPb) Yxq ZJD
theorem M4(K:YN)(F:YZ)(B:GI p)(h:∀b us ab,Y1y=some (0,Z0m)→(∀v,Y9d↔v∈p3 YHB)→us.length≤18→YFn):aU g (k+5) 91 [Zl] mh Q:=by
 refine Y02;intro gb gc gd;refine cZ (d6 (tE (eZ (e5 rfl ((au4 (k:=k) K F B.1 (λb m1 ah f1=>?_)).le (dX (c0 B.4 k)))))));refine⟨_,_,ah,kf YHB zU (λd acc m=>m1=m∧acc=YWT) Zn (λO O O w=>aV w.1 (⟨8,ah⟩)) (λd z rest e acc m w N cf=>?_) Zhd⟩
 ·obtain⟨rfl,rfl⟩:=w;have cf:=λgC bk=>cf gC m1 Zna;have es:p3 (d++[z])=YWT++p3 [z]:=by unfold p3;exact aX YdO (dK)
  refine aax (xk (e5 rfl (zw (k:=k+3) K F (B.2 z (Y1o:z∈YHB)) ?_)))
  cases q:nk z.2 with
  |false=>exact cf _ (by refine ZBc;unfold p3;(refine ZOG);exact Y8L)
  |true=>
   refine YM;obtain⟨r,fB,hM⟩:=au5 z.2;refine ax (hD 0 (vs:=Y4 Z3G::r) (by refine fU fB ?_;rfl) (au (dX hM) Y2) rfl ⟨?_,cf _ (by refine ZBc;unfold p3;(refine ZOG);rfl)⟩);have l1:ZKZ:=au Y7a B.3;show Ytc≤1000000;exact aj YF (au (au YI4 l1) Y2)
 ·obtain⟨rfl,rfl⟩:=w;have d5:=au6 B.2 B.3;exact λe2 d7=>⟨0,_,_,Yc,d5,λus bZ hm O gg iQ=>⟨0,h gg us _ Yc hm (au (B8 bZ λa aD=>(hm a).mp aD) d5.1) (f1.trans ((aB.new d7).trans YKj))⟩⟩
theorem vJ(ak:((kl p).all λz=>gu z.2&&decide ZfK)=true)(av:Yxq)(aP:ZJD):GI p:=
 have w:=λz hz=>cL (ju ak z hz)
 ⟨⟨ZF8,λz hz=>of_decide_eq_true ZdS.2⟩,λz hz=>ZdS.1,av,aP⟩
theorem au7:∀q∈cB,(GI YG∧GI Yq)∧nk YG=false∧YLp∧∀v∈p3 (kl Yq),v∈p3 (kl YG):=by
 have sub:∀{a b:Y3},(∀v∈a,v=YFA)→YRk∈b→∀v∈a,v∈b:=λh ah v aO=>ZPs▸ah;have o2:∀{l:Y3},l=[YFA,YFA]→∀v∈l,v=YFA:=λe v aO=>by
  rw[e]at aO;exact YJ9 id bR
 refine lY ⟨⟨vJ rfl (Y2:2≤18) Y2,YI7⟩,rfl,rfl,sub (o2 rfl) b3⟩ ⟨Zne,rfl,rfl,Y8C⟩ ⟨Zne,rfl,rfl,ZbE⟩ ⟨⟨YI7,vJ rfl (Y2:1≤18) Y2⟩,rfl,rfl,ZbE⟩;have aO:v∈[V.str 4,YRk]:=aO;show v∈[YRk,V.str 4];exact YJ9 (λe=>eI _ (je e)) λh=>Y1T▸b3
theorem au8{l:Y3}{a:V}(aD:a.isStr=true)(h:∀v∈l,YEB):l.all Yxd=true:=sz λv aO=>by
 refine YM;obtain⟨n,e⟩:=V.kr ZPs;obtain⟨j,bk⟩:=V.kr aD;refine Yb;rw[e,bk];rfl
theorem au9(K:YN)(F:YZ)(aF:Y1t)(h:∀a ab,zD ab a q→YKh):aU g (k+7) 263 Z9e mh Q:=by
 refine YM;obtain⟨⟨pl,pr⟩,ava,ok,sub⟩:=au7 q aF;refine ax (zS K rfl (et (i:=10) rfl) 0 λa m ak av f1=>gJ ZT K rfl Y2 Yt);intro aCj;refine en (xk (e5 rfl (zw (k:=k+4) K F ok ?_)));rw[ava];show a6 YFu Uz [Y05,Y2x,YNG,Y9a,YNC,none,none,none,none,none,none] m _ _;refine Yt;intro avb;refine el (eZ (e5 rfl (M4 (k:=k) K F pl λfb us m1 l3 aaR aCk f2=>Yt)));intro XG;refine el (bQ (aw (bQ (aw (bQ (aw (cst (oS rfl rfl ⟨rfl,aS λb1 ip=>⟨0,aw (d6 (bc rfl ⟨Z0,λe2 d7=>⟨0,aS ⟨_,_,YTa,_,_,Yc,YJ7,λgg iQ=>Y4X⟩⟩⟩))⟩⟩))))))));have cz:aB no m1 Ypn:=(YvH Y5S).trans YKj;have aP:=bw Zc4 gg (0,ct.list YfG);show a6 YFu Uy [Y05,Y2x,YNG,Y9a,YNC,Y3x,YNA,none,none,none,none] Ypn _ _;generalize Ypn=aH at cz aP ⊢;revert aH;refine Y18;intro aH cz aP;have aaS:∀v∈us,YEB:=λv aO=>by
  rcases ee ((aaR v).mp aO)with⟨z,_,e⟩
  rw[←e];rfl
 refine forL (bc rfl ⟨_,_,aP,k0 [Yq] (λp=>YD [YQF,Zl,Zl]) (λO r m=>LP (λe9 mB kj ba=>[Y05,Y2x,YNG,Y9a,YNC,Y3x,YNA,e9,mB,kj,ba]) (aB no aH m) r) ⟨Yy,_,_,_,_,rfl⟩ (λO O O z=>⟨0,z.1 _ _ aP rfl⟩) (λd p rest e r bF z jq e8=>?_) λr bF z=>?_⟩)
 ·obtain⟨f4,e9,mB,kj,ba,rfl⟩:=z;have ep:p=Yq:=bR Y1o;subst ep;refine t3 (en (fo (aw (bc rfl (aw (bQ (aw (cst (aw (cst (aS ⟨rfl,Y7Q⟩)))))))))));show a6 YFu Ux [Y05,Y2x,YNG,Y9a,YNC,Y3x,YNA,Za3,Y9a,Y9a,ba] bF jq _;refine FR (tE (bQ (aw (eZ (e5 rfl (M4 (k:=k) K F pr λm2 CT eK qZ avc avd gL=>aw (eZ (e5 rfl (M4 (k:=k) K F pr λlj wk i0 zP Em ave vk=>aS ⟨_,_,vk _ _ qZ rfl,_,_,zP,au (gR avd ave) Y2,λiZ avf=>Y4X⟩)))))))));have pQ:aB no i0 (upd i0 iZ (0,Y5 YK3)):=aB.new avf;have nA:=bw i0 iZ Yu4;generalize upd i0 iZ Yu4=pA at pQ nA ⊢;have hL:=(gL.trans vk).trans pQ;have mem:∀v∈YK3,Y9d:=λv aO=>(aaR v).mpr (sub v (Yxa (avc v).mp (Em v).mp));refine⟨_,_,nA,?_⟩;generalize YK3=L at nA mem
  suffices key:∀fA,fA=L→∃P:Y1O,P fA [] pA∧jz P (ox iZ L) (λacc bF=>alloc bF Y4d λv ab=>a6 YFu Uw [Y05,Y2x,YNG,Y9a,YNC,Y3x,YNA,Za3,Y9a,Y9a,Ym] ab jq _) (mV ZQ false [none,Y3x] (e7 YFu Z9U).2 (bH YFu (v 0)).1)from key L rfl
  intro fA aaT;rw[←Ov L]at aaT;subst aaT;refine kf L id (λO acc m=>pA=m∧YSR) Zn (λO O O w=>aV w.1 (⟨0,nA⟩)) (λd x rest aC acc m w N cf=>?_) Zhd
  ·obtain⟨rfl,rfl⟩:=w;have aq:Yqp:=mem x YSP;refine Gl (fo (oS rfl rfl ⟨_,_,(hL _ _ (f4 _ _ (cz _ _ l3 rfl) rfl) rfl),au8 (aaS x aq) aaS,?_⟩));rw[(abO.mpr ⟨x,aq,iI x⟩:us.any (b8 · (id x))=true)];exact cf _ _ Zn
  ·obtain⟨rfl,rfl⟩:=w;exact λnN avg=>⟨0,en (fo (aw (bc rfl (aw (bQ (aS λO aaU=>⟨0,aS ⟨_,_,cY aaU Yc,_,_,Yc,Zf,e8 _ _ ⟨f4.trans (hL.trans ((aB.new avg).trans (aB.new aaU))),_,_,_,_,rfl⟩⟩⟩))))))⟩
 ·refine YM;obtain⟨f4,e9,mB,kj,ba,rfl⟩:=z;refine Yb;have gL:=YxB;have ak:=gL _ _ ak rfl;exact vH (x:=Y36) rfl ak YW YEc YEP λeK ak dC=>vH (x:=Y4r) rfl ak YW YJ6 YEP λi0 ak du=>vH (x:=Y1b) rfl ak YW YJ8 YEP λpA ak gs=>vH (x:=Y37) rfl ak YW YOm (λO q=>d6 (bc rfl ⟨Z0,rfl,q⟩)) λrN ak jl=>(⟨rfl,h a rN ak (CQ av (f1.trans gL) Ytd)⟩:YFi∧Q YA rN)
noncomputable abbrev CU (tr:Bool) (most:Nat):dm:=Z9M
def tW(i:Nat):V:=(cB[i]?).elim Y7 YZ4
theorem GJ{cl:Calls}{s:Mine.Internal.S}{e:E}{P:Yj}(bo:YLE)(aD:YMN)(af:YDT)(aE:YDF)(ev:∀Q':Yj,(∀x m1,P x m1→Yfl→Q' x m1)→Ya7)(h:∀x m1 ab,P x m1→Yfl→ZDJ→mC a m1 ab→Yff):Yfe:=
 zg (ev _ λx m1 p f=>bc bo ⟨_,_,f _ _ aD rfl,af,aE,h x m1 _ p f Yc ZgP⟩)
theorem aaV:tp YJ4∧(Y8J tW).Nodup:=by
 have e:YJ4=[32,28,11,16].map V.str:=rfl;rw[e];refine⟨⟨Y2,Znk,YY Y8C⟩,(qQ YO5).mpr YC⟩
 ·refine YM;obtain⟨x,O,e⟩:=ee aD;obtain⟨y,O,bk⟩:=ee ah;refine Yb;refine eT e (bN bk ?_);rfl
 ·obtain⟨x,aq,e⟩:=ee aD;refine bN e ?_;exact ju (rfl:([32,28,11,16].all λx=>strOk YcY)=true) x aq
 ·obtain⟨x,O,e⟩:=YU6;refine bN e ?_;rfl
theorem avh(K:YN)(F:YZ){h zV op:Nat}{hM:YL}(h0:mh zV=Yp1)(ak:∀i q,YGH→zD mh YlP q)(av:mh op=some YZe)(dp:∀R ab,n8 ab R h tr most 0 0→Y0G→Q YA3 ab):aU g (k+4) 358 [Y76,YcK,YQ8] mh Q:=by
 refine zS K rfl (et (i:=13) rfl) 5 λa m aD az f0=>gJ ZT K rfl Y2 ?_;have h0:=f0 _ _ h0 rfl;have av:=f0 _ _ av rfl;have ak:=λi q e=>f0 _ _ ZEf rfl;refine Yt;intro avb;refine en (fo (aw (mx (bc rfl ⟨⟨_,_,_,av⟩,aw (cst (aw (cst (aS ⟨_,_,_,av,rfl,aw (CN Y3p)⟩))))⟩))));show((Z9i (j2 · YJo))=true)∧cond (!(Z9j (b8 · YJo))) _ _;have go:∀b:Bool,(Z9i (j2 · Z28))=true∧(Z9j (b8 · Z28))=true:=λb=>by cases b <;> exact Zn
 refine⟨ZPV.1,mK (ZPV.2) ?_⟩;show a6 Y5T UE [Y05,Yoy,Za1,ZZx,none] m _ _;refine Yt;intro aCl;refine FR (tE (bc rfl ⟨_,_,h0,kf YjQ ZjC (λd acc m1=>m=m1∧acc=ZKc) Zn (λO O O w=>aV w.1 (⟨0,h0⟩)) (λd i rest e acc m1 w N cf=>?_) λacc m1 w=>?_⟩))
 ·obtain⟨rfl,rfl⟩:=w;have af:i<4:=YmH;have aF:cB[i]?=some ZJ5:=Y2q;refine my (kA rfl (ak i _ aF) rfl Zmn)
  ·have w:=Y7e;replace w:=YhV;exact ZED
  ·exact aL dK (congrArg (λv=>ZKc++[v]) (show V.str ZJ5.1=tW i by refine Ar aF ?_;rfl))
 obtain⟨rfl,rfl⟩:=w;refine λbn avi=>Y4X
 have f1:aB no m (upd m bn (0,Y5 YJ4)):=aB.new avi;have ip:=bw m bn Yu3;generalize upd m bn Yu3=m1 at f1 ip ⊢;show a6 Y5T UD YfN m1 _ _;refine Yt;intro asv;refine en (fo (aw (d6 (bc rfl ⟨_,_,ip,aaV.1,λus bZ hm=>aw (d6 (bc rfl ⟨_,_,ip,YEd,aS (aa ((((Dr bZ aaV.2).mpr hm).length_eq:us.length=4)) ?_)⟩))⟩))));show a6 Y5T UC YfN m1 _ _;have aD:=ZNu;have fr:∀{m ab:ag}{o:ct},m a=some (5,o)→YMP→aB YTg m ab:=λe k x o q c=>k x o q λz=>by
  replace q:=ZBv;replace c:=ZL2;exact Y9T
 refine vH (x:=Y76) rfl aD YW YEc YEP λaH aaW du=>?_;have g2:=fr aD du;refine fld (tg:=0) (ob:=YPj) rfl aaW YW YJ6 (λO q=>d6 (bc rfl ⟨_,_,g2.go (f1 _ _ h0 rfl),YEd,q⟩)) λM5 bF aCm avj aaX gs=>vH (x:=YQ8) rfl aaX YW YJ8 YEP λeK M6 jl=>?_;have uS:=fr aaX jl;refine GJ (P:=λx m1=>∃w,x=Y65∧m1 w=ZaD) rfl M6 YW YOm (λO q=>eZ (e5 rfl (auR (k:=k) K F Zko))) λx i0 pA hw gL M7 oO=>YM;obtain⟨w,rfl,hw⟩:=hw;refine Yb;have aaY:=gL.iO.trans (fr ZP4 oO);refine GJ (P:=λx m1=>∃w,x=Y65∧m1 w=ZaE) rfl M7 YW Ywe (λO q=>eZ (e5 rfl (auS (k:=k) K F Zko))) λx rN auX ar pQ aaZ sf=>YM;obtain⟨pl,rfl,ar⟩:=ar;refine Yb;have vC:=pQ.iO.trans (fr ZWy sf);refine sd (tg:=13) rfl aaZ YW Ywg λtU M0 M8 avk aa0 vI=>?_;have lB:=fr aaZ vI;refine vH (x:=YSf) rfl aa0 YW Ywh (λO q=>cst q) λaCn M9 Na=>?_;have GK:=fr aa0 Na;have Nb:=GK.go (lB.go (vC.go (aaY.go (uS.go avj))));have AJ:∀{ab:ag}{fs:Y3}(Q':Yj),YAQ=some (5,ZD 358 fs)→fs[1]?=some (Y0 M5)→ab M5=Yp1→(∀x m1,(∃b,x=Y0B∧m1 b=ZaC)→aB no ab m1→Q' x m1)→(bH Y5T Ybw).1 YfN ab Q':=λQ' aJ aC c1 q=>
  bQ (aw (bQ (aw (cst (aS λO jT=>⟨0,aw (d6 (kA rfl (cY jT aJ) aC ⟨_,_,cY jT c1,YEd,aS ⟨_,_,Yc,(Y2:4≤1000),λb1 ip=>⟨0,q _ _ ⟨b1,rfl,Yc⟩ ((aB.new jT).trans (aB.new ip))⟩⟩⟩))⟩)))))
 refine GJ rfl M9 YW (Y2:7≤100) (λQ' q=>AJ Q' M9 rfl Nb q) λx aCo aCp bo GL GN Nc=>YM;obtain⟨avl,rfl,aCq⟩:=bo;refine Yb;have CV:=GL.iO.trans (fr (GL _ _ M9 rfl) Nc);refine GJ rfl GN YW (Y2:8≤100) (λQ' q=>AJ Q' GN rfl Z3H q) λx aCr GO aO CW avm GP=>YM;obtain⟨avn,rfl,avo⟩:=aO;refine Yb;have GQ:=CW.iO.trans (fr Z3I GP);have AP:aB YTg m GO:=f1.iO.trans (((((((g2.trans (fr aaW gs)).trans uS).trans aaY).trans vC).trans lB).trans GK).trans (CV.trans GQ));have fin:aB no mh GO:=λx o e O=>by
  have n:x≠a:=λq=>by replace e:=aQ az Y5W;exact Y4u
  exact GP _ _ (CW _ _ (Nc _ _ (GL _ _ (Na _ _ (vI _ _ (sf _ _ (pQ _ _ (oO _ _ (gL _ _ (jl _ _ (gs _ _ (du _ _ (f1 _ _ (f0 _ _ e rfl) rfl) n) n) n) rfl) n) rfl) n) n) n) rfl) n) rfl) n
 exact(⟨rfl,dp ⟨a,M5,op,w,pl,tU,avl,avn,hM⟩ GO ⟨avm,GQ.go Z3H,λi q e=>AP.go ZEf,AP.go av,GQ.go (CV.go (GK.go (lB.go (vC.go ((fr ZP4 oO).go hw))))),GQ.go (CV.go (GK.go (lB.go ((fr ZWy sf).go ar)))),⟨[],GP _ _ (CW _ _ (Nc _ _ (GL _ _ (Na _ _ avk M8) rfl) M8) rfl) M8,YW⟩,(fr Z3I GP).go avo⟩ fin⟩:YFi∧Q YA GO)
theorem aa1:YAi→fV YAY Zl=true:=by
 induction p with
 |v n=>exact λh=>ZQE
 |c o=>exact ZhE
 |u o a ai=>exact λh=>r7.mpr λv aO=>YG8▸YFx
 |b o a b eh eQ=>exact λh=>r7.mpr λv aO=>YJ9 (λe=>e▸k2 YRQ (eh h.1)) λaO=>YG8▸k2 YRR (eQ h.2)
theorem vK{n:Nat}(h:YAi):eS [] n p:=lX ZKt h
theorem avp{o:Nat}{r:Y8c}{v:V}(h:v∈ZGY):v∈YhX∨v=ZUG:=by
 by_cases q:YPB
 ·replace h:=fU (ZU:YOp) h;exact Y61
 ·replace h:=bL YNm (fU (ZN:YJD) h);exact Yxc
theorem Nd{o:Nat}{r:Y8c}{v:V}(W:Y0a)(ar:Y3s)(ah:YAi)(e:YWj=Y14)(avq:fm r.1)(aA:Y4M)(aE:YoX≤2)(aR:∀c∈r.2,c<YHg)(h:v∈ZGZ):v∈YhX∨ZOM:=by
 have jD:=(r6 (t:=[]) W YbY Yq8).2;rw[e]at jD h;have mv:=(CE avq aA aE aR).2;exact(avp h).imp id λq=>aX q (bN (c4 jD mv) (aX (Mi ah) (aa1 ah)))
theorem avr:∀{N:Yd},Y0a→Y3s→YAi→∀v∈ZGZ,v∈Yr∨ZOM:=by
 induction p with
 |v n=>exact λO O h=>ZQE
 |c o=>exact λ{N}W ar ah v aO=>Nd (r:=YBe) W ar ah rfl W ar Z0 YIc aO
 |u o a ai=>
  intro N W ar ah v aO;refine dG ar YEQ;have w:=kg (p:=a) (t:=[]) W.1 Yq8;refine(Nd (r:=(YMo.1,[YMo.2])) W ar ah rfl (r6 W YbZ Yq8).1 bD Y5H (λO h=>Y1T▸w.2) aO).elim (λh=>(ai W bC ah v h).imp id λt=>k2 Y1I t) YJ
 |b o a b eh eQ=>
  intro N W ar ah v aO;refine pg ar YIf;have w:=kg (p:=a) (t:=[]) W.1 Zd8;have W1:=(r6 (t:=[]) W YbZ Zd8).1;have w2:=kg (p:=b) (t:=[]) w.1.1 Zd9;have lK:=(r6 (t:=[]) W1 Z0Y Zd9).1;refine(Nd (r:=(ZXW.1,[YMo.2,ZXW.2])) W ar ah rfl lK bD Y5t (λO h=>YBk (λe=>aj e (ew w.2 YqJ)) λh=>Y1T▸Y5m) aO).elim (λh=>(eQ W1 d4 Y2n v h).elim (λh=>(eh W bC Y2S v h).imp id λt=>k2 (kn YRQ) t) λt=>YJ (k2 (kn YRR) t)) YJ
theorem avs(W:Y0a):∀n i v,i<n→YJ1→fV (i+1) v=true:=by
 intro n
 induction n with
 |zero=>exact Ziv
 |succ n ai=>
  intro i v af aO;have aE:Y2t:=ZHn
  obtain⟨x,aq⟩:=CD aE;refine bN (c4 YNP aO) (r7.mpr λu bj=>(ee bj).elim Yrj);have ao:=YRm.2.2 c z.1;have cR:Ya9:=by rw[ho,dy (by rw[iE];exact lD ao aE)];rfl
  exact bN z.2 (k2 ao (ai c _ (ew ao (hp af)) cR))
theorem avt(W:Y0a)(t3:∀v∈Yr,ZON)(az:Y4h):q3 YBe:=by
 refine⟨W,λv aO=>k2 Y0J (t3 v aO),λg G i af O=>?_,YO8,az⟩;have aO:Y8I=some Yvi:=by rw[ho,dy (by rw[iE];exact af)];rfl
 refine⟨_,aO,?_⟩;by_cases q:3≤N.length
 ·exact k2 (GB q) (t3 _ ZNV)
 ·refine k2 (au af ?_) (avs W (i+1) i _ YWF aO);have Mc:∀n,n<3→n≤eV n:=λn h=>by
   rcases p1 h with h | h
   ·rcases p1 h with h | h
    ·exact aj (yh h) Z0
    ·rw[h];decide
   ·rw[h];decide
  exact Mc _ (Dl q)
noncomputable abbrev GR (t:Nat):Bool:=YtM
theorem aa2(n:YVI)(h:YTh):cl j t=false:=ZHE
theorem GS(h:And (i≠0) (i≠7)):∀t,YTh→Z4M:=λt q=>by show YtM=true;rw[aa2 h.1 q,aa2 h.2 q];rfl
theorem avu:∀t,YAk→Z4M:=λt h=>Y8P YdH λh=>Y8P YdH YdH
theorem xN(h:4≤i):∀t,YAk→cl i t=false:=λt q=>L7 q i h
abbrev LT(m:ag)(bX:Nat)(A:b9)(S:bu)(B:fu):Y1:=iG YH1 Yj9 (n7 pD S) (fv m B YIx []) (∀v∈ZGa,ZON)
theorem LT.no{A:b9}{S:bu}(L:Z5G)(F:Y6C):Z5F:=⟨Ydf F rfl rfl,L.2.no F,L.3,L.4.no F,L.5⟩
theorem LT.CX{A:b9}{S:bu}(L:Z5G)(F:Yfq)(P:YAw):Z5F:=⟨P,L.2.dq F YEU,L.3,L.4.dq F rfl rfl rfl rfl,L.5⟩
theorem avv{A:b9}{S:bu}(K:YN)(F:YZ)(L:Z5H){h:Nat}(l0:zQ p 7 h)(aP:h≤3)(az:YRZ)(g2:YTM)(g3:ZJ8)(uT:cI r 5=ZaP)(dp:∀ab bl a7,aB GR mh ab→Y0Y→Ydn→a7.N.length≤Z7W→Qn r ab):a6 Y6D Vw r mh Qn Q:=by
 have W:=Z57;have gl:=vK (n:=S.N.length) YHD;have avw:fV 8 ZOK=true:=by
  refine aX (Mi YHD) ?_;exact k2 (au l0.4 (au aP Y0J)) (aa1 YHD)
 have l1:YmS≤YmT:=c0 l0.3 YH6;refine en (fo (aw (jS g2 Y7D (e5 uT ((asm (k:=k+7) K F l0.2 L.2 L.3.2 az (au (h7 (au Yuh YjE) _) Y07:YRc) YHD λm1 CB qO f1 bx H1 iq dO=>?_).le l1)))));refine aw (eZ (oS g3 uT ?_));refine oh (((Mi YHD).symm:Zl=ZOK)) ?_;refine(aas (k:=k) K F (YY l0.2) (L.4.dq f1 rfl rfl rfl rfl) W (λv aO=>k2 Y0J (L.5 v aO):jG S.N) az gl avw λaH f2 c9 aaw=>?_).le l1;refine Y7Q;rw[iI];rw[←dO]at c9;refine dp aH CB qO ((f1.weak avu).trans (f2.weak (GS YC))) bx ⟨(Ydf f1 rfl rfl).dq f2 rfl rfl,H1.dq f2 YEU,L.3.trans iq,c9,Y8C⟩ (by refine ZCe;exact(kg W.1 gl).1.3);rw[dO]at aO;exact(avr W l0.2 YHD v aO).elim (L.5 v) λt=>k2 (au l0.4 aP) t
abbrev avx(mh:ag)(bX:Nat)(A:b9)(B:fu)(ll:Y5O)(d:Y2D)(r:bG)(m:ag)(bU:Y1):Y1:=∀(bl:b9)(a7:bu)(e0:Yp),Y0Y→LT m bX bl a7 B→a7.N.length≤YaH→aB GR mh m→r=ll e0→bU
abbrev avy(mh:ag)(bX:Nat)(A:b9)(B:fu)(ll:Y5O)(d:Y2D)(r:bG)(m:ag):Y1:=∀bU:Y1,avx mh bX A B ll d r m bU→bU
theorem aa3{A:b9}(K:YN)(F:YZ)(L:Z5I){e4:Nat}(aE:mh e4=some (7,Y5 YWf))(ar:∀p∈ps,ZfZ)(hd:YJM≤10){x0:Yp}(h:∀ab bl a7 e0,Y0Y→Ydn→ZAf→a6 Y6D FP ZAF ab Qn Q):a6 Y6D KV YfV mh Qn Q:=by
 refine forL (bc rfl ⟨_,_,aE,k0 ps bB (avy mh bX A B λe0=>ZAF) (λO bA=>bA A pD none rfl L YW Yy rfl) (λd r m z=>?_) ZiD Y3k⟩)
 ·refine Yqy;subst ni;exact⟨7,f.go aE⟩
 ·refine ZHQ;subst ni;refine Yb;have w:YaH+ZV≤10:=au (fH e (bW dK (aL ui (fH mF (aL yb ZGN))))) hd;exact t1 (avv K F fA (ar p Y1o) ZGl (au (au ZQT w) Y2) ZD1 rfl rfl λO gm cK f2 kD lr fI=>e8 _ _ (λO bA=>bA gm cK _ Y9M lr (bW dK (aL ui (fH acE (aL Ot (au fI ZQT))))) Y4z rfl))
 ·refine ZHQ;subst ni;exact ax (h m bl a7 e0 bx fA (au ey hd))
theorem avz{A:b9}(K:YN)(F:YZ)(L:Z5I){x0:Yp}(h:∀ab bl a7 fl e0,Y0Y→Ydn→ZAf→a6 Y6D FP YRy ab Qn Q):a6 Y6D VC [x0,Y0T,Y0v,Z2,none,none,none,none,none,none,none,none] mh Qn Q:=by
 have up:∀{m1:ag}{p:cE}{n h:Nat},zQ p n h→n≤7→h≤3→ZfZ:=λg a b=>⟨g.1,g.2,au g.3 a,au g.4 b⟩
 refine Yt;intro aud;refine el (bQ (aw (eZ (aw (bc rfl (aw (cst (aS (aaO (k:=Y6U) K F 1 L.1 λek m1 g1 lU f1=>aS λe4 J7=>⟨7,?_⟩)))))))));have f2:aB no m1 Ypx:=aB.new J7;have av:=bw m1 e4 (7,ct.list [bB ek]);show a6 Y6D VB YfV Ypx _ _;generalize Ypx=aH at f2 av ⊢;have lr:=(L.CX f1 lU).no f2;refine Yt;intro asH;refine en (fo (aw (eZ (aw (bc rfl (aw (cst (aS (tV (k:=YMC) (n:=2) K F lr.1 Y2 λw bF hw P3 cz=>YhC)))))))));have sg:=lr.CX cz P3;have aP:=cz.go av;by_cases q:w=1
 ·refine OV q ?_;show a6 Y6D Vv YfV bF (λr m=>a6 _ KV r m Qn Q) Q;refine Yt;intro Xj;refine hO (mx (bc rfl ⟨⟨_,_,aP⟩,aw (eZ (aw (bc rfl (aw (cst (aS (aaO (k:=YDX) K F 2 sg.1 λcO eK g2 avA f4=>aS ⟨_,_,ZOA,YwY,?_⟩)))))))⟩));have gL:aB (cl 7) eK ZcE:=aB.at ZOA rfl;have CY:=sg.CX f4 avA;refine aa3 K F (⟨CY.1.dq gL rfl rfl,CY.2.dq gL YEU,CY.3,CY.4.dq gL rfl rfl rfl rfl,CY.5⟩:LT ZcE bX A pD B) (ps:=[ek,cO]) (bw eK e4 (7,ct.list Z9o)) (λp ar=>(dz ar).elim (λe=>e▸up (m1:=m1) g1 Y0J Y0J) λar=>YSr▸up (m1:=m1) g2 Y0J Y0J) (au (gR g1.3 (gR g2.3 ZGk)) Y0J) Zhb
 ·show ZSV;refine aX (Ylk:ZG2=false) ?_;exact aa3 K F sg (ps:=[ek]) aP (λO ar=>YSr▸up (m1:=m1) g1 Y2 Y2) (au (gR g1.3 ZGk) Y2) Zhb
abbrev nx(m:ag)(bX:Nat)(A:b9)(R:eC)(tr:Bool)(most cQ u c jW:Nat)(s:cv)(S:bu)(pl:Nat)(B:fu):Y1:=iG YH1 (gN m A R tr most cQ u c s.2 S) (S.N=s.1) (kk m B tr most s jW) (m pl=YND)
abbrev avB(mh:ag)(d:YRC)(acc:Y3)(m:ag)(bU:Y1):Y1:=Y7N→∀(as:YV),as.length=d.length→acc=YSZ→(∀(i a:Nat)(q:hQ),as[i]?=Y0l→d[i]?=YpM→zD m a q)→bU
abbrev avC(mh:ag)(d:YRC)(acc:Y3)(m:ag):Y1:=∀bU:Y1,avB mh d acc m bU→bU
theorem avD(K:YN)(F:YZ)(h:∀b(hM:YL)ab,Y1y=Yp1→(∀i q,YGH→zD ab YlP q)→YFn):
  (bH ZCF Z0N).1 r mh Q:=by
 refine tF (CN (kf cB YZ4 (avC mh) (λO bA=>bA Yy ([]) rfl rfl (λO O O e=>Yki)) Y2M ZiE Y41))
 ·refine bp λax=>ZfG;subst Nf;refine Yb;have aF:Y1t:=Y1o;have side:∀{m:ag}{Q':Yj}(j:Nat)(p:V),Z9p[j]?=YXP→(∀aH,aB no m aH→Q' p aH)→(bH ZCF (.op fi [Ybx,bY Yad])).1 ((inR 1 [] r).set 0 Y2x) m Q':=λj p fe dp=>
   bQ (aw (bQ (aw (eZ (aS (My (k:=k+6) K F λO aH hs f2=>e5 rfl ⟨_,_,_,hs,rfl,_,Ye4,aw (cst (aS ⟨Y4Z,p,fe,dp aH f2⟩))⟩))))))
  refine my (eZ (aw (bc rfl (aw (side 0 _ rfl λaH f2=>aw (side 1 _ rfl λbF cz=>aw (bQ (aS ⟨rfl,aS (au9 (k:=k) K F aF λa eK cG f4=>⟨?_,cf _ _ (λO bA=>bA ((Yx8 cz).trans f4) (as++[a]) ?_ ((dK (f:=V.ref) (l₁:=as) (l₂:=[a])).symm) (λi b x ig ex=>?_))⟩)⟩))))))))
  ·refine ZEC;have w:=Y7e;replace w:=YSm;exact YSa
  ·rw[cj,cj,aJ];rfl
  ·by_cases af:ZR7
   ·replace ig:=aQ ZY1 ig;replace ex:=aQ (qb (aV aJ af)) ex;exact YxB _ _ (c1 i b x ig ex) rfl
   ·have li:i=as.length:=mG (hp (by have w:=eo ig;replace w:=YSm;exact w)) YlZ;replace ig:=aQ (ug) (bN li ig);replace ex:=aQ (ug) (bN aJ (bN li ex));exact aQ Yix (bL (cu ex) cG)
 ·refine ZfG;subst Nf;have fa:as.map V.ref=Y8J λi=>V.ref Yh6:=by
   refine Hi (aL YF (aj YF (aL fN aJ))) YOG;replace ak:=bL YF ak;refine aL YBW (aj YBW (sC YK8 (bW (ho) (sC ZLl ?_))));rfl
  refine Zhk
  have ff:aB no m (upd m b (0,Y5 YSZ)):=Y11;have d7:=bw m b Yu6;generalize upd m b Yu6=aH at ff d7 ⊢;rw[fa]at d7;refine h b (λi=>Yh6) aH d7 (λi q af=>?_) (f.trans ff);have aD:as[i]?=some Yh6:=by rw[ho,dy (aa aJ Y4L:ZR7)];rfl
  exact ff _ _ (c1 i _ q aD af) rfl
variable{fl:Yp}{e0:Yp}
theorem avE{A:b9}{S:bu}(K:YN)(F:YZ)(L:Z5H)(az:Yeg){x0:Yp}(h:∀ab R tr most s pl fC e9,Y3f→nx ab bX A R tr most 0 0 100 0 s S pl B→a6 Y6D KU ZAC ab Qn Q):a6 Y6D FP YRy mh Qn Q:=by
 refine Yt;intro aue;refine KW (aw (bQ (aw (eZ (aw (bc rfl (aw (cst (aS (tV (k:=YMC) (n:=2) K F L.1 Y2 λw m1 hw lU f1=>aw (cst (aS ⟨rfl,aw (bQ (aw (cst (aw (eZ (aw (bc rfl (aw (cst (aS (tV (k:=YMC) (n:=5) K F lU Y2 λw2 aH LU AZ f2=>aS (CO Y3p))))))))))))⟩))))))))))));have lr:=(L.CX f1 lU).CX f2 AZ;obtain⟨pp,ah,nr⟩:=lr.4.1;generalize ZG2=tr;revert tr;refine Y18;intro tr;refine bc rfl (cst ⟨_,_,_,ah,rfl,(Y2:3≤1000000),bc rfl (cst ⟨_,_,_,Yc,rfl,(Y2:4≤1000000),?_⟩)⟩);show a6 Y6D VA YRy YXh Qn Q;have cz:aB jF aH YXh:=aB.trans (aB.at ah rfl) (aB.at Yc rfl);have aP:=bw Yps B.b (4,ct.dict 1 Yko);have ne:∀{x o},aH x=YB→x≠B.b→upd Yps B.b YuH x=YB:=λe n=>YBi (YBi e);have sep:∀{x:Nat}{t:Nat}{o:ct},aH x=Y59→t≠4→x≠B.b:=λaD n e=>YMX;have ja:fv YXh B YIx ZSQ:=⟨⟨pp,aP,ne nr (sep nr Yf)⟩,ne lr.4.2 (sep lr.4.2 Yf),ne lr.4.3 (sep lr.4.3 Yf)⟩
 have xg:=lr.2.dq cz YEU;have P3:=lr.1.dq cz rfl rfl;generalize YXh=bF at aP ja xg P3 ⊢;revert bF;refine Y18;intro bF aP ja xg P3;have h:=λab R s pl fC e9=>h ab R tr YQV s pl fC e9 (c0 (hp LU) 6:YQV≤10);generalize YQV=most at aP ja h;have ord:∀{Q':Yj},Q' YJo bF→(bH Y6D Z0J).1 YRy bF Q':=λ{Q'}q=>by
  refine xC (fo (aw (bc rfl (aw (cst (aS ⟨_,_,_,aP,rfl,_,Yyn,?_⟩))))))
  cases tr <;> exact cst q
 refine Yt;intro WL;refine el (bQ (aw (cst (aw (ord (aw (cst (aw (kH rfl aP Yym (aS ⟨Yd6,rfl,YaK,⟨(qQ (kv:=V.str) YO5 (l:=[20,15])).mpr YC,ZiN⟩,λNg avF=>Y4X⟩))))))))));have f4:aB no bF ZcC:=aB.new avF;have da:=bw bF Ng (0,ct.dict 1 Yd6);generalize ZcC=eK at f4 da ⊢;refine FR (avD (k:=YH6) K F λaat hM i0 fG Jo gL=>Yt);intro asw;refine el (eZ (aw (eZ (F3 rfl rfl rfl (avh (k:=YDX) K F fG Jo (gL _ _ da rfl) λR pA avG vk=>aS (auT (k:=YH7) K F λpl rN nA pQ=>?_))))));have hL:=(f4.trans gL).trans ZdG;have zW:Y2k:=Y07;exact h rN R YIx pl _ _ ⟨P3.dq hL rfl rfl,⟨xg.no hL,⟨L.3.2,L.3.4 rfl,YO8,L.3.5 [] aaQ.4⟩,avG.dq pQ rfl rfl rfl,zW,au Yuh (au (c0 az _) Y2)⟩,rfl,⟨ja.no hL,avt Z57 L.5 zW,YW⟩,nA⟩
theorem aa4(l l':YV):((a4 l).zip Yfb).all YZ3=true:=sz λp ar=>by
 have w:=List.of_mem_zip (a:=p.1) (b:=p.2) ar;refine YM;obtain⟨i,O,e⟩:=jm w.1;obtain⟨j,O,bk⟩:=jm w.2;refine Yb;rw[e,bk];rfl
theorem gN.dq{A:b9}{S:bu}{R:eC}{u c:Nat}{p:Z9}{P:cn}(Z:ZP8)(F:YFo)(ar:Zm9)(h0:YWP)(fG:ZWd)(L1:ZWc):ZP6:=⟨Z.1.dq F ar,Z.2,Z.3.dq F h0 fG L1,Z.4,Z.5⟩
variable{jW:Nat}
theorem avH{A:b9}{S:bu}{R:eC}{u c:Nat}{s:cv}{cl:Calls}(K:YN)(F:YZ)(L:Ynd)(oH:cl=Y5T){e:E}(av:YTM)(he:ZlN)(h:∀b ab,Y1y=Yp2→YFn):
  (bH cl Z0P).1 r mh Q:=by
 subst oH;have fB:inR 1 [2] r=[none,Y0v]:=by
  show[none,Yyh]=_;exact gS (av:Yyh=Y0v) rfl
 have zW:=L.2.4;refine F4 (d6 (he _ (aa fB (⟨Yh9,kf (di S.N.length) ay (λd acc m=>YHO∧acc=a4 ZKa) Zn Y2M ZiB Y41⟩))))
 ·obtain⟨rfl,rfl⟩:=z;have af:Y2J:=YmH;refine my (jS rfl YR2 (e5 rfl (WB (k:=k) K F YR2 Y7D.3 Yh9 af Zmn)))
  ·refine Ygx;have w:=Y7e;replace w:=YhV;exact au YG1 Yh9
  ·exact bW dK ((dK (f:=ay) (l₁:=ZKa) (l₂:=[Za])).symm)
 ·obtain⟨rfl,rfl⟩:=z;exact YYm
theorem aa5{A:b9}{S:bu}{R:eC}{u c:Nat}{s:cv}{cl:Calls}(K:YN)(F:YZ)(L:Ynd)(oH:cl=Y5T)(CZ:ZSL){e:E}{Q:Ys}(av:YTM)(aP:ZJ8)(he:ZlN)(h:∀a b ab,YAQ=Yp2→Y1y=Yp2→Y0G→Q [YKR,V.ref b] ab):(e7 cl [Z0P,Ybv]).1 r mh Q:=by
 refine aw (avH K F L oH av he λa m1 aD f1=>aw (eZ (e5 aP ?_)));refine aa oH ?_;refine Gw (k:=k+1) K F YKC.1 YKC.2 YKC.5 (L.4.1.no f1) YKC.4 (au L.4.3 CZ) λb aH ah O f2=>aS (h a b aH (f2 _ _ aD rfl) ?_ Y7k);have w:=X3 L.2.2.r3
 (rw[L.3]at w;refine aa L.3 ?_)
 refine aa w ?_;exact ah
theorem avI{A:b9}{S:bu}{R:eC}{u c:Nat}{s:cv}(K:YN)(F:YZ)(L:Ynd)(hm:Y3f)(af:i<2)(bj:Ypg≤1000)(ao:YiD≤799000)(ah:YmI≤800000){x0 fC e9 ba:Yp}(h:∀ab bl a7 s' kh ba,Y0Y→nx ab bX bl R tr most kh Ypg YiD YmI s' a7 pl B→Qn ZAD ab):a6 YAP Vz ZAD mh Qn Q:=by
 refine Yt;intro aCs;refine el (eZ (aw (bc rfl (aw (bQ (aw (cst (aw (bc rfl (aS (MT (aS (oh (congrArg V.int (Int.ofNat_sub YUw).symm:V.int ((2:Int) - Y3l)=ay YJw) ((auQ (k:=k) K F YJw L.1 λp m1 ar lU f1=>?_).le (au (h7 (c0 (YeB:YJw≤2) k) 2) (c0 (Y2:4≤40) k))))))))))))))));have aa6:MU YJw≤16∧tB YJw≤6:=by
  rcases p1 af with q | q
  ·exact aa YYD ZnJ
  ·exact aa q ZnJ
 have zX:=au Y7V aa6.1;have pd:=au ar.3 aa6.2;have Nh:kk m1 B tr most s jW:=Zmp
 have wM:=ZNz;show a6 YAP Vy ZAE m1 Qn Q;refine Yt;intro aCt;refine en (fo (aw (jS rfl wM (e5 rfl ((atk (k:=k) K F Y8u hm Z55 (au ZIk bj) (au ZIi ao) wM λaH gm cK q1 f2 bx c9 h5=>?_).le (au (c0 pd Y7r) (cx _ 8)))))))
 (rw[Yab]at c9;rw[Yab]at h5;refine aa Yab ?_)
 have aaA:kk aH B tr most s jW:=⟨Nh.1.dq f2 rfl rfl rfl rfl,Nh.2,Nh.3⟩
 refine aw (eZ (oS rfl rfl ((auK (k:=k) K F hm Y8u aaA (au ZIg ah) λbF cz Ni=>aS ⟨rfl,ZYr⟩).le (au (c0 pd Y6U) (cx _ 16)))));show a6 YAP Vx ZAE bF Qn Q;have ja:=(c9.dq cz YEU rfl rfl rfl).up ZIk ZIi;have Ni:=Ni.up ZIg;have sg:nx bF bX gm R tr most q1 Ypg YiD YmI YLY.1 cK pl B:=⟨(lU.dq f2 rfl rfl).dq cz rfl rfl,ja,h5,Ni,cz.go (f2.go wM)⟩
 refine Yt;intro aCu;refine en (fo (aa5 (k:=k+38) K F sg rfl (au ah Y2) ZHf rfl (λO q=>jS ZHf ja.1.1 (aS (Ll (k:=k+38) K F ja.1.1 ja.1.2 (au ja.4 Y2) q))) ZhP));show cond (!j0 ZPf ZPf) _ _;exact mK Z3b (h eK gm cK _ q1 _ bx ⟨sg.1.dq f4 rfl rfl,sg.2.vt f4,sg.3,sg.4.no f4,f4 _ _ sg.5 rfl⟩)
theorem aa7{cl:Calls}{a b:E}(h:YOd r m λx ab=>x.Ay False λx=>cond x Yvc (Q Y1B ab)):ZGE.1 r m Q:=h
abbrev avJ(m:ag)(r:bG)(bU:Y1):Y1:=∀(bX:_)(A:_)(R:_)(tr:_)(most:_)(cQ:_)(u:_)(c:_)(jW:_)(s:_)(S:_)(pl:_)(B:_)(x0:_)(fl:_)(e0:_)(fC:_)(e9:_)(kj:_)(ba:_),Ync→ZSL→r=[x0,Y0T,Y0v,Z2,fl,e0,fC,e9,Y3L,kj,ba,ZaM]→bU
abbrev C1(m:ag)(r:bG):Y1:=∀bU:Y1,avJ m r bU→bU
theorem nx.no{A:b9}{S:bu}{R:eC}{u c:Nat}{s:cv}(L:Ync)(f:Y6C):nx ab bX A R tr most cQ u c jW s S pl B:=⟨Ydf f rfl rfl,L.2.vt f,L.3,L.4.no f,f _ _ L.5 rfl⟩
theorem nx.size{A:b9}{S:bu}{R:eC}{u c:Nat}{s:cv}{Q':Yj}(K:YN)(F:YZ)(L:Ync)(av:YTM)(h:Q' Y7X m):(bH YAP YPl).1 r m Q':=jS av YR2 (aS (Ll (k:=k+38) K F YR2 Y7D.2 (au L.2.4 Y2) h))
theorem avK(K:YN)(F:YZ)(E:C1 mh r)(dp:∀ab,Z6r):a6 YAP FO r mh Qn Q:=by
 refine bp λax=>E _ λbX A R tr most cQ u c jW s S pl B x0 fl e0 fC e9 kj ba L CZ avL=>?_;subst avL;refine YSe;intro aCv;refine cZ (aa7 (bQ (aw (L.size K F rfl YhB))));rw[iI];refine bQ (aa5 (k:=k+38) K F L rfl CZ rfl rfl YEP ZhP);show Q (YK (j0 Yl4 Yl4)) eK;refine aX Z3b ?_;exact dp eK
abbrev avM(bX h:Nat)(R:eC)(tr:Bool)(most:Nat)(pl:Nat)(B:fu)(n:Nat)(x0 Nj fl e0 fC e9:Yp)(r:bG)(m:ag)(bU:Y1):Y1:=∀(bl:b9)(a7:bu)(s':cv)(kh:Nat)(kj ba:Yp),bl.h=h→nx m bX bl R tr most kh (16*n) (100+YFD*n) (YCE*n) s' a7 pl B→r=[x0,Y0T,Yoy,Nj,fl,e0,fC,e9,Y3L,kj,ba,none]→bU
abbrev avN(bX h:Nat)(R:eC)(tr:Bool)(most:Nat)(pl:Nat)(B:fu)(n:Nat)(x0 Nj fl e0 fC e9:Yp)(r:bG)(m:ag):Y1:=∀bU:Y1,avM bX h R tr most pl B n x0 Nj fl e0 fC e9 r m bU→bU
theorem avO{A:b9}{S:bu}{R:eC}{s:cv}(K:YN)(F:YZ)(L:nx mh bX A R tr most cQ 0 100 0 s S pl B)(hm:Y3f){x0 fC e9:Yp}(cf:Zlu):a6 YAP KU ZAC mh Qn Q:=by
 refine forR (d6 (bQ (aw (cst (aw (eZ (aw (bc rfl (aw (cst (aS (tV (k:=k+39) (n:=2) K F L.1 Y2 λw m1 hw lU f1=>ZC2))))))))))));have lw:1+w≤2:=c0 (hp hw) 1;refine⟨au lw Y0J,k0 (di (1+w)) ay (λd=>avN bX A.h R tr most pl B d.length x0 Z2 fl e0 fC e9) (λO bA=>bA A S s cQ _ _ rfl ((⟨lU,Z55,L.3,Zmp,ZNz⟩:nx m1 bX A R tr most cQ 0 100 0 s S pl B)) rfl) Y2M (λd i rest e r m z jq e8=>?_) Y3k⟩
 ·refine ZHV;subst xj;refine Yb;have wl:=Y7e;rw[fN,cj,g5]at wl;have ld:ZKY:=NX (au (au (dX Yk) (dH wl.symm)) lw);refine t1 ?_;refine aV bx ?_;refine avI K F fA hm (ew YmH lw:i<2) (au (h7 (iu 16 ld) 16) Y2) (au (h7 (c0 (iu YFD ld) 100) YFD) Y2) (au (h7 (iu YCE ld) YCE) Y2) λaH gm cK s2 q1 ba kD lr=>e8 _ _ (λO bA=>bA gm cK s2 q1 _ _ Y9M ?_ (by exact ZD1));rw[cj,sx];exact lr
 ·refine ZHV;subst xj;refine Yb;rw[←bx];refine Yt;intro aCw;exact el (fA.size K F rfl (f9 (cf _ _ (λO bA=>bA _ _ _ _ _ _ _ _ _ _ _ _ _ _ _ _ _ _ _ _ fA (au (iu YCE (by refine aj fN ?_;exact lw)) Y0J) rfl))))
theorem ints_of(h:∀w∈ws,w.isInt=true):∃l:Y8a,ws=YVb:=by
 induction ws with
 |nil=>exact YZG
 |cons w ws ai=>
  obtain⟨i,e⟩:=V.jM (h w b3);obtain⟨l,aC⟩:=ai λw hw=>h w (eI _ hw);exact⟨i::l,by rw[e,aC];rfl⟩
theorem avP{cl:Calls}{i:Int}(h:YeU):Ta.o.ij cl [Y3T] m Q:=h
variable{sc:Nat}
theorem avQ(K:YN)(F:YZ)(hs:ZUw)(af:∀v∈vs,YEA)(aE:ZdM)(cf:Zlu):a6 YAP FQ [ZZz,none,none,none,none,none,none,none,none,none,none,none] mh Qn Q:=by
 refine Yt;intro aCx;refine(el (bQ (aw (cst (aw (tE (d6 (bc rfl ⟨_,_,hs,Y7W,λws lw tX i9 xD=>YOO⟩))))))));have gY:=au lw aE;obtain⟨l,e⟩:=ints_of λw hw=>af w (tX w hw);subst e;replace gY:=aQ YF gY;have f1:aB no mh (upd mh i9 (0,Y5 YVb)):=aB.new xD;have ak:=bw mh i9 Yu7;generalize upd mh i9 Yu7=m1 at f1 ak ⊢;refine kf l V.int (λd acc m=>m1=m∧acc=d.map ZjB) Zn (λO O O z=>aV z.1 (⟨0,ak⟩)) ZiB Y41
 ·obtain⟨rfl,rfl⟩:=z;exact my (bQ (aw (d6 (bc rfl (avP (aw (cst (aS ⟨YC,aj YF (au (au Y7a gY) Y2),cf _ _ ⟨rfl,(dK (f:=λi=>V.int Yld) (l₁:=d) (l₂:=[i])).symm⟩⟩))))))))
 obtain⟨rfl,rfl⟩:=z;refine λcd aa8=>⟨14,aw (cst (aw (cst (aS ⟨ZWm,rfl,YaK,⟨(qQ (kv:=V.str) YO5 (l:=[7,9])).mpr YC,ZiN⟩,λbX avR=>⟨6,?_⟩⟩))))⟩
 have P:jb Ypq bX:=⟨cd,0,_,Yc,cY avR Yc,sz λO aO=>Y9l λO z=>ZCS,aj YF ZFB⟩
 show a6 YAP VD [ZZz,Y0T,none,none,none,none,none,none,none,none,none,none] Ypq Qn Q;generalize Ypq=aH at P ⊢;revert aH;refine Y18;intro aH P;refine Yt;intro XG;refine KW (aw (eZ (aS (auW (k:=k+36) K F λA bF H cz=>aw (bQ (aw (cst (aw (bQ (aS λvL dJ=>⟨12,aw (cst (aw (bQ (aS λvM eW=>⟨20,aw (cst (aw (bQ (aS λvN ar=>⟨0,aS ⟨gO ⟨0,vL,vM⟩ vN [],rfl,(Y2:3≤15),⟨(qQ (kv:=V.str) YO5 (l:=[29,23,22])).mpr YC,λe he=>YJB Yrp λhe=>YJB ZiT Zio⟩,λxO GU=>⟨4,Y3p⟩⟩⟩))))⟩))))⟩))))))))));have f4:aB no bF Ypm:=((aB.new dJ).trans (aB.new eW)).trans (YvG (aB.new GU));have L:LT Ypm bX A pD Zng:=⟨P.dq ZKO rfl rfl,H.no f4,Yy aaQ.1,⟨⟨vN,Yc,cY GU Yc⟩,cY GU (cY ar (cY eW Yc)),cY GU (cY ar Yc)⟩,Zgi⟩
 generalize Ypm=eK at L ⊢;exact avz (k:=YH7) K F L λi0 iG aCy fl e0 bx avS w7=>aV bx (avE (k:=YH7) K F avS w7 λO O O O O O O O hm avT=>avO (k:=k) K F avT hm cf)
def zY(n:Nat):Bool:=ZVR
theorem aa9{P:Yo}{n:Nat}(h:YNt)(avU:P 17)(pF:P 21)(lE:P 8)(ak:P 1):P n:=
 Y8P (λe=>Y98▸avU) λh=>Y8P (λe=>Y98▸pF) λh=>Y8P (λe=>Y98▸lE) λe=>Y98▸ak
def signs:Str:=Str.ofString "()[]{},:"
theorem aba{n:Nat}(h:YNt):ZmP:=
 aa9 (P:=λn=>ZmP) h ⟨111,ZL⟩ ⟨112,ZL⟩ ⟨100,ZL⟩ ⟨43,ZL⟩
theorem ha.str(bJ:Zg){n ch:Nat}(e:YHx=Zav):ha g A tgt I 1 false (λi=>[Yf2].getD i Y7) Y5o Y2e (λi h=>ZQ7):=
 ⟨λi h st=>YNM,
  λi h h' st k kt=>st.imp λo q=>⟨k I o rfl q.1,q.2⟩,
  λi s mh P af st ae O w ar=>by
  have w0:i=0:=yh af;subst w0;refine wpAny_pyNext_ascii_item st (c:=ch) rfl λh' ji hs=>⟨_,rfl,?_⟩
  have lv:∀{i:Nat}{h:Heap},ZQ7→YMW:=λst=>YNM;have a:=sL (s':=YYP) ae w (lv st) YOC (lv ji) rfl rfl;exact ji.elim λo z=>Ej (s:=YYP) z.1 Z4 YC (ar _ _ (aK.ofStr (h:=h') e _) a.1 a.2 ji),
  λs mh P st ae O w ar=>wpAny_pyNext_ascii_end bJ st rfl λh' he=>have c7:YM9:=⟨he,sJ YNM he⟩;YFz,
  λO O O st h=>wpAny_pyIter_striter_ascii st h⟩
theorem avV{n:Nat}{Q:Y1D}(az:YNt)(ae:YU)(st:Y8g)(bz:aK s.heap x ZM)(h:Z72):YKV:=by
 obtain⟨t,y,e,ex⟩:=bz;obtain⟨ch,aC,al,O⟩:=aba az;have fy:y=Y5p:=c4 e aC;subst fy;subst ex;exact wpAny_pyIter_ascii (t:=t) al (Ey ae st (λO bJ=>ha.str bJ aC) Y6l h)
def abb:gq:=⟨yD λv mh Q=>v.onStr False λn=>YNt∧Z72,AV λ{g A s0 s m0 m x v tgt Q}ae st bz q=>by
 cases v with
 |str n=>exact avV q.1 ae st bz q.2
 |_=>exact q.elim⟩
def sgn(v:V):Bool:=v.onStr false zY
theorem Nk{v:V}(aO:Yos)(r:Y2G):∃ch t,x=Z2J∧acF Y5p=false∧(!(acG signs Y5p 0 signs.length 1).isEmpty)=false:=by
 cases v with
 |str n=>
  obtain⟨t,y,e,ex⟩:=r;obtain⟨ch,aC,O,z⟩:=aba aO;exact⟨ch,t,(c4 e aC:y=Y5p)▸ex,⟨z.1,z.2⟩⟩
 |_=>exact nb aO
theorem avW:Fm "str" λv O=>Yos:=λ{g m s x v}ae bz h=>by
 obtain⟨ch,t,e,O⟩:=Nk h bz;subst e;exact⟨Zbn,λO q=>hn q⟩
def avX:kR:=u1 "isspace" avW F.slot_str_isspace F.type_str_isspace F.plainAttrs_str (λv vs m Q=>vs=[]∧Yos∧YRU) λ{g H k A s m x v xs vs Q}K aG ae bg rs h=>by
 obtain⟨ch,t,e,z,O⟩:=Nk YGq bg;have aJ:=h.1;subst aJ;exact gT rs.jh (gz e (SC.isspace (aV z.symm (qj ae YFr Y9D))))
def abc(e:aI):Y68:=(JB .In e).elim none λes=>es.casesOn none λl r=>l1 r none λy=>(Ei y).elim none Zkz
theorem abd{e:aI}{es:Ye}{P:Y1}(h:abc e=Y2K)(k:∀l ax p cO,e=YBu l [.In] [Yzv] p→es=[l]→P):P:=
 j7 h λaCz aE h=>JC aE λl r p e3 O fx=>by
  subst fx;refine j7 (h:(Ei r).elim none Zkz=Y2K) λx O h=>?_;obtain⟨rC,ax,cO,fB⟩:=x;by_cases q:rC=YQH
  ·subst q;replace h:=gn ZLR h;exact k l ax p cO (aV fB e3) Y5s
  ·replace h:=gn (decide_eq_false q) h;exact Y08
def Nl(vs:Y3)(Q:Y1):Y1:=one vs False λa=>sgn a=true∧Q
theorem abe{c:bP}{l:aI}{R:Y8}(h:gH g k env c.ns r [l] mh λvs m=>Nl vs Z79)(aG:Z5)(ae:YU)(aN:Y4J)(gI:∀ab s',YAL→YRf→Q' false ab→R Y1B s'):
  WP g A ZNd (λa s1=>WP g A (eval Yzv env) (λb s2=>WP g A (compareOp .In a b) R s2) s1) s:=by
 have h:Ev g k env c.ns r mh ZNd λv m=>Nl [v] Z79:=h;refine Yg;intro RQ RR RS;refine Y0p λcF s1 z=>z.elim λm1 z=>Y0g λa q=>wpAny_Constant_str ?_;obtain⟨ch,t,e,O,w⟩:=Nk YG q.1;exact jL e (PySem.P.in_str (aX w (gI m1 _ (ZfL _) (Y0m Yev) Yq)))
def avY:dj:=⟨⟨λO O e=>abc e,λO vs m Q=>Nl vs YRU⟩,
 λ{g H k env c r mh e es Q}K L hm h=>abd hm λl ax p cO e3 he=>by
  refine YgL;replace h:=YHF;exact λA s aG ae aN=>wpAny_Compare1 (abe (Q':=λb m=>Q Y1x m) h aG ae aN λab O a st q=>⟨ab,a,st,_,YFr,q⟩),
 λ{g H k env c r mh e es Q}K L hm h=>abd hm λl ax p cO e3 he=>by
  refine dT e3 ?_;replace h:=YHF;exact λO O aG ae aN=>wpAny_isTrue_Compare1 (abe (Q':=Q) h aG ae aN λab O a st q=>wpAny_truthy_bool ⟨ab,a,st,q⟩)⟩
noncomputable abbrev k4 (B:Nat):Yn:=[YF7,YA6,YQJ,YJt]
theorem C2{B:Nat}{T:String}{b:Bool}(e:[Value.type "Exception",YQJ,YJt].contains Y67=b):Y9p Y67=b:=by rw[ayQ,ayQ,e];rfl
variable{ae:Bool}{col:YeJ}{oL:YeI}{du:Y0F}{gZ:Y0F}{Nm:Bool}{bs:Yn}{dC:Y0F}{gs:Y0F}{p4:Y0F}
theorem avZ{R:Y4A}{g:Y7A}{d:Drawn}{os:OsState}{nm q:Str}{N B:Nat}{sn:YH}{sub:Yn}{v:Value}(gE:YlE)(aF:R (.ok (YS Yc9)) ⟨(h.push Zfr).push {cls:=Yw,data:=ZY #[YC7,Y7,Y7,Y7,Y1B,Y7]},g,d,t,os⟩):
  codeAny YR A (Y5y (ZK "Exception.__new__") Zmr) R Y5G:=by
 have F:=ayR;have aCA:=F.ends;have abf:Y9p YA6=true:=YK2;have Eh:Y9p (YE "NameError")=false:=YK2;refine codeAny_call_builtin_code (acn _ F.quiet) ?_;unfold checkBuiltinCall;refine aa F.newKind (aa F.newSplit (aa F.newRow ?_))
 repeat (first | with_reducible refine YID | (with_reducible refine wpAny_isSubtype_exc gE ZCw) | with_reducible refine wpAny_staticBase_exc gE ?_ | with_reducible refine ZeA | wp_step)
 refine codeAny_builtinAt F.entry (acH ?_);show acI _ _ _ (stack >>= _) _ _ _;refine acH (PySem.wpAt_stack λp below=>Hy ?_)
 wp_walk
 refine Hy (aa F.owner Yg);intro PW PX aeW
 repeat (first | with_reducible refine wpAny_madeHere_exc F.canon gE ?_ | with_reducible refine YID | (with_reducible refine wpAny_isSubtype_exc gE ?_;first | refine ZCw | rw[(YK2:Y9p (YE "AttributeError")=false)] | rw[Eh]) | wp_step)
 show R _ _;exact aa YBJ aF
noncomputable abbrev xP (C T:Nat):Obj:=Zfn
noncomputable abbrev vO (v:Value):Obj:=Zfr
theorem av0{g:Y7A}{d:Drawn}{os:OsState}{E Q:Y8}{nm q:Str}{N B:Nat}{sn:YH}{sub:Yn}{v:Value}{f:Nat}(gE:YlE)(af:Looks YR h (typeLookup Yw "__init__") Yow)(ah:∀self,Looks YR h (bindSpecial Y2h self) (Y2h,[self]))(aF:codeAny YR (A.under (ZK "type.__call__" Zmr)) (Y5y Y2h ⟨[Yc9,v],[]⟩) (λr s'=>r=YPo∧Q Yc9 s') ⟨YaU YY9,g,d,t,os⟩):
  wpAny YR A ZJN Q E Y5G:=by
 have f1:=tc_lookup;have f2:=tc_bind Yw;have dJ:YbI Yw "type":=⟨_,gE,rfl⟩
 refine YqN;show wpAny _ _ (callAny Yw _) _ _ _
 repeat (any_goals (first | assumption | with_reducible refine YID | wp_step))
 refine⟨rfl,codeAny_call_builtin_at ZDk entry_typeCall (wpAny_check_type_call_sub gE Yg)⟩;intro PU PV al0
 repeat (first | with_reducible refine YID | with_reducible refine ZeA | wp_step)
 refine avZ gE ?_;show wpAny _ _ _ _ _ _;have k:∀b o,YDK→Yti b=YB:=Zhs;have av1:=ZSg;have av2:Yti YGs=some YY9:=ZHo
 have av3:Y9p Yw=true:=Y6K
 refine Y0K;intro PW PX
 repeat (first | with_reducible refine wpAny_loadPart_at av2 ?_ | (with_reducible refine wpAny_isSubtype_exc av1 (aa av3 ?_)) | wp_step)
 show wpAny _ _ (typeLookup Yw _) _ _ _;refine(af.keeps k).at (wpAny_holding (bd (((ah _).keeps k).at Yg)));intro RW RX RY;refine bd (wpAny_call (codeAny_mono aF YsJ));obtain⟨rfl,z⟩:=z;exact ZeF
theorem Nn:Slot "wrapper_descriptor" "__get__" "wrapper_descriptor.__get__":=
 .of (owner:="wrapper_descriptor") (n:="__get__") (by(refine aj Zbo ?_;refine ZCz);kernel_rfl) ZL ZL ZL
  Yi3 YT5
theorem av4:entryFor table "wrapper_descriptor.__get__"=some Builtin.«wrapper_descriptor.__get__»:=Yjq
theorem av5(a b c:Value):argsOk "wrapper_descriptor.__get__" ⟨[a,b,c],[]⟩:=by unfold argsOk;kernel_rfl
noncomputable abbrev C3:Value:=ZK "Exception.__init__"
theorem av6:typeOf C3=pure (YE "wrapper_descriptor"):=by show builtinType _=_;refine aa builtinType_eq_fast ?_;kernel_rfl
noncomputable abbrev Np (D x C:Nat):Obj:={cls:=YQM,dict:=none,data:=ZY #[Y2g,Y1m,Yw],slots:=#[]}
noncomputable abbrev sh (x:Nat):Obj:={cls:=YE "method-wrapper",data:=ZY #[C3,Y1m]}
variable{oZ:Obj}
theorem av7{g:Y7A}{d:Drawn}{os:OsState}{E:Y8}{x:Nat}{Q:YQq}(aq:YUt)(ao:YWH)(qk:Ye1)(aF:Z6u):wpAny YR A (Builtin.«wrapper_descriptor.__get__» ⟨[C3,Y1m,Yw],[]⟩) Q E Y5G:=by
 unfold Builtin.«wrapper_descriptor.__get__»
 repeat wp_step
 rw[show ".".intercalate ("Exception.__init__".cutAt '.').dropLast="Exception" by decide +kernel,ao];refine qk.at ?_;refine YTd;exact wpAny_pure (bd (wpAny_newObj_type YIE))
theorem av8{g:Y7A}{d:Drawn}{os:OsState}{E:Y8}{d5 x B:Nat}{Q:YQq}{tk:Nat}(vP:ZQI)(uv:Z5a)(gE:Z5Z)(ne:Yd8)(aq:YUt)(ao:YWH)(C4:x≠C)(qk:Ye1)(aF:Z6u):
  wpAny YR A (Builtin.«super.__getattribute__» ⟨[YQ6,Y4 "__init__" tk],[]⟩) Q E Y5G:=by
 have si:=Nn.lookup;have iA:(jX x==jX C)=false:=by simp[C4]
 have av9:=av6;have aE:((jX C::YMD).dropWhile (· !=YF7)).drop 1=[YA6,YQJ,YJt]:=by
  rw[ayS,if_pos (by simp[ne]),ayS,Yln];rfl
 have wm:YbI C3 "wrapper_descriptor":=av9;have abg:classOwn YA6 "__init__"=pure (some C3):=Y1G
 have Nq:(Np B x C).data=ZY YOR:=rfl;have f0:YZY[0]?=ZZs:=rfl;have f1:YZY[1]?=some Y1m:=rfl;have f2:YZY[2]?=ZZt:=rfl;unfold Builtin.«super.__getattribute__»
 repeat (first
  |(with_reducible refine wpAny_field vP Nq f0 ?_) |(with_reducible refine wpAny_field vP Nq f1 ?_) |(with_reducible refine wpAny_field vP Nq f2 ?_)
  |(with_reducible refine ks_wpAny_notOpaque uv ?_)
  |(with_reducible refine Looks.at gE ?_;refine YgS)
  |(rw[iA])
  |wp_step
  |dsimp only)
 exact codeAny_call_builtin Nn.plain av4 (Nn.check _ _ _ _ _ _ _ _ wm (av5 _ _ _) (av7 aq ao qk (wpAny_pure YqP)))
theorem awa{g:Y7A}{d:Drawn}{os:OsState}{E:Y8}{d5 x B:Nat}{Q:Z8e}{pl:YFf}(vP:ZQI)(uv:Z5a)(gE:Z5Z)(ne:Yd8)(aq:YUt)(ao:YWH)(C4:x≠C)(qk:Ye1)(aF:Q (YC7,[]) ZnR):wpAny YR A (getMethod YQ6 "__init__" pl) Q E Y5G:=by
 have si:=acJ.lookup;have dJ:∀dg,(⟨h,g,d,dg,os⟩:Shared).TypeIs YQ6 "super":=λO=>⟨_,vP,rfl⟩
 refine bd (wpAny_specialOf YLP si ?_);show wpAny _ _ (if(Manifest.canonical "super.__getattribute__" !="object.__getattribute__")=true then _ else _) _ _ _;refine cb (if_pos F.ks_canon_super_ga) (bd (bd (wpAny_mkText (wpAny_holding (bd (wpAny_typeOf YLP (bd (wpAny_of_eq si ?_))))))));show wpAny _ _ (getAttrByItsOwn YQ6 (Y4 "__init__" t) YQM (ZK "super.__getattribute__") true false) _ _ _;refine bd (wpAny_of_eq (rfl:(if onTheHeap YQM then typeLookup YQM "__getattr__" else YMm)=YMm) (bd (wpAny_attempt Ze9)));intro awb awc awd;refine bd (wpAny_of_eq (acJ.bind _) Yg);intro aCB aCC aCD;refine wpAny_mono (Q:=λv s'=>v=YC7∧s'=ZnR) (E:=Y28)
  (wpAny_call_entry acJ YLP F.ks_entry_super_ga (av8 vP uv gE ne aq ao C4 qk ⟨_,rfl,rfl,rfl⟩) (F.ks_gaArgs_super _ _)) (λv s' aO=>?_) Y0E
 obtain⟨rfl,rfl⟩:=aO;exact YqP
theorem awe{g:Y7A}{d:Drawn}{os:OsState}{E:Y8}{x B:Nat}{nm q:Str}{N:Nat}{sn:YH}{sub:Yn}{tX:Nat}{v:Value}{vs:Y1N}{t0:Nat}{Q:Y8}(hm:h.get? tX=ZaZ)(aq:YUt)(ao:YWH)(hd:oZ.data=YPe)(h0:vs[0]?=some (Y0 t0))(gE:YlE)(aF:Q Y7 ⟨(h.push YNY).update x (x5 (YO1 0 YC7)),g,d,t,os⟩):wpAny YR A ZJO Q E Y5G:=by
 refine YqN;show wpAny _ _ (callAny YcI _) _ _ _;refine Yg;intro aeM aeN aeO;refine bd (wpAny_load hm ?_);show wpAny _ _ (checkBoundCall "Exception.__init__" Yt2 >>= λO=>again (ZK "Exception.__init__" Yt2)) _ _ _;have F:=ayR;refine Yg;intro Jm Jn RZ;refine Y6I
 (refine iy F.initRow ?_;refine aa F.initKind ?_)
 refine wpAny_ite_true YC ?_;have aCE:=F.noStar;refine Yg;intro aCF aCG aCH
 repeat (first | (with_reducible refine wpAny_loadPart_at aq (jg ao ?_)) | with_reducible refine YID | wp_step)
 refine⟨plainId_quiet F.init.plain _,codeAny_builtin F.initEntry ?_⟩;unfold Builtin.«BaseException.__init__»;dsimp only;refine YTd;have AN:0<vs.size:=(wh h0).1;have abh:=eu (h:=h) YNY aq;exact bd (wpAny_newObj_type (bd (bd (wpAny_field abh hd h0 (bd (wpAny_setField abh hd AN (wpAny_letGo YIE)))))) Yi8)
theorem awf{E:Y8}{g:Y7A}{d:Drawn}{os:OsState}{nm q:Str}{N B x:Nat}{sn:YH}{sub:Yn}{name:Str}{v:Value}{o:Obj}{tk:Tok}{Q:YQq}(gE:YUq=Yp8)(az:Z5b)(aq:YlH=YB)(ao:ZVz)(GV:ZW2)(hd:Ysz)(aF:∀h' u4,Zlb→ZPy→Q YJa ZnP):
  wpAny YR A (Builtin.«object.__setattr__» ⟨[Y1m,YcW,v],[]⟩) Q E Y5G:=by
 refine cb (osa_eq ..) (ix (refuse_eq ..) (bd (bd (bd (wpAny_loadPart_at aq (wpAny_pure (aa ao (bd (wpAny_mroOf_exc gE (cb ZYm (cb ZYm (cb (ayT.passes Y1m) (wpAny_pure (bd (bd (wpAny_loadPart_at aq (wpAny_pure (aa ao (bd (az.at YGB))))))))))))))))))));dsimp only;obtain⟨hV,iJ,aCI,aCJ⟩:=o;dsimp only at ao GV;subst ao GV;obtain⟨vs,rfl⟩:=hd;show wpAny _ _ (do match ←instanceDict x true with | YNJ=>ayU d YcW name v | none=>Builtin.ObjectAttr.noDictFor Y1m Yw name false) _ _ _;refine bd (bd (wpAny_loadPart aq (bd (bd (wpAny_load gE Zm)))));dsimp only;refine cb Y2u (cb (if_neg (h8)) ?_);have abi:=eu (h:=h) Y3R aq;have abj:x≠h.objs.size:=ZMu;refine bd (wpAny_alloc (bd (wpAny_update abi (wpAny_pure (a:=Zam) ?_))));have awg:(YxI x Zjq).get? h.objs.size=some Y3R:=(aca _ _ _ _ abj.symm).trans (Heap.get?_push_at rfl rfl);have wt:(YxI x Zjq).Ns h.objs.size ZP:=⟨_,#[],_,awg,rfl,λe he=>absurd he Y6K,Zf⟩
 show wpAny _ _ (ayU h.objs.size YcW name v) _ _ _;refine Yg;intro Ub Uc alS;refine bd (wpAny_pure (bd (wpAny_nsSet1 (Heap.Ns1.of_empty wt) λh' ks hs=>YM)));obtain⟨aCK,aCL,aCM,awh,awi,awj⟩:=ks.count (Within.cons name v Within.nil);refine ax (bd (wpAny_lookBehind awh (by exact aX awi (pastItsLine_dict (au awj (by refine aj g5 (aT Hl (dS sizeLine_eq ?_));decide)))) ?_));refine wpAny_pure (aF h' _ (λb O ah e=>(Y17 b Y6M).trans ((aca _ _ _ _ ah).trans Y5a)) ((Y17 x abj).trans (q7 _ abi rfl)))
theorem awk{E:Y8}{g:Y7A}{d:Drawn}{os:OsState}{nm q:Str}{N B x:Nat}{sn:YH}{sub:Yn}{name:Str}{v:Value}{o:Obj}{Q:Y5Q}(gE:YUq=Yp8)(aE:Looks YR h (typeLookup Yw "__setattr__") YXB)(az:Z5b)(aq:YlH=YB)(ao:ZVz)(GV:ZW2)(hd:Ysz)(aF:∀h' u4,Zlb→ZPy→Q () ZnP):
  wpAny YR A (setAttr Y1m name v) Q E Y5G:=by
 have zZ:=ayT;have awl:Y9p YJt=true:=YK2;have qk:Looks YR h (isInstance Y1m YJt) true:=((Looks.ld aq).andThen (by rw[ao];exact .now)).andThen λA Q E s k q=>by
  exact wpAny_isSubtype_exc ZSg (by refine aa awl ?_;exact q)
 unfold setAttr callSpecial? specialOf;refine bd (wpAny_mkText (bd (bd (bd (bd (wpAny_loadPart_at aq (wpAny_pure (ix ao (aE.at Y0K)))))))));intro ak2 ak3;exact wpAny_holding (bd (wpAny_of_eq (zZ.slot.bind Y1m) (bd (wpAny_call (codeAny_call_builtin zZ.slot.plain zZ.entry (@check_slot YR _ _ ⟨h,g,d,t+1,os⟩ "object.__setattr__" "object" "__setattr__" Y1m [Z2H,v] [] _ zZ.kind zZ.split qk (zZ.args Y1m Z2H v) (awf (t:=t+1) gE az aq ao GV hd λh' u4 dC du=>wpAny_pure (wpAny_pure (aF h' u4 dC du)))))))))
theorem awm{E:Y8}{tX x:Nat}{t:Y5P}{Q:Y8}(h:wpAny YR A t (λv s1=>s1.heap.get? tX=ZaZ∧wpAny YR A ZJO Q E s1) E s):wpAny YR A (callWith pos YcI [] [(false,t)] []) Q E s:=by
 refine bd (wpAny_holding (evalArgs_plain (NT (wpAny_mono h (λv s1 z=>NS (bd (wpAny_standAt ZGw))) Y33))));intro aCN aCO aCP;exact bd (wpAny_load z.1 (wpAny_pure (bd (wpAny_mono z.2 (λO O q=>bd (wpAny_holding (wpAny_point ZeH))) ZgT))))
theorem awn{cd:Code}{E:Y8}{o:aI}{n:Str}{e:aI}{Q:Y8}(hs:Ym7)(sU:Y8F)(h:acI YR A cd (attributeBase o n env Y7j) (λBJ s1=>∀pl,wpAny YR A (getMethod BJ n pl) (λabk s2=>wpAny YR A (callWith pos abk.1 abk.2 [Y8O] []) Q E s2) E s1) E s):acI YR A cd (eval (Y0Q Yzo [e] [] pos) env) Q E s:=by
 refine cb YSY (acH (ks_wpAt_mono h (λBJ s1 z=>Hy YL7) Y33));have aJ:backTo pos (starEach [e] env)=[Y8O]:=by rw[Qb e hs];rfl
 refine ix aJ ?_;dsimp only [methodCall];exact aa (show methodCallForm ([e].length+YZx) [Y8O] ZGr=true from rfl) (bd (wpAny_holding (wpAny_mono (z _) (λkQ s2 y=>bd (wpAny_of_eq YT6 y)) Y33)))
abbrev awo(g:G)(f cell:Nat)(bU:Y1):Y1:=∀(hV:_)(iJ:_)(eB:_)(fd:_)(GW:_)(Nr:_)(vs:_)(file:_)(cp:_)(abl:Pos)(ek:Pos)(cO:Pos)(ky:Pos)(kS:Pos)(lN:Pos)(s8:Pos)(s9:Pos)(abm:Pos)(abn:Pos),Ykf→fd.body=Y66 [YJV (Y0Q (Y2f (Y0Q (Y09 "super" abl) [] [] ek) "__init__" cO) [Y09 "what" ky] [] kS) lN,Y5x [Y2f (Y09 "self" s8) "what" s9] (Y09 "what" abm) abn]→(cO.endLine==kS.line)=true→Jq fd ["self","what"]→fd.closure=[(YZW,cell)]→fd.code=Y0 GW→codeIn g.K fd.code fd.qualname=true→g.K.lookup GW=some Nr→Nr.data=YPe→vs[2]?=some (Y4 file cp)→((g.prog.main.file:Str)==file)=true→fd.scope.names=[(YZX,YPk),(("what":Str),YPk),(YZW,Y6z),(YtW,Z0W)]→fd.scope.kind=Y5K→fd.scope.isCoroutine=false→fd.scope.isGenerator=false→fd.globals=mainGlobals→fd.builtins=builtinsNs→bU
abbrev awp(g:G)(f cell:Nat):Y1:=∀bU:Y1,awo g f cell bU→bU
abbrev awq(g:G)(f B cell:Nat):Y1:=hr (awp g f cell) (∃hV iJ eB,g.K.lookup cell=some ⟨hV,iJ,YPY ZZs,eB⟩) (nsIn g.K mainGlobals "super"=Y3M) ((g.prog.main.scope.names.lookup YtW).isSome=false)
abbrev awr(g:G)(C B:Nat)(bU:Y1):Y1:=∀(nm:_)(q:_)(N:_)(bs:_)(sn:_)(sub:_)(ae:_)(col:_)(oL:_)(p4:_)(dC:_)(du:_)(gs:_)(gZ:_),g.K.lookup C=Yp8→bU
abbrev aws(g:G)(C B:Nat):Y1:=∀bU:Y1,awr g C B bU→bU
abbrev o3(g:G)(C B f cell:Nat):Y1:=acM (awq g f B cell) (aws g C B) (∃Nt cd,g.K.lookup B=some Nt∧Nt.data=.cls cd) (∃cd,clsIn g.K C=some cd∧cd.mro=YcB) Yd8 (findIn g.K Yw "__init__"=Zab) (typeIn g.K Y2h=some (YE "function")) (findIn g.K Yw "__setattr__"=YpC) (findIn g.K Yw "what"=Y3M) (nsIn g.K cStatics "thirdparty.any"=Y3M)
variable{cell:Nat}
theorem awt{B f x:Nat}{v:Value}{R:Y4A}(K:ZG)(Z:YWE)(aG:YTt)(ae:ZlZ){T:Nat}(aq:s.heap.get? x=some (Zfn:Obj))(GX:g.h₀.get? x=none)(gI:∀s' iY dx,Y57→Y4R→(∀b o,b≠x→YN5)→s'.heap.get? x=some ({cls:=Yw,dict:=some dx,data:=ZY #[Y0 iY,Y7,Y7,Y7,Y1B,Y7],slots:=#[]}:Obj)→Z7F):
  codeAny Yu A (Y5y Y2h Yt2) R s:=by
 refine bp λax=>YRo _ λhV iJ eB fd GW Nr vs file cp abl ek cO ky kS lN s8 s9 abm abn hf awu xQ P awv aww awx awy awz awA awB z0 abo abg awC awD qU=>Z9A;obtain⟨rC,aCQ,aCR,awE⟩:=Z.1.2;obtain⟨Nt,aCS,abp,abq⟩:=Z.3;obtain⟨cd,abr,FF⟩:=Z.4;have X:ZOq:=Y4g ae;obtain⟨p,loose,rn,pq,T0⟩:=K.1.2;refine ax (ks_codeAny_call_defAt (fd:=fd) (binds:=[("self",Y1m),YtX]) ZOE (X _ _ hf) rfl (T0.nolimit.keeps ae) (codeRec_of X awx) awu (BindsTo.of_eq (R9 P rfl)) YOL YOL (λh₀ az aR=>?_) abg awC abo)
 ·replace bb:=bL z0 bb;revert y;decide
 ·refine aX z0 ?_;rcases dz bb with e | bb
  ·refine gT e ?_;rfl
  ·refine gT YL3 ?_;rfl
 generalize la:callEnv fd s.heap.objs.size f=env at az aR ⊢;have oE:ZN3:=bN la awD;have cM:ZN2:=bN la qU;have i5:Yju:=k7 la abo;have fa:env.locals=s.heap.objs.size:=ZIH
 have Bq:∀n,Y25=YLl:=λn=>eT la ((λn=>rfl:∀n,(callEnv fd s.heap.objs.size f).kindOf n=YLl) n);have dC:env.kindOf "super"=Y27:=YT3
 have du:env.kindOf "__class__"=Y6d:=YT3
 have abt:env.kindOf "self"=Y2z:=YT3
 have jl:env.kindOf "what"=Y2z:=YT3
 have awF:env.cells.lookup YZW=some cell:=by refine k7 la ?_;show fd.closure.lookup _=_;rw[awv];rfl
 have awG:env.func=some f:=ZIH
 have awH:env.code=Y0 GW:=bN la aww;have BC:∃i2,(fd.params.posonlyargs++fd.params.args).head?=some i2∧i2.arg=YZX:=by
  obtain⟨po,i2,O⟩:=P;refine aa po (aa YK9 ?_)
  cases h:fd.params.args with
  |nil=>replace i2:=bN h i2;exact absurd i2 YC
  |cons a r=>replace i2:=bN h i2;exact⟨a,rfl,(g4 i2).1⟩
 obtain⟨i2,BC,awI⟩:=BC;have q5:g.K.In h₀:=X.keeps aR;have CF:=(T0.keeps (h':=s.heap) ae).keeps (h':=h₀) aR;have awJ:x≠s.heap.objs.size:=ZMu;replace az:=aj fa az;refine ks_wpAt_execs_cons (ks_wpAt_Expr_any ?_ (by refine gz i5 ?_;rfl) rfl);refine awn rfl xQ (ks_wpAt_super_base (env:=env) dC du rfl awG (q5 _ _ hf) rfl BC awH (q5 _ _ awy) awz awA awB Z.1.4 ?_)
 ·refine ks_loadName_global i5 dC (loadGlobal_builtin (env:=env) (aj oE CF.g) (mg_none_of q5 CF.g Z.1.3) (aj cM CF.b) ((T0.builtins _ ZL).trans Y1G) ⟨rfl,wpAny_loadName_free i5 du awF ⟨_,q5 _ _ awE,rfl⟩ (jg awI (wpAny_loadName_local i5 abt az rfl (ks_wpAny_isType_cls ZXo abq ⟨rfl,Yg⟩)))⟩);intro awb awc awd;have awK:Looks Yu h₀ ZV4 YcB:=λA Q E s k q=>bd (((looks_clsIn q5 abr) A _ E s k (wpAny_pure (aa FF q))));have wU:∀b,Y9p b=true→mroIn g.K C b=YNL:=λb ah=>by unfold mroIn;exact aT abr (aL (Option.bind_some ..) (aj (if_neg (mL FF h8)) (gS FF (congrArg _ ah))))
  have C4:x≠C:=λe=>by replace GX:=aQ (K.1.1 _ _ q4) (bN e GX);cases GX
  have GY:=aR _ _ aq;refine ks_wpAny_call_super ZXo abq GY rfl (λc e=>by cases e) (looks_mroIn q5 (wU _ Y6K):Looks Yu h₀ (isSubtype Yw YF7) true) λak vP gZ=>?_;intro pl;refine awa vP ((looks_opaque (C:=C) (M:=Yu) q5 Z.10).keeps gZ) (awK.keeps gZ) Z.5 (gZ _ _ GY) rfl C4 ((looks_mroIn q5 (wU _ (rfl)):Looks Yu h₀ ZRx true).keeps gZ) (awm (x:=x) (wpAny_Name (wpAny_loadName_local i5 jl (az.keeps Zht) rfl ?_) YC));have lN:∀b o,ZR3→(ak.push YE1).get? b=YB:=Zht;refine⟨ZW,awe ZW ZTv rfl rfl rfl (lN _ _ (q5 _ _ q4)) ?_⟩;generalize abu:((ak.push YE1).push YNY).update x (x5 (YO1 0 (Y0 YvW)))=av;have awL:av.get? x=some (xP C YvW):=by exact eT abu (q7 _ (eu _ ZTv) rfl)
  have oO:∀b o,b≠x→ZR3→YhA:=λb o ah e=>by exact eT abu (YZr (eu _ (lN b o e)))
  have zv:g.K.In av:=Y4g (λb o e=>oO b o (λq=>by replace e:=aQ GX Y5W;cases e) (aR _ _ (ae _ _ e)):∀b o,YUg→YhA);have fI:av.Ns env.locals (λy=>[(YZX,jX x),YtX].reverse.lookup y):=AH az λo e=>oO _ o (λq=>awJ (cA q fa)) e;exact ks_wpAt_execs_cons (ks_wpAt_Assign_Attr (Hy (wpAny_Name (wpAny_loadName_local i5 jl fI rfl (wpAny_Name (wpAny_loadName_local i5 abt fI rfl (awk (zv _ _ q4) (looks_findIn zv Z.8) (looks_findIn zv Z.9) awL rfl rfl YOP λaP u4 sf vl=>Hy (wpAny_pure (gI ⟨aP,s.gens,s.drawn,u4,s.os⟩ _ _ rfl rfl (λb o ah e=>sf b o ah (oO b o ah (aR b o e))) vl)))) YC)) YC)) rfl)
theorem awM{n:Nat}{x:Str}(h:YHx=YQ):x.length≤20:=by
 have:((HI.map er).all λy=>decide (y.length≤20))=true:=ZL
 exact of_decide_eq_true (ju this x YUL)
noncomputable abbrev abv (C dx T:Nat):Obj:={cls:=Yw,dict:=some dx,data:=YbX,slots:=#[]}
abbrev xR(C:Nat)(s s':Shared)(e:Nat):Y1:=iG Y57 Y4R Y7m (s.heap.get? e=none) (∃dx T,s'.heap.get? e=ZaL)
theorem awN{B f:Nat}{v:Value}{E:Y8}{Q:Y8}(K:ZG)(Z:YWE)(aG:ZLD)(ae:YU)(dp:∀e s',Zen→Q Y45 s'):wpAny Yu A ZJN Q E s:=by
 refine bp λax=>Z9A;have X:ZOq:=YKA;refine Yb;have gone:ZZB:=Yqv;refine av0 Z8z (looks_findIn X Z.6) (λself=>bind_fn X self Z.7) ?_;have b5:∀b o,Y9Y→(Yys Zem).get? b=YB:=Zhs;refine awt (k:=k) (s:=⟨Yys Zem,s.gens,s.drawn,s.toks,s.os⟩) K Z ZBD (λb o e=>b5 b o Y8t) (T:=s.heap.objs.size) ZHo ?_ λs' iY dx aJ aC c1 qe=>⟨rfl,dp _ s' ⟨aJ,aC,λb o e=>c1 b o (λq=>by replace e:=aQ gone Y5W;cases e) YhJ,gone,dx,iY,qe⟩⟩
 cases hz:g.h₀.get? Y1J with
 |none=>rfl
 |some o=>replace gone:=aQ (Y5U _ _ hz) gone;cases gone
theorem awO{B f:Nat}{E:Y8}{x:Y5P}{Q:YdF}(K:ZG)(Z:YWE)(bJ:Zg)(h:wpAny Yu A x (λw s1=>∃e dx T,w=Y45∧g.K.In s1.heap∧s1.heap.get? e=ZaL∧E Y45 s1) E s):wpAny Yu A (raiseStmt env YQ none) Q E s:=by
 refine bp λax=>Z.2 _ λnm q N bs sn sub vQ col oL p4 dC du gs gZ q4=>ax (bd (wpAny_mono h (λv hY qt=>YM) YrR));obtain⟨e,dx,T,rfl,X,he,la⟩:=qt;have gE:=Z8z;refine Yb
 repeat (first | with_reducible refine wpAny_loadPart_at he ?_ | with_reducible refine YID | (with_reducible refine wpAny_isSubtype_exc gE (aa ((YK2:Y9p YQJ=true)) ?_)) | wp_step)
 exact wpAny_raiseNew_none bJ la
theorem xR.toks{tk:Nat}(z:xR C YIS s' e):Zen:=⟨z.1,z.2,z.3,z.4,z.5⟩
theorem awP{B f:Nat}{E:Y8}{c:bP}{Q:YdF}(K:ZG)(Z:YWE)(aG:ZLD)(ae:YU)(aN:Y4J){n nm t0:Str}{np mD sj kQ jp:Pos}(aR:Yjs)(ah:Y5v)(az:YW9)(bq:Ypb)(aO:Ev g (k+2) env c.ns r mh (eval Z02 env) λv m=>Y9O∧YEB)(la:∀e s1 s',Yfd→Yes→xR C s1 s' e→E Y45 s'):
  wpAny Yu A (exec YbN env) Q E s:=by
 refine cb (arm_exec_Raise ..) (bd (wpAny_standAt (awO K Z Y2l (bd (wpAny_Call_NameR Yg)))));intro ae6 ae7 ae8;refine wpAny_mono (Ew (P:=λC5 s1=>C5=Yw∧s1=s) K.1 ae aN aR ah az Zn) (λC5 s1 z=>?_) Y0E;obtain⟨rfl,rfl⟩:=z;refine Yg;intro alv alw alx;refine bd YXw;show wpAny _ _ (evalArgs Yw true [(false,eval Yzy env)] []) _ _ _;refine Yg;intro aCT aCU aCV;refine evalArgs_plain (NT (JoinedStr_many (joinParts_cons (wpAny_Constant_str (⟨by show(jc++t0).length≤_;refine aj YpT ?_;exact au ZIj YT1,joinParts_cons (FormattedValue_plain ?_)⟩)))));refine Yg;intro aCW aCX aCY;refine wpAny_mono (aO A _ aG (ae.toks _) (aN.ez Yev)) (λv s2 z=>YM) Y0E;obtain⟨m,z⟩:=z;obtain⟨Kg,bz,e,hs⟩:=z.3;subst e;obtain⟨aCZ,fx⟩:=V.kr hs;subst fx;obtain⟨t1,y,fy,rfl⟩:=bz;refine Yb;have abw:=awM fy;refine formatField_str (λdg tk=>?_) (au abw YT1);have gY:(jc++t0++y).length≤sizeLine:=by
  exact aj YpT (aT YpT (au (gR ZIj abw) YT1))
 refine⟨gY,joinParts_nil (NS Y0K) gY⟩;intro Ub Uc;refine bd (wpAny_standAt (bp λax=>Z.2 _ λawQ q N bs sn sub vQ col oL p4 dC du gs gZ q4=>Yb));generalize F1:({s2 with toks:=tk}:Shared)=s3;have nU:a5 g m s3:=aV F1 (ZfL tk);have fJ:Step cX s1 m s3 m:=aV F1 (((Step.toks _).trans z.2:Step cX s1 m s2 m).trans Z87);have abx:g.K.In s3.heap:=Y4g nU.1;refine Y0K;intro al1 al2;refine bd (wpAny_keeperOf_exc (abx _ _ q4) (bd (awN (s:=⟨s3.heap,s3.gens,s3.drawn,ZZS,s3.os⟩) K Z aG (nU.toks ZZS) λe s' M=>YM)));obtain⟨dx,T,aA⟩:=M.5;refine ax Y0K;intro awR awS;exact bd (wpAny_holding (wpAny_point (wpAny_pure (bd (wpAny_standAt (wpAny_pure ⟨e,dx,T,rfl,abx.keeps M.3,aA,la e _ s' nU fJ ⟨M.1,M.2,M.3,M.4,M.5⟩⟩))))))
def vR(g:G)(m:ag)(h:Heap)(L:Nat):Y1:=m L=none∧g.h₀.get? L=none∧∃o es ep,h.get? L=YB∧YWC
def js(g:G)(l:Y0C)(m:ag)(h:Heap):Y1:=∀env∈l,env.scope.kind≠.module∧∃L,env.frame=some L∧vR g m h L
noncomputable abbrev addrs (l:Y0C):YV:=l.filterMap (·.frame)
theorem js.Nu{l:Y0C}{X:Yo}(st:Step X s mh s2 m)(jO:∀e∈l,∀L,ZLu→¬X L)(h:YH4):ZSS:=λenv he=>⟨ZPm.1,by
 refine YM;obtain⟨L,ak,av,h0,o,es,ep,aP,da⟩:=ZPm.2;exact ax (⟨L,ak,(Zb L av).elim id λq=>g7 aP q,h0,o,es,ep,Y0f L o aP av (jO env he L ak),da⟩)⟩
theorem js.step{l:Y0C}(st:Step cX s mh s2 m)(h:YH4):ZSS:=h.Nu st λO O O O q=>q
theorem js.cons{l:Y0C}(aN:Y1d)(mU:YGa)(h:YH4):js g Y26 mh s.heap:=λe he=>YJB (λq=>q▸⟨by refine aj aN.1 ?_;decide,by
 refine YM;obtain⟨m,az,O⟩:=aN.5;obtain⟨o,es,ep,aA,hd,O⟩:=az;exact ax (⟨env.locals,mU,aN.6.1,aN.6.2,o,es,ep,aA,hd⟩)⟩) (h e)
theorem js.awT{l:Y0C}{base:Heap}(ah:∀a∈Ygp,base.get? a=none)(x:js g l mh h):h.FunFrames base l:=by
 induction l with
 |nil=>trivial
 |cons env l ai=>
  refine YM;obtain⟨ak,L,av,O,O,o,es,ep,aP,da⟩:=x env b3;refine ax (⟨ak,⟨L,o,av,ah L (DB ⟨env,b3,av⟩),aP,λvs q=>by replace q:=aQ da q;cases q⟩,ai (λa aD=>ah a ?_) λe he=>x e YU5⟩);obtain⟨e,he,z⟩:=yf aD;exact DB ⟨e,YU5,z⟩
theorem js.all{l:Y0C}(x:YH4):∀a∈Ygp,vR g mh s.heap a:=λa aD=>by
 refine YM;obtain⟨e,he,z⟩:=yf aD;obtain⟨O,L,av,aP⟩:=x e he;exact ax (c4 av z▸aP)
abbrev xS(C:Nat)(l:Y0C)(fs:YV)(e:Nat)(s2 s4:Shared):Y1:=hr (∃a0,Heap.FlyingW (hideAll s2.heap fs) l e Yw a0 s4.heap) (s2.heap.UpToSlots s4.heap) (s4.gens=s2.gens) (s4.os=s2.os)
theorem awU{E:Y8}{l:Y0C}{Q:Y5Q}(l4:Z2e)(dN:ZSR)(M:xR C s2 s3 e)(aF:∀s4,xS C l YCf e s2 s4→Q () s4):Zdi:=by
 refine YM;obtain⟨dx,T,he⟩:=M.5;obtain⟨ak,L,hf,O⟩:=dN env b3;refine Yb;have GZ:js g Y26 aH s3.heap:=λbk rJ=>⟨ZKs.1,by
  refine YM;obtain⟨fA,il,ck,awV,o',es,ep,gD,oy⟩:=ZKs.2;exact ax (⟨fA,il,ck,awV,o',es,ep,M.3 _ _ gD,oy⟩)⟩
 refine wpAny_leaving_firstW (base:=hideAll s2.heap YCf) (a0:=YQ4) l4 (GZ.awT (λa aD=>hideAll_none _ aD:∀a∈YCf,YaX a=none)) hf he (λO O q=>M.3 _ _ Yns) ?_ rfl rfl rfl λh' x=>?_
 ·cases q:YaX e with
  |none=>rfl
  |some ob=>have:=Yns;replace this:=ZBt;cases this
 ·refine aF Zg3 ⟨⟨_,x.1,?_,Y2L.2.2,YIG⟩,λb ob q az=>?_,M.1,M.2⟩
  ·cases q:YaX e with
   |none=>rfl
   |some ob=>have:=Yns;replace this:=ZBt;cases this
  ·exact Y6g b ob (M.3 _ _ q) az
theorem awW{E:Y8}{l:Y0C}{fs:YV}{Q:Y5Q}(l4:Z2e)(hf:YGa)(F:xS C Y26 fs e s2 s3)(aF:∀s4,Zeo→Q () s4):Zdi:=by
 obtain⟨a0,Nv⟩:=F.1;exact wpAny_leaves_onW l4 hf Nv λh' c6 cT=>aF Zg3 ⟨⟨a0,c6⟩,F.2.trans cT,F.3,F.4⟩
theorem aby{f:Nat}{E:Y8}{c:bP}{Q:Y8}{o:aI}{n:Str}{es:Ye}{p:Nat}(K:ZG)(hm:(C0,n,f)∈H.mt)(ah:YB8)(sU:Y8F)(hs:Y5f)(hlen:YUI)(aG:Z5)(ae:YU)(aN:Y4J)(ar:mh p=some (t,ZD C0 ws))(ak:Ev g k env c.ns r mh Y7j λa m=>Y9O∧a=Y0V)(av:gH g k env c.ns r es mh λvs m=>Y9O∧vs=args)(go:∀s2 xs,a5 g mh s2→Z83→a9 s2.heap xs (Y0V::args)→wpAny Yu A (call Y2h xs) Q E s2):wpAny Yu A Yk7 Q E s:=by
 refine cb YSY (ix YQl (bd (wpAny_mono (ak A s aG ae aN) (λcF s1 z=>YM) Y0E)));obtain⟨m1,z⟩:=z;obtain⟨a,bz,em,bx⟩:=z.3;refine Yb;subst em;subst bx;refine YL7;have IV:ZUi:=by
  refine ZC5;unfold methodCallForm;exact gz (ZbI:Yx1) ZLP
 have qw:ZUj:=YT6
 unfold methodCall;refine aa IV (aa ((bz:YiW)) (bd (wpAny_holding (QO K hm z.1 ar λaR=>bd (wpAny_of_eq qw (ix YDk (callWith_of (P:=Yrw) Yi4 ZTH (uH lh (wpAny_mono (rp av aG z.1 Y2H) Zl5 Y0E)))))))));refine YM;obtain⟨aH,y⟩:=y;obtain⟨vs,bg,em,ev⟩:=y.3;refine Yb;subst em;subst ev;exact⟨Y4g Y1v,go s2 (Y0V::xs) y.1 YEI (a9.cons ZBU bg)⟩
abbrev awX(g:G)(C:Nat)(l:Y0C)(mh:ag)(s:Shared)(e:Nat)(s':Shared)(bU:Y1):Y1:=∀(aH:_)(s2:_)(fs:_),YRz→Yet→Yfm→(Ysi)→(Ysj)→xS C l fs e s2 s'→bU
abbrev awY(g:G)(C:Nat)(l:Y0C)(mh:ag)(s:Shared)(e:Nat)(s':Shared):Y1:=∀bU:Y1,awX g C l mh s e s' bU→bU
inductive z1(g:G)(C:Nat)(l:Y0C)(mh:ag)(s:Shared)(e:Nat)(s':Shared):Y1
 |mk (x:awY g C l mh s e s')
def vS(g:G)(C:Nat)(l:Y0C)(k f:Nat)(args:Y3)(mh:ag):Y1:=∀A s vs,Z5→Z2g→YU→YH4→YS4→codeAny Yu A YbQ (λr s'=>∃e,r=Y6y Y45∧z1 g C l mh s e s') s
abbrev awZ(g:G)(C:Nat)(env:Env)(l:Y0C)(mh:ag)(s1:Shared)(ev:Value)(s':Shared)(bU:Y1):Y1:=∀(e:_),ev=Y45→∀(aH:_)(s2:_)(fs:_),YRz→Step Y1V s1 mh s2 aH→Yfm→((∀a∈fs,a∈YCf∨ZZQ=none))→Ysj→(xR C s2 s' e∧ZSR∧fs=YCf)∨xS C Y26 fs e s2 s'→bU
abbrev C6(g:G)(C:Nat)(env:Env)(l:Y0C)(mh:ag)(s1:Shared)(ev:Value)(s':Shared):Y1:=∀bU:Y1,awZ g C env l mh s1 ev s' bU→bU
theorem Nw{f:Nat}{l:Y0C}{p:YSp}(ao:ZUb)(K:ZG)(hlen:YSX)(hh:YW7)(h:∀(A:Around)env hC body s s1,ZWe→Z4z→(A.deeper env).frames=ZaQ→(∀e∈l,ZlM)→ZST→Zdg):vS g C l (k+1) f args mh:=λA s vs aG l4 ae dN bz=>
 EZ ao K hlen hh aG ae bz λenv hC body s1 ar I=>by
  have tY:=Ygk;refine Yg;intro aC0 aC1 aC2;refine wpAny_mono (h A env hC body s s1 ar I tY (λe he L eW jO=>by
   refine YM;obtain⟨O,fA,il,O,O,o,es,ep,gD,O⟩:=dN e he;refine Yb;have kd:=c4 eW il;subst kd;exact g7 gD (I.8 _ jO)) (dN.step I.7)) Y0E λev s' z=>?_
  refine bp λax=>z _ λe aw0 aH s2 fs sW eX Ma tZ hh Cd=>?_;subst aw0;refine Yb;have ends:∀s4,Zeo→∃bk,(Y6y Y45:Result)=Y6y (Y0 bk)∧z1 g C l mh s bk s4:=λs4 F=>⟨e,rfl,⟨λO bA=>bA aH s2 fs sW (Step.unfresh (wr:=Y1V) (Yua ZMo) I.8:Yet) Ma (λa aD=>YzF YBa Zk5) hh F⟩⟩
  ·rcases Cd with⟨M,aw1,Ms⟩ | F
   ·exact awU tY aw1 M λs4 F=>ends s4 (aa Ms F)
   ·exact awW tY I.9 F ends
  ·obtain⟨bk,rJ,k9⟩:=yf q;rcases dz rJ with bS | bS
   ·subst bS;exact YJ (I.8 a (YY (c4 k9 I.9)))
   ·exact YY (DB ⟨bk,bS,k9⟩)
  ·cases bS:Y0u with
   |none=>rfl
   |some o=>exact(I.7.3 a o bS).elim Zjo
theorem aw2{pn:Ctx}{b:Ze}{Q:Flow→Z6i}{E:Value→Z6i}:∀(a:Ze)(p:Pos)(s:Shared),Sem.wp M pn YUN (λf p s=>match f with | Y8U=>Sem.wp M pn YUO Q E p s | f=>Q f p s) E p s→Sem.wp M pn ZNi Q E p s:=by
 intro a
 induction a with
 |nil=>exact λp s h=>h
 |cons st a ai=>
  intro p s h;rw[execs_cons,NN]at h;refine acY Oj (kK (execs_cons ..) ZCi);refine abZ M pn _ (λf dV s' h'=>?_) ZgI _ _ h
  cases f with
  |next=>exact ai dV s' h'
  |_=>exact h'
theorem Nx{a b:Ze}{Q:YdF}{E:Y8}(h:wpAny M A YUN (λf s1=>match f with | Y8U=>wpAny M A YUO Q E s1 | f=>Q f s1) E s):wpAny M A ZNi Q E s:=λpn p Ef=>
 aw2 a p s (abZ M pn _ (λf dV s' h'=>by
  cases f with
  |next=>exact h' pn dV Ef
  |_=>exact h') ZgI _ _ ZPr)
abbrev aw3(g:G)(f C:Nat)(n nm:Str)(j:Nat)(bU:Y1):Y1:=∀(hV:_)(iJ:_)(eB:_)(fd:_)(pre:_)(t0:_)(ax:_)(np:Pos)(mD:Pos)(sj:Pos)(kQ:Pos)(jp:Pos)(lP:Pos)(pos:Pos),Ykf→fd.body=Y66 (pre++[YbN])→pre.length=j→Ypb→bU
abbrev aw4(g:G)(f C:Nat)(n nm:Str)(j:Nat):Y1:=∀bU:Y1,aw3 g f C n nm j bU→bU
abbrev o4(g:G)(f C:Nat)(n nm:Str)(j:Nat):Y1:=iG (aw4 g f C n nm j) YW9 Y5v Yy7 Yy6
def t2(n nm:Str)(j:Nat)(st:S)(hC:bP)(b:Ze):Bool:=rz st br hC YSg&&(I2 hC nm&&(ZQX==Y27))
variable{vT:Nat}
theorem abz{B f:Nat}{c:bP}{l:Y0C}{n nm:Str}{st:S}{body:Ze}(K:YN)(Z:YB7)(t4:ZW5)(ar:t2 n nm j st c body=true)(I:Js g A (k+2) f ns args mh s env c body s1)(jO:∀e∈l,ZlM)(dN:ZST)(af:ns[i]?=some nm)(h:a6 Y5T st YHw mh (λr m=>Y9O∧∃v,YMz=some (some (Y4 v))) Y28):Zdg:=by
 refine t4.1 _ λhV iJ eB fd pre t0 ax np mD sj kQ jp lP pos e8 ah aE bq=>?_;obtain⟨o',Ny,il,ck,gD,O⟩:=I.1;have aJ:=YTI;subst aJ;have aC:=YRS;subst aC;have c1:=YeL;subst c1;have m2:=Y8z;have lj:=cL m2.2;have aw5:(pre++[Stmt.Raise YXA none pos]).take j=pre:=by exact eT aE (List.take_left)
 rw[aw5]at m2;refine Nx (wpAny_mono (Bm st K I.3 m2.1 h Y5L s1 I.4 I.5 ZCK) Yrq Y0E);obtain⟨aH,z⟩:=z;have q:=z.3
 cases eA with
 |ret v=>exact YPE
 |brk=>exact q.elim
 |cont=>exact q.elim
 |next=>
  refine YM;obtain⟨dv,vU,em,v,aO⟩:=q;refine Yb;subst em;have lk:=YQz;refine wpAny_execs_cons (wpAny_mono (awP (c:=c) (Q:=Y28) (E:=C6 g C env l aH s1) K Z I.4 z.1 vU (rq lk (eq_of_beq lj.2)) t4.3 t4.2 bq (Rn lk (aV Z4b af) aO lj.1 t4.5 t4.4 Zn) λe s3 s4 dB fJ M=>?_) Y0E Y33);have st:=Y0m (fJ.weaken (Y:=Y1V) Y34);have GZ:=js.cons (ns:=c.ns) (r:=dv) (vU.ez fJ) I.9 (dN.Nu st jO);exact(λO bA=>bA e rfl aH s3 YCf dB st aB.refl (λO aD=>YY aD) GZ.all (YY ⟨M,GZ,rfl⟩))
def G0:S:=Y0A yE Z9T Ycg (UX) YO
def G1:S:=Yi Y63 Y3n (.cV YJk (UP) YO (.cV YQ1 (UQ) YO (.cV Yc5 (UR) YO (.cV Yc4 (US) YO (.cV Z1T (UT) YO YO)))))
def abA:S:=Yi Y63 Y3n YO
theorem aw6{B:Nat}{l:Y0C}{h u:Nat}{R:eC}{n:Str}(K:YN)(Z:YB7)(t4:Yni)(ao:Yn6)(Y:ZVN)(ar:YVq):ZdA:=
 Nw (k:=k+2) ao K rfl Y2 λA env hC body s s1 jU I l4 jO dN=>abz (i:=1) K Z t4 jU I jO dN rfl (by
  refine Gk (XD rfl ar rfl Y.1 rfl ⟨_,_,Y.2,k0 YjQ ZjD (λO r m=>Y9O∧∃cT eY,r=[Y3L,some YQD,cT,eY,none]) ⟨rfl,none,none,rfl⟩ (λO O O z=>aa z.1 (⟨0,Y.2⟩)) ZiC Y3k⟩)
  ·refine YM;obtain⟨rfl,cT,eY,rfl⟩:=z;refine Yb;have aM:j<4:=jK YgV;have vu:cB[j]?=some (cB[j]' YvN):=dy _;have ne:∀q∈cB,q.1≠13:=YC
   refine cy (en (fo (aw (kA rfl (Y.3 j _ vu) rfl (aw (bc rfl (aS ⟨rfl,iP (ic λz=>ne _ ZNY Z8U) (e8 _ _ ⟨rfl,_,_,rfl⟩)⟩)))))))
  ·obtain⟨rfl,cT,eY,rfl⟩:=z;exact⟨rfl,13,rfl⟩)
theorem aw7{B:Nat}{l:Y0C}{n:Str}(K:YN)(Z:YB7)(t4:Ynh)(ao:Yn5){x:V}{o:V}:vS g C l (k+3) 381 [o,Z2M] mh:=
 Nw (k:=k+2) ao K rfl Y2 λA env hC body s s1 jU I l4 jO dN=>abz (i:=2) K Z t4 jU I jO dN rfl (by
  have ne:∀j,j≠18→∀{Qn:hg}{Q':Yj}{b st:S}{m:ag},a6 Y5T st ZA2 m Qn Q'→a6 Y5T (.cV (.op oEq [v 2,bK j]) b YO st) ZA2 m Qn Q':=λj aM{Qn Q' b st m}q=>
   en (fo (aw (bc rfl (aw (cst (aS ⟨rfl,iP (ic λz=>aM (V.str_inj z).symm) q⟩))))))
  exact el (bQ (aw (bc rfl (aw (cst (aS ⟨Y4Z,_,rfl,ne 19 Yf (ne 6 Yf (ne 27 Yf (ne 10 Yf (ne 24 Yf ⟨rfl,18,rfl⟩))))⟩)))))))
abbrev aw8(g:G)(bU:Y1):Y1:=∀(hV:_)(iJ:_)(eB:_)(fd:_)(G2:_)(test:_)(o:_)(a:_)(rest:_)(apos:Pos)(pos:Pos)(cO:Pos)(ky:Pos),g.K.lookup 381=YE4→fd.body=Y66 (G2::.If test [YEs (some (Y0Q (Y2f o "once" apos) [a] [] pos)) cO] [] ky::rest)→Y8F→YB8→YnX→rz abA br YZK [G2]=true→hZ YJk br YZK test=true→hZ (v 0) br YZK o=true→hZ YA1 br YZK a=true→bU
abbrev aw9(g:G):Y1:=∀bU:Y1,aw8 g bU→bU
abbrev G3(g:G):Y1:=hR (aw9 g) (mZ g.K 381 rP 2 Y0U=true)
theorem z1.body{l:Y0C}{ev:Value}(st:Step Y1V s1 mh s2 mh)(F:ZfU):C6 g C env l mh s1 Y45 s':=by
 refine bp λax=>F.1 _ λbF s3 fs nU fJ tM tZ hh F=>ax ((λO bA=>bA e rfl bF s3 fs nU (st.trans (fJ.weaken Y34)) tM (λa aD=>YzG id YBa) hh (YJ F)))
 cases bS:ZZQ with
 |none=>rfl
 |some o=>exact Yz4 Zjo
theorem axa{l:Y0C}{R:eC}(K:YN)(D:G3 g)(once:∀{l:Y0C},ZdA)(ar:YVq):vS g C l (k+4) 381 [Y8V,Z2N] mh:=
 Nw (k:=k+3) D.2 K rfl Y2 λA env hC body s s1 O I l4 jO dN=>by
  refine bp λax=>D.1 _ λhV iJ eB fd G2 test o a rest apos pos cO ky e8 ah xQ C7 hh m2 lj iZ nN=>?_;obtain⟨o',Ny,il,ck,gD,oy⟩:=I.1;refine Yb;have aJ:=YTI;subst aJ;have aC:=YRS;subst aC;have c1:=YeL;subst c1;subst oy;have lk:=YQz;refine Nx (a:=[G2]) (wpAny_mono (Bm abA (Qn:=λr m=>Y9O∧r=[Y3L,some Z2N,some YcS]) (Qr:=Y28) K I.3 m2 ?_ Y5L s1 I.4 I.5 I.6) Yrq Y0E)
  ·exact el (bQ (aw (bc rfl (aw (cst (aS ⟨Y4Z,_,rfl,Zn⟩))))))
  obtain⟨aH,z⟩:=z;have q:=z.3
  cases eA with
  |ret v=>exact YPE
  |brk=>exact q.elim
  |cont=>exact q.elim
  |next=>
   obtain⟨dv,vU,em,fB⟩:=q;subst em;subst fB;refine wpAny_execs_cons (wpAny_If (wpAny_mono ((oF YJk).2 (Q:=λb m=>Y6G∧m=aH) K lk lj (fo (aw (bc rfl (aw (cst (aS YtG)))))) Y5L s2 I.4 z.1 vU) (λb s3 iX=>?_) Y0E));obtain⟨bF,iX⟩:=iX;obtain⟨cM,em⟩:=iX.3;subst cM;subst em;have fJ:=Y0m (iX.2.weaken (Y:=Y1V) Y34);refine aa Y0c Yg;intro awR awS aC3;refine wpAny_execs_cons (wpAny_Return_some (wpAny_mono (aby (Q:=Y28) (E:=C6 g C env l bF s1) (args:=[YQD]) (f:=388) (C0:=405) K YC C7 xQ hh YwU I.4 iX.1 (vU.ez iX.2) ar YyE ?_ ZkK) Y0E Y33))
   ·exact((qB [YA1]).1 K lk ZTt (aw (bQ (aw (bc rfl (aw (cst (aS ⟨Y4Z,_,rfl,YgJ⟩))))))))
   ·have ru:=fJ.trans (mT.weaken (Y:=Y1V) Y34);exact wpAny_call (codeAny_mono (once _ s4 xs I.4 l4 eb (js.cons (vU.ez (iX.2.trans mT)) I.9 (dN.Nu ru jO)) bg) λr s' z=>by
     obtain⟨e,rfl,F⟩:=z;exact F.body (ev:=Y45) ru)
def C8:YH:=["plans","plan"]
abbrev axb(g:G)(n:Str)(bU:Y1):Y1:=∀(hV:_)(iJ:_)(eB:_)(fd:_)(o:_)(a:_)(ret:_)(ax:_)(apos:Pos)(pos:Pos)(ep:Pos)(np:Pos)(mD:Pos)(z2:Pos)(ar:Pos)(z3:Pos),ZOr=YE4→fd.body=Y66 Z9Q→Y8F→YB8→YnX→hZ (v 0) br YtD o=true→hZ (v 1) br YtD a=true→YLl=Y27→bU
abbrev Nz(g:G)(n:Str):Y1:=∀bU:Y1,axb g n bU→bU
abbrev z4(g:G)(C:Nat)(n:Str):Y1:=hr Z5p (mZ g.K 692 C8 2 Y0U=true) YW9 Y5v
abbrev axc(g:G)(l:Y0C)(mh:ag)(s s':Shared)(bU:Y1):Y1:=∀(aH:_)(s2:_)(fs:_),YRz→Yet→Yfm→(Ysi)→(Ysj)→YaY→Yor→ZZ2→ZZ4→bU
abbrev axd(g:G)(l:Y0C)(mh:ag)(s s':Shared):Y1:=∀bU:Y1,axc g l mh s s' bU→bU
abbrev axe(g:G)(C:Nat)(l:Y0C)(mh:ag)(s:Shared)(env:Env)(e:Nat)(s':Shared)(bU:Y1):Y1:=∀(bF:ag)(s3:Shared)(fs:YV),a5 g bF s3→Step cX s mh s3 bF→aB no mh bF→Ysi→(∀a∈fs,vR g bF s3.heap a)→xS C Y26 fs e s3 s'→bU
abbrev abB(g:G)(C:Nat)(l:Y0C)(mh:ag)(s:Shared)(env:Env)(e:Nat)(s':Shared):Y1:=∀bU:Y1,axe g C l mh s env e s' bU→bU
theorem z1.inner{l:Y0C}(st:Z83)(mU:YGa)(eW:Yoo)(F:ZfU):ZDN:=by
 refine bp λax=>F.1 _ λbF s3 fs nU fJ tM tZ hh F=>ax (λO bA=>bA bF s3 fs nU (st.trans fJ) tM (λa aD=>YzF (λq=>(yf q).elim λbk z=>(dz z.1).elim (λbS=>YJc) λbS=>YY (DB ⟨bk,bS,z.2⟩)) Zk5) hh F)
 ·exact c4 (aV bS z.2:env.frame=Y0l) mU▸eW
 ·cases bS:Y0u with
  |none=>rfl
  |some o=>exact Yz4 λo' z=>cW (cA q z).symm
abbrev axf(n:Str)(hC:bP)(body:Ze)(bU:Y1):Y1:=∀(o a:aI)(ret:St)(ax:Nat)(apos pos ep np mD z2 ar z3:Pos),body=Z9Q→Y8F→YB8→YnX→hZ (v 0) br hC o=true→hZ (v 1) br hC a=true→ZQX=Y27→bU
abbrev axg(n:Str)(hC:bP)(body:Ze):Y1:=∀bU:Y1,axf n hC body bU→bU
theorem Nz.body{n:Str}{hC:bP}{body:Ze}(X:Z5p)(bd:∃o fd,ZOr=YB∧ZW1∧ZOR∧hC=YtD):axg n hC body:=by
 refine X _ λhV iJ eB fd o a ret ax apos pos ep np mD z2 qw z3 e8 ah xQ C7 hh iZ nN si=>?_;obtain⟨o',Ny,il,ck,gD,rfl⟩:=bd;have aJ:=YTI;subst aJ;have aC:=YRS;subst aC;exact(λO bA=>bA o a ret ax apos pos ep np mD z2 qw z3 ((Oz YTK).symm) xQ C7 hh iZ nN si)
theorem abC{fs:YV}(sW:YRz)(hh:∀a∈fs,YNZ)(st:YaY)(up:Yor)(cR:ZZ2)(lR:ZZ4):a5 g aH s'∧Step Yzj s2 aH s' aH:=by
 have kN:∀{h:Heap}{o:Obj}{es:Array DictEntry}{ep:Nat},YWC→YNy:=λhd k=>k.elim (λz=>YIO λvs z=>by replace z:=aQ hd z;cases z) λz=>z.elim λxs z=>z.elim λn z=>by
  replace hd:=bN z.1 hd;cases hd
 refine sL (wr:=Yzj) sW (λb ah=>⟨YV1.1,YV1.2.1⟩) YOD (λb o nb e=>st b o (hideAll_get _ e nb)) YOD cR lR
 ·obtain⟨O,O,o,es,ep,aA,hd⟩:=YV1;exact⟨o,aA,kN hd⟩
 ·obtain⟨O,O,o,es,ep,aA,hd⟩:=YV1;obtain⟨eB,h'⟩:=up b o aA λvs q=>by replace q:=aQ hd q;cases q
  exact⟨_,h',kN (o:={o with slots:=eB}) hd⟩
theorem refused{B:Nat}{l:Y0C}{n:Str}{w:V}(K:YN)(Z:YB7)(ny:YNs)(C9:Ysu)(ar:YnH){vs:Yn}(aG:YjL)(l4:Z2g)(ae:YU)(dN:YH4)(bz:a9 s.heap vs YRu):
  codeAny Yu A (Y5y YQ3 YtJ) (λr s'=>YoZ∧axd g l mh s s') s:=
 EZ (k:=k+4) ny.2 K rfl Y2 aG ae bz λenv hC body s1 O I=>(ny.1.body I.1) _ λo a ret ax apos pos ep np mD z2 qw z3 cM xQ C7 hh iZ nN si=>by
  refine ix cM Y0K;intro aC4 aC5;have lk:=YQz;have axh:de g env hC.ns (ta C8.length YRu) mh s1:=cb I.2 I.6;have tY:=Ygk;have eW:Yoo:=Z4c;refine wpAny_execs_cons (wpAny_Try_except Yg);intro ahs aht ahu;refine wpAny_execs_cons (wpAny_mono (Q:=Y28) (E:=λev s'=>∃e,ev=Y45∧ZDN) (wpAny_Expr_any (aby (Q:=Y28) (args:=[w]) (f:=381) (C0:=405) K YC C7 xQ hh YwU I.4 I.5 axh ar YyE ?_ ZkK) (by refine gz I.6.1 ?_;rfl) rfl) Y0E λev s3 z=>?_)
  ·exact((qB Zh).1 K lk ZTt (aw (bc rfl YgJ)))
  ·exact wpAny_call (codeAny_mono (C9 _ s4 xs I.4 tY eb (js.cons (I.6.ez mT) I.9 ((dN.step I.7).step mT)) bg) λr s' z=>by
    obtain⟨e,rfl,F⟩:=z;exact⟨e,rfl,F.inner (I.7.trans mT) I.9 (Z4c:Yoo)⟩)
  ·refine YM;obtain⟨e,rfl,Cd⟩:=z;refine Cd _ λbF axi fs nU fJ tM tZ hh F=>?_;obtain⟨⟨a0,Nv⟩,up,cR,lR⟩:=F;refine ax (wpAny_looks_onW tY I.9 Nv λda axj abD=>Yg);intro ahE ahF ahG;refine wpAny_landsW axj λfG NA abE=>?_;have iG:=abC (s':={s3 with heap:=fG}) nU hh NA.1 (up.trans (abD.trans abE)) cR lR;have LC:=Y4g iG.1.1;refine bp λax=>Z.2 _ λawQ q N bs sn sub vQ col oL p4 dC du gs gZ q4=>?_;obtain⟨ob,wo,AK⟩:=NA.there;obtain⟨p,loose,rn,pq,T0⟩:=K.1.2;refine Yb;have abF:=T0.keeps (h':=fG) iG.1.1;refine Yg;intro aC6 aC7 aC8;exact wpAny_handleBy_cons (codeAny_handlers_test (Name_function_global I.6.1 (rq lk si) (loadGlobal_global (env:=env) (aj I.6.2 abF.g) (mg_of LC abF.g ny.3) (wpAny_excMatches_sub_self (LC _ _ q4) wo AK (rfl) (codeAny_handlers_suite (lands_againW NA λO axk axl=>wpAny_execs_cons (wpAny_Return_some (wpAny_Constant_bool (⟨rfl,λO bA=>bA bF axi fs nU fJ tM tZ hh axk.1 (up.trans (abD.trans (abE.trans axl))) cR lR⟩))))))) ny.4)) (by intro q;cases q)
theorem axm{fs:YV}(aN:de g env ns r aH s2)(hh:∀a∈fs,YNZ)(st:YaY)(up:Yor)(tup:eU s2.heap s'.heap):de g env ns r aH s':=by
 have cell:∀{a:Nat}{v:Y0F},s2.heap.IsCell a v→s'.heap.IsCell a v:=λ{a v}h=>by
  obtain⟨o,aA,hd⟩:=h;refine⟨o,st a o (hideAll_get _ aA Zip),hd⟩;obtain⟨O,O,o',es,ep,m7,u3⟩:=hh a hm;replace hd:=bN (c4 aA m7) hd;replace u3:=aQ hd u3;cases u3
 exact⟨aN.1,aN.2,aN.3,aN.4,aN.5.imp λm q=>⟨up.ns q.1,λi n v ak av aP=>Yav λO z=>⟨z.1,Y9e tup⟩⟩,aN.6,
  λi n v ak av aP=>(aN.7 i n v ak av aP).imp λc q=>q.imp λy q=>⟨q.1,cell YG,YDt tup⟩,
  λn c h=>⟨ZBg.1,ZBg.2.imp λO z=>cell z⟩,aN.9⟩
abbrev abG(g:G)(env:Env)(ns:YH)(r:bG)(mh:ag)(s s':Shared)(ab:ag):Y1:=hr YAL (de g env ns r ab s') YRe Y0G
theorem axn{B:Nat}{c:bP}{n:Str}{w:V}{fn:Str}{p:Pos}{es:Ye}{E:Y8}(K:YN)(Z:YB7)(ny:YNs)(hm:br.gl.lookup fn=some YQ3)(aR:c.cN.lookup fn=Y27)(ah:(fn==Y1l)=false)(hs:Y5f)(L:ZI)(C9:Ysu)(ar:YnH)(aG:YjL)(l4:Z2f)(mU:YGa)(ae:YU)(aN:Y4J)(h:ZOz){Q:Y8}(aF:∀s' ab,ZDO→Q Y0h s'):
  wpAny Yu A (eval (Y0Q (Y09 fn p) es [] pos) env) Q E s:=by
 obtain⟨x,aq,axo⟩:=K.1.4 fn _ hm;refine wpAny_Call_NameR (wpAny_mono (Ew (P:=λC5 s1=>C5=YQ3∧s1=s) K.1 ae aN YN1 ah aq ⟨axo,rfl⟩) (λC5 s0 z=>?_) Y0E);obtain⟨rfl,rfl⟩:=z;refine ix YDk (callWith_of (P:=Yrw) Yi4 (keeps_K (K.2 fn 692 hm)) (uH lh (wpAny_mono (rp h aG ae aN) Zl5 Y0E)));refine YM;obtain⟨aH,y⟩:=y;obtain⟨vs,bg,em,ev⟩:=y.3;refine Yb;subst em;subst ev;refine⟨Y4g Y1v,wpAny_call (codeAny_mono (refused K Z ny C9 ar aG l4 y.1 (js.cons (aN.ez y.2) mU YYc) bg) λbI s' z=>YM)⟩;obtain⟨rfl,z⟩:=z;refine z _ λbF s3 fs nU fJ tM tZ hh abH up cR lR=>Yb;have iG:=abC nU hh abH up cR lR;have ru:Step Y1V s2 aH s' bF:=Step.unfresh (wr:=λa=>ZFi) ((fJ.weaken (Y:=λa=>Yjv∨ZFi) Y34).trans (iG.2.weaken λa aD=>YzG YBa λq=>⟨aD,q⟩)) λb ah=>Y2n
 ·exact aF s' bF ⟨iG.1,axm ((aN.ez y.2).ez fJ) hh abH up iG.2.4,(y.2.weaken Y34).trans ru,tM⟩
 ·obtain⟨bk,rJ,k9⟩:=yf q;replace k9:=aQ mU (bN (bR rJ) k9);exact YY (cu k9).symm
abbrev axp(g:G)(bU:Y1):Y1:=∀(hV:_)(iJ:_)(eB:_)(fd:_)(pre:_)(ret:_)(Dc:_)(f6:_)(t5:_)(ek:Pos)(cO:Pos)(ky:Pos)(kS:Pos)(lN:Pos)(s8:Pos)(s9:Pos)(Dd:Pos),ZOs→fd.body=Y66 (pre++Z9O)→ZVn→ZVo→rz FQ br YBd pre=true→ZZ1→ZYI→ZYH→ZOT→bU
abbrev axq(g:G):Y1:=∀bU:Y1,axp g bU→bU
abbrev z5(g:G):Y1:=hR (axq g) ZUa
theorem abI{B:Nat}{c:bP}{n:Str}{w:V}{p yK:Pos}{es:Ye}{E:Y8}{Q:Y1n}(K:YN)(Z:YB7)(ny:YNs)(aR:c.cN.lookup YtV=Zaj)(hs:Y5f)(L:ZI)(C9:Ysu)(ar:YnH)(aG:YjL)(l4:Z2f)(mU:YGa)(ae:YU)(aN:Y4J)(h:ZOz)(aF:∀s' ab,ZDO→Q false s'):
  wpAny Yu A (isTrue (Y8R .Not (Y0Q (Y09 "_law_is_refused" p) es [] pos) yK) env whole) Q E s:=
 wpAny_isTrue_Not (wpAny_isTrue_value (axn K Z ny YC aR YC hs L C9 ar aG l4 mU ae aN h λs' ab b=>wpAny_truthy_bool (aF s' ab b)) (QP _ rfl))
theorem law_fin{B:Nat}{n:Str}(K:YN)(F:YZ)(Z:YB7)(ny:YNs)(D:G3 g)(De:Yni)(t6:Yn6)(Df:Ynh)(iL:Yn5)(z6:z5 g)(hs:ZUw)(af:∀v∈vs,YEA)(aE:ZdM)(aG:dd A (k+41))(l4:A.frames=YXN)(ae:YU)(bz:a9 s.heap xs [YQA]):
  codeAny Yu A (Y5y YcA Znh) (λr s'=>YoZ∧∃ab,YAL) s:=
 EZ (k:=k+40) z6.2 K rfl Y2 aG ae bz λenv hC body s1 O I=>by
  refine bp λax=>z6.1 _ λhV iJ eB fd pre ret Dc f6 t5 ek cO ky kS lN s8 s9 Dd e8 ah axr qm m2 lj iZ nN si=>?_;obtain⟨o',Ny,il,ck,gD,oy⟩:=I.1;refine Yb;have aJ:=YTI;subst aJ;have aC:=YRS;subst aC;have c1:=YeL;subst c1;subst oy;have lk:=YQz;have tY:=Ygk;refine Yg;intro RW RX RY;refine Nx (wpAny_mono (Bm FQ (Qn:=λr m=>C1 m r) (Qr:=Y28) K I.3 m2 (avQ (k:=k) K F hs af aE ZgT) Y5L s1 I.4 I.5 I.6) Yrq Y0E);obtain⟨aH,z⟩:=z;have q:=z.3
  cases eA with
  |ret v=>exact YPE
  |brk=>exact q.elim
  |cont=>exact q.elim
  |next=>
   refine YM;obtain⟨dv,vU,LE⟩:=q;refine id LE _ λbX bl R tr most cQ u c jW s' S pl axs x0 fl e0 fC e9 kj ba L CZ fB=>Yb;have lE:cI dv 8=Y3L:=by refine aT fB ?_;rfl
   refine Yg;intro aC9 aDa aDb;refine wpAny_execs_cons (wpAny_If (wpAny_isTrue_BoolOp (wpAny_allTrue_Or_cons (abI (k:=k+35) K Z ny si axr lk (axa (k:=k+35) K D (aw6 (k:=k+35) K Z De t6 L.2.3 L.5) L.5) L.5 I.4 tY I.9 z.1 vU ((qB YfU).1 K lk iZ (aw (bc lE (aw (bQ (aw (cst (aw (cst ZC3))))))))) λs3 bF gg=>wpAny_allTrue_Or_cons (abI (k:=k+35) K Z ny si qm lk (aw7 (k:=k+36) K Z Df iL) (L.no gg.4).5 I.4 tY I.9 gg.1 gg.2 ((qB YfT).1 K lk nN (aw (bc lE (aw (bQ (aw (cst (aw (bQ (aw (cst (aS ⟨rfl,ZC3⟩)))))))))))) λs4 eK nd=>wpAny_allTrue_Or_nil ?_)))));have axt:C1 eK dv:=(λO bA=>bA bX bl R tr most cQ u c jW s' S pl axs x0 fl e0 fC e9 kj ba ((L.no gg.4).no nd.4) CZ fB)
   refine aa YDR (wpAny_execs_nil (wpAny_mono (Bm FO (Qn:=Y28) (Qr:=λv O=>v=Y0h) K I.3 lj (avK (k:=k) K F axt Zf) Y5L s4 I.4 nd.1 nd.2) (λeA s5 y=>?_) Y0E));obtain⟨i0,y⟩:=y;have q:=y.3
   cases eA with
   |ret v=>exact q.elim λw q=>⟨congrArg (λx=>(.ok (YS x):Result)) ((aV q.2 q.1:aK s5.heap v Y0h):v=Y0h),i0,y.1⟩
   |brk=>exact q.elim
   |cont=>exact q.elim
   |next=>exact YPE
def axu:S:=YS (Y6w (.op wO [v 0,bK 0]) (.op Sl [ZF abb YT ZQ 1 [] [.or (Ya avX (v 0) []) (.op avY YT)] (v 0),Y0x]))
def axv:YH:=["text"]
def t7(mh ab:ag):Y1:=Y0G∧∀b t a,YB2→Y1y≠YpF
theorem t7.refl:t7 mh mh:=⟨aB.refl,λb t a h e=>by replace e:=aQ h e;cases e⟩
theorem t7.new(h:Ypc){b:Nat}{l:Y3}(ah:Y1y=none):t7 mh (upd ab b Yb7):=⟨h.1.trans Y11,λc u a ao e=>by
 by_cases q:c=b
 ·replace e:=aQ Y6J Y5W;exact ct.noConfusion ZPA.2
 ·replace e:=aQ Y7g e;exact h.2 c u a ao e⟩
theorem t7.abs(h:Ypc)(ae:YAL):Y4D:=⟨Y5U,λb o e x aq=>Y7R b o e x (h.1 b x aq rfl),λa t o e=>by
  have z:=Y7S a t o (h.1 a _ e rfl)
  cases o with
  |obj C vs=>
   obtain⟨d,u,ak,av,aP⟩:=z;refine⟨d,u,ak,?_,aP⟩
   cases q:Y6W with
   |none=>exact absurd av (h.2 d u a q)
   |some x=>exact cA (h.1 d x q rfl) av
  |_=>exact z,YFv,YFw⟩
theorem aU.forget{f:Nat}(h:aU g k f args mh λv ab=>Ypc∧Y8e):YSK:=λA s vs aG ae bz=>
 codeAny_mono Yl6 λr s' z=>by
  cases r with
  |error e=>exact z
  |ok eA=>
   cases eA with
   |ret v=>
    obtain⟨ab,z⟩:=z;obtain⟨w,rw,l,q⟩:=z.3;exact⟨mh,l.abs z.1,⟨Z4,YrU,z.2.3,YIN⟩,w,rw,q⟩
   |_=>exact z
theorem axw{cl:Calls}{e elt:E}{ifs:Yv}{t:dY}{own:Nat}(h:Zd r mh λv ab=>v.onStr False λn=>YNt∧∃P:Y1O,P YKa [] ab∧YmL):(bH cl (ZF abb [e] t own caps ifs elt)).1 r mh Q:=h
theorem axx(K:YN)(hf:yW g.K br 79 axv 1 axu=true){n:Nat}(az:ZQb)(h:Z6t):ZC9:=by
 refine aU.forget (gJ hf K rfl Y2 (cZ (aa7 (bQ (aw (bc rfl (aw (cst (aS ⟨rfl,lS (by rw[(aa9 (P:=λn=>ZFy) az YC YC YC YC:ZFy)];rfl) (bQ (aw (axw (bc rfl ⟨az,zh YKa Y9i [] (λm=>Y9O) Z0 YIb rfl (λv aO acc m N O e cf=>?_) ZjU⟩))))⟩)))))))))
 ·subst e;have aJ:=YG8;subst aJ;refine t1 ⟨az,rfl,az,az,?_⟩;have:=cf m rfl;replace this:=aQ Y1U this;exact this
 ·subst e;exact λb1 ip=>⟨0,aw (bQ (aS λO d7=>⟨0,aS ⟨_,_,YTa,_,_,Yc,Zf,(t7.refl.new ip).new d7,h⟩⟩))⟩
def abJ(K:Frag):Bool:=((br.gl.take 25).all λx=>x.2.oi false λa=>(nsIn K mainGlobals x.1==Zaa)&&keepIn K YA)&&((br.eA.all λx=>classOk K x.1 x.2)&&((br.mt.all λx=>(br.eA.lookup x.1).elim false λl=>PK K x.1 l Y2L ZJ)&&((yu.all λn=>nsIn K mainGlobals YD4==Y3M))))
def Dg(K:Frag)(h:Heap)(n:Str)(v:V):Y1:=∃x,nsIn K mainGlobals n=YXL∧Y2G
theorem axy{l:List (Nat×α)}{n:Nat}{a:α}(h:l.lookup n=Y0l):(n,a)∈l:=by
 induction l with
 |nil=>cases h
 |cons x l ai=>
  replace h:=YFs;by_cases q:n=x.1
  ·replace h:=Yky;exact ZKz
  ·replace h:=Ykv;exact ZMP
theorem axz(h:abJ g.K=true)(X:ZOp)(T:ZmW)(lo:YEW)(eA:∀C,YGg=(br.eA.lookup C).getD [])(t6:Dg g.K g.h₀ "ORDERS" Ycb)(cf:Dg g.K g.h₀ "_law_names" Ycc):YN:=by
 refine Zdf;have EN:∀x∈Yhz,∃a,x.2=YA∧nsIn g.K mainGlobals x.1=Zaa∧ZTG:=λx aq=>by
  have z:=ju bD x aq
  cases q:x.2 with
  |ref a=>
   replace z:=bN q z;exact dG z λbD bC=>⟨a,rfl,Y97,bC⟩
  |_=>replace z:=bN q z;exact nb z
 have abK:∀n v,YEi∈br.gl→YEi∈Yhz∨YEi=Yz1∨YEi=Yz2:=λn v hm=>by
  have e:br.gl=Yhz++[Yz1,Yz2]:=rfl;replace hm:=bL e hm;refine(iw hm).imp id λq=>(dz q).imp id λq=>YG9
 refine⟨⟨X,T,lo,λn v e=>?_,λn az=>eq_of_beq (ju hJ n az)⟩,λn a e=>?_,λC l e=>?_,λC n f e=>?_⟩
 ·rcases abK n v YHR with q | q | q
  ·obtain⟨a,aJ,aC,O⟩:=EN _ q;exact⟨_,aC,show aK g.h₀ _ v by refine aL (aJ:v=YKR) ?_;rfl⟩
  ·have q:=YUl;exact aa q.1 (aa q.2 t6)
  ·have q:=YUl;exact aa q.1 (aa q.2 cf)
 ·rcases abK n _ YHR with q | q | q
  ·obtain⟨b,aJ,O,aC⟩:=EN _ q;exact aa Z8L aC
  ·exact Z8O
  ·exact Z8O
 ·exact⟨by refine aj (eA ..) YCa;rfl,ju bC _ (axy e)⟩
 ·have z:=ju d4 _ e
  cases q:Yhy with
  |none=>replace z:=ZPT;exact nb z
  |some l=>replace z:=ZPT;exact⟨l,rfl,z⟩
theorem o4.of{f:Nat}{n nm t0:Str}{hV:Value}{iJ:YeI}{eB:YQY}{fd:FuncData}{b:Ze}{np mD sj kQ jp:Pos}(h:Ykf)(ah:ZOQ)(hd:ZFl=[YbN])(aM:j≤b.length)(bq:Ypb)(gl:YW9)(dn:Y5v)(fI:Yy7)(qp:Yy6):ZW5:=
 ⟨(λO bA=>bA hV iJ eB fd YSg t0 ax np mD sj kQ jp lP pos h ZEQ (Oi aM) bq),gl,dn,fI,qp⟩
theorem z5.of{hV:Value}{iJ:YeI}{eB:YQY}{fd:FuncData}{b:Ze}{ret Dc:St}{f6 t5:Ye}{ek ky kS lN s8 s9 Dd:Pos}(h:ZOs)(ah:ZOQ)(hd:ZFl=Z9O)(ak:ZVn)(av:ZVo)(m2:rz FQ br YBd YSg=true)(lj:ZZ1)(iZ:ZYI)(nN:ZYH)(aE:ZOT)(axA:ZUa):z5 g:=
 ⟨(λO bA=>bA hV iJ eB fd YSg ret Dc f6 t5 ek cO ky kS lN s8 s9 Dd h ZEQ ak av m2 lj iZ nN aE),axA⟩
theorem axB{ws:Y8a}(I:Z4i):a9 h xs ZeQ:=by
 induction I with
 |nil=>exact a9.nil
 |cons _ _ _ ai=>exact a9.cons Y4G ai
theorem axC{B:Nat}{n:Str}{ws:Y8a}(K:YN)(F:YZ)(Z:YB7)(ny:YNs)(D:G3 g)(De:Yni)(t6:Yn6)(Df:Ynh)(iL:Yn5)(z6:z5 g)(bJ:g.h₀=s.heap)(aA:g.os=s.os)(cR:ZZ9)(eW:s.heap.IsList sc Z1)(iV:Z4i)(aE:ws.length≤63):
  codeAny Yu callerA (Y5y YcA ⟨[YQA],[]⟩) (λr s'=>YoZ∧(∀b o,YN5)∧Y4R∧s'.gens=#[]) s:=by
 have m0:∀{b x},upd ZP sc YZf b=YQ→b=sc∧x=YZf:=λ{b x}h=>by
  by_cases q:b=sc
  ·replace h:=aQ Y6J (bN q h);exact⟨q,Y5s⟩
  ·replace h:=aQ Y7g h;cases h
 have ae:a5 g (upd ZP sc YZf) s:=⟨λb o e=>bJ▸e,λb o e x aq=>by refine dU ((m0 aq).2) ?_;rfl,λa t o e=>by
  obtain⟨rfl,q⟩:=m0 e;refine aL YJE ?_;exact⟨xs,eW,axB iV⟩,cR,aA.symm⟩
 refine codeAny_mono (law_fin (k:=0) K F Z ny D De t6 Df iL z6 Yc Y8C ZEF ⟨Y2,Y2,rfl⟩ rfl ae (a9.cons Y7O a9.nil)) YsJ
 ·obtain⟨i,O,e⟩:=YU6;rw[←e];rfl
 ·obtain⟨e,ab,vQ⟩:=z;exact⟨e,λb o q=>vQ.1 b o (bJ.symm▸q),vQ.5.trans aA,vQ.4⟩
end
namespace top
mutual
example:=⟨1,1^^^2⟩
noncomputable def x:=1
def tw10566303817854944747:=1
def tw2132572172534452064:=1
def tw521189772711767535:=1
def tw7004908240525062885:=1
def tw16343458017427171125:=1
def tw13975789587015594079:=1
def tw13790148587036721687:=1
def tw17777916959871664341:=1
def tw4292971450856153908:=1
def tw4093954228719232537:=1
def tw3002420042466126908:=1
def tw5729745157918896202:=1
def tw13350980499027453880:=1
def tw11937090404760201304:=1
def tw2031168391782037587:=1
def tw1880862225633710185:=1
def tw16472014719743838874:=1
def tw16028667926933547003:=1
def tw12857620731127765015:=1
def tw5832622951224121472:=1
def tw11674742375332813423:=1
def tw16395132551660934125:=1
def tw8902991000013608844:=1
def tw15383745732662625412:=1
def tw16638616803653814301:=1
def tw4800881394078881586:=1
def tw3859489544441860629:=1
def tw10845836190352346787:=1
def tw9424423819971481336:=1
def tw633961789465825759:=1
def tw8144437124540616393:=1
def tw5003038185343151314:=1
def tw2359081663065897023:=1
def tw15696502540806291029:=1
def tw4285722769654724837:=1
def tw9600408958321216034:=1
def tw16475489246628699285:=1
def tw17699669086793706834:=1
def tw15963853514978570729:=1
def tw17065051034280456960:=1
def tw9263980581303461995:=1
def tw4816845256146871343:=1
def tw17972762350735822155:=1
def tw3473794460555945794:=1
def tw6238113718227997979:=1
def tw8306190787968179902:=1
def tw18305725009010888211:=1
def tw16155562966025467390:=1
def tw10051035586589366927:=1
def tw16758545776426970997:=1
def tw11947344730461026976:=1
def tw14101459276281532819:=1
def tw11450281741638035136:=1
def tw11901713056382136138:=1
def tw1132053622761179395:=1
def tw9062527665077697634:=1
def tw2798059388790103831:=1
def tw5152142093285054322:=1
def tw7430941349426302570:=1
def tw9138502148844830937:=1
def tw9884640354352055407:=1
def tw10767748671353348481:=1
def tw12199141179112045411:=1
def tw10304773355574818972:=1
def tw15438081327507635518:=1
def tw17834423055500728160:=1
def tw18105441370092105985:=1
def tw1973894820069645125:=1
def tw5610427021895498081:=1
def tw16986057357562857111:=1
def tw1215964859883860923:=1
def tw15928221813122259498:=1
def tw18075333693788313813:=1
def tw14333863902384110815:=1
def tw8031701696515175598:=1
def tw11115634304656294934:=1
def tw17571156935954012580:=1
def tw16302189405121905674:=1
def tw2066615464823769034:=1
def tw8729440102579201365:=1
def tw10000151773839097830:=1
def tw14349018407424597674:=1
def tw11813432439359262595:=1
def tw3734097135821381683:=1
def tw208349408279511770:=1
def tw10281233747184212334:=1
def tw2173612809583765888:=1
def tw3546318007822382614:=1
def tw1877633103465907576:=1
def tw4300254131490508498:=1
def tw8100284476553614858:=1
def tw12268056824678507761:=1
def tw6537291488908412773:=1
def tw12744332421079344183:=1
def tw14854695082214763653:=1
def tw16665263771771415289:=1
def tw3848417338562682548:=1
def tw16970404784129113309:=1
def tw5818400907554657473:=1
def tw6979260324674004891:=1
def tw6174204621023576706:=1
def tw12564567286428519744:=1
def tw14626519734897933406:=1
def tw7215231071663758880:=1
def tw16051390350026224621:=1
def tw6998095514125026904:=1
def tw13790853850494499913:=1
def tw10141865158089822187:=1
def tw9201169265375263813:=1
def tw6957931927482091308:=1
def tw15363294889076991835:=1
def tw15944263967353428039:=1
def tw568811845648479667:=1
def tw12843083837792121615:=1
def tw9298004865840787183:=1
def tw14403426103380558615:=1
def tw9899525873056809382:=1
def tw11972609793873917069:=1
def tw7445900302777003939:=1
def tw1768993508556283445:=1
def tw10458966780877835800:=1
def tw2847590417677406291:=1
def tw2742400303160554442:=1
def tw13328034432266952855:=1
def tw16107959718729053754:=1
def tw16569698038338249665:=1
def tw5829728082504786859:=1
def tw4135012713791623128:=1
def tw12049451959530864647:=1
def tw1205300974904534110:=1
def tw5510773528456353374:=1
def tw3715125932595375261:=1
def tw7494371352935567935:=1
def tw12213897981784730479:=1
def tw8876392290816725482:=1
def tw1146653533374164296:=1
def tw3703912465997261676:=1
def tw15352428651415293685:=1
def tw5913804267149470210:=1
def tw8561882263934050757:=1
def tw17720068831039047267:=1
def tw13749626138748493868:=1
def tw2281374679490540812:=1
def tw2167284312673524829:=1
def tw5818288852761326319:=1
def tw1321889710237425297:=1
def tw3470174543416122611:=1
def tw10921953879312442153:=1
def tw14523424327352587759:=1
def tw2060887065158190251:=1
def tw14601770543051562241:=1
def tw9853195338022503825:=1
def tw13140326828786542489:=1
def tw4146725247025032527:=1
def tw665305837562067500:=1
def tw5621466946592860981:=1
def tw14523562576630935849:=1
def tw10235583464736365669:=1
def tw5301872647305120685:=1
def tw15776232127264149506:=1
def tw12051930166336148725:=1
def tw15968693567380849981:=1
def tw765726442734313137:=1
def tw5562675008611855350:=1
def tw16999540093264088150:=1
def tw14890431403400256923:=1
def tw5457094273938068427:=1
def tw12826770549299906837:=1
def tw10639208861176150562:=1
def tw12958658431935533636:=1
def tw10421932359841884010:=1
def tw17766975901093141987:=1
def tw14857305107324245799:=1
def tw6136537534720721980:=1
def tw8584911442712955328:=1
def tw15409862079407678573:=1
def tw3496054956826219835:=1
def tw17517157469200719435:=1
def tw10224447855012489660:=1
def tw13152269167729381717:=1
def tw14754742587949857976:=1
def tw13840699091746747764:=1
def tw1256497093593410785:=1
def tw12550150236506596709:=1
def tw12677639898438636530:=1
def tw17319556495123356376:=1
def tw6032999815510171314:=1
def tw14351324207326088087:=1
def tw16783146336373285882:=1
def tw10835283265360406922:=1
def tw7316192509656241662:=1
def tw6473416468275681636:=1
def tw8968183131928819226:=1
def tw2869683704186208260:=1
def tw4210572172408910077:=1
def tw13457364720955713546:=1
def tw5616788035221139965:=1
def tw8053444303433898870:=1
def tw9050338673998441335:=1
def tw8668963995733928498:=1
def tw17916003274494147217:=1
def tw8856036827258601485:=1
def tw16718771766187595327:=1
def tw11543662522584853678:=1
def tw12555419031055448435:=1
def tw630693125967462505:=1
def tw11605190798462803:=1
def tw7045792325866979410:=1
def tw17387093387449987635:=1
def tw7986717647494867238:=1
def tw16460906481078345535:=1
def tw3816116555587809094:=1
def tw1989182563660835524:=1
def tw14714200439050820607:=1
def tw10352046116051815951:=1
def tw17106287875927644401:=1
def tw2450537168617737364:=1
def tw6637577615778216765:=1
def tw12518509378295078899:=1
def tw17294258476364778673:=1
def tw5404525627408701881:=1
def tw16354441263580351735:=1
def tw4080974910205629970:=1
def tw10251817974646213263:=1
def tw4166898702477680596:=1
def tw11422294914085269258:=1
def tw14201795354222431000:=1
def tw4659864434596470047:=1
def tw4681080055648450332:=1
def tw10058022631926800244:=1
def tw4403984310399581989:=1
def tw14772137702585774951:=1
def tw15816288610224309924:=1
def tw9540439644754808120:=1
def tw5747984561631210852:=1
def tw13531296369470434214:=1
def tw15034522560655516900:=1
def tw10710663380935848053:=1
def tw1799893150791972194:=1
def tw3553350837345755414:=1
def tw1185908025640599726:=1
def tw13979802230140247096:=1
def tw17842157131605700252:=1
def tw9332288820214974120:=1
def tw13576554709588866993:=1
def tw2236196870325046451:=1
def tw12617241607615734789:=1
def tw15325875014381583208:=1
def tw18292218794286455172:=1
def tw8662787799961634674:=1
def tw16135901030857960676:=1
def tw10563270316943667521:=1
def tw17761583278045253839:=1
def tw14435649072803524601:=1
def tw1582896215224490779:=1
def tw7025352116649056337:=1
def tw12386880534626206653:=1
def tw7174278787114108814:=1
def tw7180339327169727898:=1
def tw11453699502411093152:=1
def tw2552208495280619736:=1
def tw9548116872026851275:=1
def tw15638574076032254683:=1
def tw13081510849750441748:=1
def tw4358691650285988494:=1
def tw2590530999271244942:=1
def tw17736152075714460416:=1
def tw3591528598837938010:=1
def tw15995848149167271659:=1
def tw16903241853203873244:=1
def tw13696825193920109314:=1
def tw1257889828201413521:=1
def tw5633613072895788440:=1
def tw5229758058594257539:=1
def tw5187232199162213377:=1
def tw10953701514260034837:=1
def tw8648676592023223974:=1
def tw2390321738916012542:=1
def tw11487323097842045720:=1
def tw17130227693291340670:=1
def tw3973854388979629583:=1
def tw4779602780188301861:=1
def tw9190772781397736551:=1
def tw5981735147869792024:=1
def tw12359816339013744056:=1
def tw17883202477362637966:=1
def tw3951318577535127796:=1
def tw3556474463313493613:=1
def tw841863616876674956:=1
def tw536803706853657370:=1
def tw6576394388358699284:=1
def tw17995580087040710135:=1
def tw1965548522181489884:=1
def tw1574084805800157497:=1
def tw18420180526964859443:=1
def tw16364859902786545777:=1
def tw12928604479176903323:=1
def tw11967060355109487576:=1
def tw9941808672574154494:=1
def tw1857844179572870231:=1
def tw11421662989391217233:=1
def tw10150841575051346588:=1
def tw626149923956320135:=1
def tw15276081835806400835:=1
def tw15579232420888848282:=1
def tw5534654762937032736:=1
def tw17138058910076776037:=1
def tw7594318647737432956:=1
def tw6644809715229568432:=1
def tw8620470675967494877:=1
def tw17884016658146628497:=1
def tw16777573669741918639:=1
def tw1336101871333357784:=1
def tw144367136773183799:=1
def tw6406678054242604970:=1
def tw4847227669690319864:=1
def tw1440417458981979506:=1
def tw8812595490529507511:=1
def tw3591354053504244187:=1
def tw9616216811378272708:=1
def tw13667679107411666030:=1
def tw15858202072961382086:=1
def tw127015856049100349:=1
def tw3551524653944770996:=1
def tw14575427462598034316:=1
def tw14040409179341469434:=1
def tw12516999980004156688:=1
def tw12538082347294821675:=1
def tw5168217950247624684:=1
def tw7408972850765985889:=1
def tw5473990105741250596:=1
def tw7607171497304258000:=1
def tw17679583741306439967:=1
def tw9132327515131269376:=1
def tw10209070706382725253:=1
def tw4233123507461079294:=1
def tw2354954774236826533:=1
def tw1598822999587244669:=1
def tw5322745007738618574:=1
def tw10009890631710923326:=1
def tw643457376458576901:=1
def tw7340839890413063115:=1
def tw6314114552039423761:=1
def tw989652509829861335:=1
def tw7275706230409431836:=1
def tw18034367746340020761:=1
def tw15440083727760513396:=1
def tw7223148041124273219:=1
def tw15089751137120053032:=1
def tw5950101519829242571:=1
def tw5653952116525803039:=1
def tw7555788285894137762:=1
def tw13001938054811645756:=1
def tw4935895127773558494:=1
def tw9557896550380895938:=1
def tw17751497582813778486:=1
def tw15923886597983379551:=1
def tw11473549551943233250:=1
def tw18208272045366686900:=1
def tw7473103189400481370:=1
def tw16241080443536127842:=1
def tw8748718884265239803:=1
def tw1530202735499281544:=1
def tw10633276546172441077:=1
def tw2059055850335726714:=1
def tw17227318624449818335:=1
def tw6986792338942341288:=1
def tw12918040259296373618:=1
def tw10253266929035873589:=1
def tw15747736695183898197:=1
def tw14860063538982701497:=1
def tw823367340911138357:=1
def tw10753131216933889316:=1
def tw16757837090424149463:=1
def tw7429595301164994342:=1
def tw7790451599684873713:=1
def tw5849966454334175603:=1
def tw10444611691960607353:=1
def tw7869916644634597583:=1
def tw8962291564290336180:=1
def tw17150486709102819674:=1
def tw11351109578956451069:=1
def tw4902697784085184246:=1
def tw413647377535720443:=1
def tw1545173250012000341:=1
def tw12956361015416726538:=1
def tw14590976145247705079:=1
def tw16933379398669410702:=1
def tw9752777256038598857:=1
def tw5961517122022696431:=1
def tw17948007346036011693:=1
def tw5067857007761187280:=1
def tw10762427235269020296:=1
def tw6789009648750997989:=1
def tw8399358099826777561:=1
def tw6788602826054735687:=1
def tw10787689851631817738:=1
def tw11059456471116068377:=1
def tw11342812077384292834:=1
def tw8436750204218394681:=1
def tw18178861665737757065:=1
def tw14209588739459627496:=1
def tw10107413807033572681:=1
def tw17437252320363192878:=1
def tw16624992058427758950:=1
def tw11745378153367087006:=1
def tw5447724677579432976:=1
def tw9772228475977979770:=1
def tw10318786220373567953:=1
def tw4525032463667256395:=1
def tw17016791072708204640:=1
def tw13210811007948171965:=1
def tw14316322753584727097:=1
def tw14892623766237675795:=1
def tw6641737377494409931:=1
def tw4514227296345098202:=1
def tw5074981210616091618:=1
def tw5742560610160955835:=1
def tw13803725551892312808:=1
def tw4774092121438658482:=1
def tw16973335206017075459:=1
def tw2394164270899882992:=1
def tw9018844094224823930:=1
def tw11646696383265305502:=1
def tw11572111180275214355:=1
def tw16967540883216359769:=1
def tw12688362620009017319:=1
def tw6237380944343322104:=1
def tw10476705880334391977:=1
def tw6841808551023361851:=1
def tw3421363785454103130:=1
def tw14926763537911541244:=1
def tw445280442123276167:=1
def tw854505233661587663:=1
def tw3193967093980051969:=1
def tw390228051793449378:=1
def tw9030478823816917489:=1
def tw18436455988228482853:=1
def tw17195100299048269596:=1
def tw1814990850196440121:=1
def tw13974102769003797688:=1
def tw15351123407209332890:=1
def tw163912900873485975:=1
def tw18124707381808123587:=1
def tw10733969131915476666:=1
def tw12902908538168188358:=1
def tw11123022429692411069:=1
def tw17100678534677701075:=1
def tw11942759146423067011:=1
def tw14020938971523290163:=1
def tw55607237529433431:=1
def tw9492194172350234375:=1
def tw6606002456939042033:=1
def tw5148066052227555432:=1
def tw7827768346438796966:=1
def tw10468760488827818621:=1
def tw4561158844671109056:=1
def tw12348931922313676524:=1
def tw10569558106764925795:=1
def tw6921242052802292327:=1
def tw1537663609479678028:=1
def tw13470704340632559980:=1
def tw8747589671234852327:=1
def tw5304958524431188055:=1
def tw5623062341943897314:=1
def tw10171357143586622507:=1
def tw2304277961439164623:=1
def tw12901981390630445424:=1
def tw14847000312772958493:=1
def tw17089418743838290962:=1
def tw2637607930223039120:=1
def tw9629323845154466031:=1
def tw14556967029381680528:=1
def tw18323861492468777637:=1
def tw11847229600219399345:=1
def tw16538046557401838581:=1
def tw9625230811557485409:=1
def tw2843268139238364847:=1
def tw17232785984132621337:=1
def tw15104300654673109495:=1
def tw12421218403726515252:=1
def tw17193377041912624992:=1
def tw7839819818863174658:=1
def tw7067367649517415538:=1
def tw5703560002966103744:=1
def tw9515872314998021679:=1
def tw1803252692605211445:=1
def tw5378089467632502573:=1
def tw4392121412701819569:=1
def tw18106397260369847346:=1
def tw14745097296005518818:=1
def tw1817466705482964078:=1
def tw17870716199811601467:=1
def tw12807726612057697314:=1
def tw1474440863725073504:=1
def tw8183734358853608566:=1
def tw1354547793471785592:=1
def tw16130458764514570213:=1
def tw814143626799000608:=1
def tw2124533867104040208:=1
def tw18212756339726134077:=1
def tw6675869478591958659:=1
def tw6268469946394325495:=1
def tw7216829507555701525:=1
def tw9426402191832578197:=1
def tw3614536281611639193:=1
def tw420310465032978019:=1
def tw81772323286808114:=1
def tw6715247557559319214:=1
def tw10232402366659447469:=1
def tw6075179600080939289:=1
def tw5588393278910953462:=1
def tw9268122148117206217:=1
def tw1164974070002119393:=1
def tw3732567466072663821:=1
def tw16755758252483531876:=1
def tw774531465980340394:=1
def tw12891618694953958263:=1
def tw2617585936269546182:=1
def tw16425556512254615334:=1
def tw10215241748254838605:=1
def tw10967717381065908690:=1
def tw6291879004882872706:=1
def tw15624169476678399799:=1
def tw17766973420474014916:=1
def tw15769138564818942050:=1
def tw11275794412542755984:=1
def tw13338891679902144755:=1
def tw14918657019616035990:=1
def tw7828815278074292299:=1
def tw17584133990204579701:=1
def tw14482614054744339948:=1
def tw1202009397182005451:=1
def tw72480060676809745:=1
def tw11042695089550079876:=1
def tw12745399379327383730:=1
def tw7567165803220911316:=1
def tw8932900932440574902:=1
def tw5636914816737475253:=1
def tw21731952007352024:=1
def tw2186587022839359540:=1
def tw8201774674864064608:=1
def tw2468074511696825768:=1
def tw18230934574480235579:=1
def tw15829578809876464852:=1
def tw7934642566933247029:=1
def tw24819456490665821:=1
def tw10094988914692631798:=1
def tw12626598181475660440:=1
def tw18154499757341482236:=1
def tw11630246761538892182:=1
def tw10911820082472526780:=1
def tw11603460709546013301:=1
def tw6991883505879560381:=1
def tw13221474131959919858:=1
def tw7493508265152591696:=1
def tw8525056165281598093:=1
def tw6741311807179157745:=1
def tw3117429252539467097:=1
def tw16986899552879100383:=1
def tw14003654322360851231:=1
def tw17163421694645828034:=1
def tw8139868229898414399:=1
def tw967226438668809532:=1
def tw14696954797618552970:=1
def tw7857265422502025840:=1
def tw7698775170400769924:=1
def tw1907660154640404895:=1
def tw3760678942998155436:=1
def tw4527597462181395907:=1
def tw4346845203115842823:=1
def tw15634951391265317273:=1
def tw2924937079759632899:=1
def tw9340465933825872828:=1
def tw3664489551972543855:=1
def tw17821042752888052904:=1
def tw5287847629270259684:=1
def tw7859129620812921826:=1
def tw5687464533073616199:=1
def tw10271058457205765910:=1
def tw1371426942132654659:=1
def tw7874819099193967623:=1
def tw2683003858826993221:=1
def tw8471810450847980311:=1
def tw15179066919290366404:=1
def tw10460277378970349390:=1
def tw9219320851941923796:=1
def tw5599315154066725791:=1
def tw14787960826969358254:=1
def tw18305795201310230813:=1
def tw147322065944840502:=1
def tw11955091422985450564:=1
def tw6054791319243155260:=1
def tw13787949552538515048:=1
def tw7996940896178408732:=1
def tw1899696750841701429:=1
def tw1451224616787749153:=1
def tw557710812052527154:=1
def tw18411503378437029776:=1
def tw5794392898259340163:=1
def tw12837838439475710570:=1
def tw6765633624655473283:=1
def tw5350250074180790176:=1
def tw14333562962749212843:=1
def tw17267502889317207895:=1
def tw3293628017222772198:=1
def tw4774366886348808681:=1
def tw7115024681683233388:=1
def tw1086406944103706513:=1
def tw9415862069046797001:=1
def tw2637391485397011969:=1
def tw12749150186008769383:=1
def tw12480099839092924133:=1
def tw2952970861071799623:=1
def tw9709091215978847155:=1
def tw2925770888664824250:=1
def tw13662078916789152284:=1
def tw11645164558420707849:=1
def tw10815754745809851965:=1
def tw12278840777136235853:=1
def tw4041124324431287800:=1
def tw13362638003374514776:=1
def tw15164046739070533756:=1
def tw12805097746503026508:=1
def tw9652109148130618321:=1
def tw17486517844360885448:=1
def tw13045462434218280821:=1
def tw9371748951443292765:=1
def tw1435030683328542103:=1
def tw16670747933352122998:=1
def tw3623494539569614636:=1
def tw16377383015023429762:=1
def tw6389275499217964917:=1
def tw11798232722194652121:=1
def tw17884187230794946231:=1
def tw3346173298411247277:=1
def tw12993393966586794319:=1
def tw11335141619044475746:=1
def tw11577714656221576102:=1
def tw9668818020323923091:=1
def tw11469050921845970758:=1
def tw3944961305390188921:=1
def tw4449022122412879137:=1
def tw13065438765151665677:=1
def tw14629704432273887227:=1
def tw4818350709159337306:=1
def tw17372380194061097867:=1
def tw13732469690578018927:=1
def tw16266046182406567281:=1
def tw18089494060836986335:=1
def tw9454247317032761345:=1
def tw4928546487708351017:=1
def tw3621918940183933423:=1
def tw10489881607586626982:=1
def tw2282897184154286639:=1
def tw6306196520602577528:=1
def tw8510952907010044682:=1
def tw1585130887533889684:=1
def tw14106752522041834521:=1
def tw3703398445531415504:=1
def tw3468775586254522200:=1
def tw7169288159835523660:=1
def tw10325756141927070261:=1
def tw14245419377967504630:=1
def tw678918350425922230:=1
def tw15615271280030099989:=1
def tw5837865806460918654:=1
def tw1270794633727948117:=1
def tw2376128004495336652:=1
def tw3037773497552543465:=1
def tw708343306878879310:=1
def tw1725240627391621855:=1
def tw181148784610335781:=1
def tw10611451711877044877:=1
def tw6568417982441279615:=1
def tw12679584841122526521:=1
def tw11508622219647577818:=1
def tw6233042368526273865:=1
def tw12414713328683383062:=1
def tw17082045657299507438:=1
def tw16807963973002768947:=1
def tw727307439833339266:=1
def tw11987071251158246107:=1
def tw9832445447684746564:=1
def tw3319630179170076826:=1
def tw2678565742616173392:=1
def tw12190293046932091602:=1
def tw7562737545421388992:=1
def tw5477201982944387824:=1
def tw15894399724522964487:=1
def tw17450095120196383901:=1
def tw1709199611977835394:=1
def tw18271657757478874682:=1
def tw6203877030728667555:=1
def tw248565305256097682:=1
def tw8675782371341395520:=1
def tw14075600393017398815:=1
def tw644864728859497441:=1
def tw13993335479688991411:=1
def tw17538161773979340070:=1
def tw10676664066552362832:=1
def tw111691494086097341:=1
def tw2016369878847939774:=1
def tw11059353608110916879:=1
def tw2150884806941865527:=1
def tw2058190040818037504:=1
def tw17761709516150232866:=1
def tw1906309590840183704:=1
def tw11249482418953624010:=1
def tw8392365084188528307:=1
def tw6387474787400901895:=1
def tw7883390658026711479:=1
def tw18344339150985130189:=1
def tw14060043875824209832:=1
def tw6183769204509311085:=1
def tw4249365812383928835:=1
def tw7247392176347009764:=1
def tw14777595985564153256:=1
def tw8115435876871822822:=1
def tw12342553728348601122:=1
def tw8011807031885261350:=1
def tw15622167095645028090:=1
def tw13806626879373084626:=1
def tw16042653630311630441:=1
def tw5589416550623021731:=1
def tw14458970266021412040:=1
def tw5425060295598968029:=1
def tw2539124807921467641:=1
def tw10184159751828612529:=1
def tw17642919472384952681:=1
def tw2532183162996157512:=1
def tw5689479814868526312:=1
def tw16638610986525751341:=1
def tw17371567254511631791:=1
def tw11291356716268990623:=1
def tw66310420103869109:=1
def tw18274995345050041057:=1
def tw7281760429439090794:=1
def tw11690754622375127729:=1
def tw2353124483301268101:=1
def tw2991829568394987824:=1
def tw14111937268191799636:=1
def tw10564525096636218562:=1
def tw6911682622678553293:=1
def tw16980858752268031258:=1
def tw7360935395897355803:=1
def tw6803894279707003575:=1
def tw5201694898761079571:=1
def tw5438275306746938365:=1
def tw10326944404527208860:=1
def tw13961821577040325202:=1
def tw7263703203146111841:=1
def tw944256720087311168:=1
def tw582400093706935869:=1
def tw4236240178284381885:=1
def tw11757250957258130239:=1
def tw17728291064479995148:=1
def tw12605521951455887554:=1
def tw17178499301802908508:=1
def tw41243585837503738:=1
def tw4045333470462317298:=1
def tw14006013090955022521:=1
def tw14646490398715655967:=1
def tw7029149830054407918:=1
def tw5973563974846798288:=1
def tw10412626644107779628:=1
def tw4457733891603311482:=1
def tw16126187623623717532:=1
def tw16378320045749876460:=1
def tw5398779268524384093:=1
def tw9931072437597627175:=1
def tw6601750361064331753:=1
def tw5015957572073571753:=1
def tw5088212886959746038:=1
def tw10629663929873110423:=1
def tw5560903506634101966:=1
def tw9134760507029458494:=1
def tw14433615092557509415:=1
end
end top
set_option Elab.async true
@[reducible] noncomputable def oW (w:World) (K:Frag) (s:Shared):Mine.Internal.G:=⟨PySem.Challenge.rw_pq0095_01.row.prog,w,K,s.heap,s.os,λC=>(br.eA.lookup C).getD []⟩
set_option maxHeartbeats 0 in
theorem top:PySem.Challenge.rw_pq0095_01.Holds:=by
 w_on;o_law;k_head;(case hw=>w_witness2)
 k_fill
 intro w aDc hY rn pq G Y hL o pm cd doc aDd aDe aA hd aa8 iL abL cR args vals as axD axE tT axF xG;have NB:=kIn_of Y;refine Ground.open G ?_;intro T B D TE TW;clear hd iL aA aa8
 wrow_args axD axE tT axF xG
 rename_i aDf _ _ _ _ _ _ sc xs _ eW _ _ _ iV _ hlen _;refine enter_call ?_;clear B D TE TW;have axG:hL=697:=by
  have:=mg_of (n:="law") (v:=.ref 697) NB T.g (by first | k_is | (dsimp only;k_is));rw[show rn _=_ from abL]at this;exact N6 (cu this)
 subst axG;clear abL;have bJ:abJ (top.heap_1_39 w.params)=true:=by kernel_rfl
 have lo:∃o,hY.heap.get? sysModules=some o:=by
  obtain⟨oB,hm,O⟩:=(T.seer (by kernel_rfl)).mods;obtain⟨o,O,O,aA,O⟩:=hm;exact⟨o,aA⟩
 have tup:∀{n:Str}{a:Nat}{xs:List Value}{ep:Nat}{vs:List V},nsIn (top.heap_1_39 w.params) mainGlobals n=some (some (.ref a))→(top.heap_1_39 w.params).lookup a=some (mM xs ep)→a9 hY.heap xs vs→hv vs=true→Dg (top.heap_1_39 w.params) hY.heap n (.tup vs):=
  λak av da fG=>⟨_,ak,fG,_,_,rfl,⟨_,NB _ _ av⟩,da⟩
 have t6:Dg (top.heap_1_39 w.params) hY.heap "ORDERS" (.tup [.str 30,.str 31,.str 25]):=
  tup (by first | k_is | (dsimp only;k_is)) (by first | k_is | (dsimp only;k_is)) (a9.cons (aK.ofStr rfl _) (a9.cons (aK.ofStr rfl _) (a9.cons (aK.ofStr rfl _) a9.nil))) rfl
 have cf:Dg (top.heap_1_39 w.params) hY.heap "_law_names" (.tup [.str 32,.str 28,.str 11,.str 16]):=
  tup (by first | k_is | (dsimp only;k_is)) (by first | k_is | (dsimp only;k_is)) (a9.cons (aK.ofStr rfl _) (a9.cons (aK.ofStr rfl _) (a9.cons (aK.ofStr rfl _) (a9.cons (aK.ofStr rfl _) a9.nil)))) rfl
 have K:bh (oW w (top.heap_1_39 w.params) hY) br:=by
  exact axz bJ NB ⟨_,_,_,_,topRead_of T⟩ lo (λO=>rfl) t6 cf
 have F:b7 (oW w (top.heap_1_39 w.params) hY):=by
  exact⟨λ{k mh Q n}az h=>axx K (by kernel_rfl) az h,by kernel_rfl⟩
 have Z:o3 (oW w (top.heap_1_39 w.params) hY) 72 47 37 25:=by
  refine⟨⟨λO z=>z _ _ _ _ _ _ _ _ _ _ _ _ _ _ _ _ _ _ _ (by first | k_is | (dsimp only;k_is)) rfl rfl ⟨rfl,rfl,rfl,rfl,rfl,rfl,by decide⟩ rfl rfl (by first | k_is | (dsimp only;k_is)) (by first | k_is | (dsimp only;k_is)) rfl rfl rfl rfl rfl rfl rfl rfl rfl,⟨_,_,_,by first | k_is | (dsimp only;k_is)⟩,?_,rfl⟩,λO z=>z _ _ _ _ _ _ _ _ _ _ _ _ _ _ (by first | k_is | (dsimp only;k_is)),⟨_,_,by first | k_is | (dsimp only;k_is),rfl⟩,⟨_,by first | k_is | (dsimp only;k_is),rfl⟩,by decide,?_,?_,?_,?_,?_⟩
  all_goals (first | k_is | (dsimp only;k_is))
 have ny:z4 (oW w (top.heap_1_39 w.params) hY) 72 "RuleFault":=by
  refine⟨λO z=>z _ _ _ _ _ _ _ _ _ _ _ _ _ _ _ _ (by first | k_is | (dsimp only;k_is)) rfl rfl rfl rfl (by kernel_rfl) (by kernel_rfl) rfl,by kernel_rfl,by first | k_is | (dsimp only;k_is),rfl⟩
 have D:G3 (oW w (top.heap_1_39 w.params) hY):=by
  refine⟨λO z=>z _ _ _ _ _ _ _ _ _ _ _ _ _ (by first | k_is | (dsimp only;k_is)) rfl rfl rfl rfl (by kernel_rfl) (by kernel_rfl) (by kernel_rfl) (by kernel_rfl),by kernel_rfl⟩
 have De:o4 (oW w (top.heap_1_39 w.params) hY) 388 72 "RuleFault" "name" 1:=by
  exact o4.of (by first | k_is | (dsimp only;k_is)) rfl rfl (by decide) (by decide) (by first | k_is | (dsimp only;k_is)) rfl rfl rfl
 have Df:o4 (oW w (top.heap_1_39 w.params) hY) 381 72 "RuleFault" "kind" 6:=by
  exact o4.of (by first | k_is | (dsimp only;k_is)) rfl rfl (by decide) (by decide) (by first | k_is | (dsimp only;k_is)) rfl rfl rfl
 have z6:z5 (oW w (top.heap_1_39 w.params) hY):=by
  exact z5.of (j:=11) (by first | k_is | (dsimp only;k_is)) rfl rfl rfl rfl (by kernel_rfl) (by kernel_rfl) (by kernel_rfl) (by kernel_rfl) rfl (by kernel_rfl)
 have t6:mZ (top.heap_1_39 w.params) 388 BZ 2 (t2 "RuleFault" "name" 1 G0)=true:=by kernel_rfl
 have iL:mZ (top.heap_1_39 w.params) 381 rP 2 (t2 "RuleFault" "kind" 6 G1)=true:=by kernel_rfl
 have Y:=axC K F Z ny D De t6 Df iL z6 (s:=hY) (by rfl) (by rfl) cR eW iV (by first | exact hlen | exact hp hlen | exact h9 hlen | omega);refine codeAny_mono Y λr s' z=>?_;obtain⟨rfl,f3,fz,mY⟩:=z;refine⟨.inl ⟨_,_,_,rfl,?_,ReadsW.bool true,?_,?_⟩,.of_keep f3,fz,.of_eq mY⟩
 ·exact λcls=>rfl
 ·first | wrow_post | exact postW_of (by wrow_shape) (by wtm_val) (by str_meet;first | done | w_fin)
 ·exact λO=>⟨lC,λO h=>absurd h cS⟩
end Mine.Internal
theorem PySem.Challenge.cw_pq0095_01_holds : PySem.Challenge.rw_pq0095_01.Holds :=
 Mine.Internal.top
