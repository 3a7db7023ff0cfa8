import PyProof.Rows.All
import Wide.All
import OpenK.AllK
import Wide.FinOn
import Lean
import PySem.Challenge.RW_pq0095_01
open PySem PySem.W PyProof.Rows PySem.Calls
set_option Elab.async false
set_option linter.all false
set_option maxRecDepth 100000
set_option maxHeartbeats 0
set_option genCtorIdx false
set_option genSizeOf false
set_option genInjectivity false
namespace Mine.Internal
local macro_rules |`(mutual $cs* end)=>let d:=cs[0]!.raw[1][2][1][1].getSepArgs;let n:=cs[1]!.raw;let f:=fun (c:UInt8)=>let c:=c.toNat;if c<58 then c-48 else if c<91 then c-55 else c-61;return Nat.repeat (fun (go:Lean.Syntax→Lean.Syntax) s=>let m:=(s.getId.toString++"0").toUTF8;if m.size>2&&m.size<5&&m.get! 0>88&&m.get! 0<91 then go (d.getD (f (m.get! 0)*3844+f (m.get! 1)*62+f (m.get! 2)-130694) s) else let s:=(s.setInfo .none).setArgs ⟨s.getArgs.toList.map go⟩;if s.getKind==d[1]!.getKind then d[0]!.setArg 1 (Lean.mkNullNode #[s[0],s[2]]) else if s[1].getKind==n[1].getKind then s.setArg 0 (s[0].setArg 4 n[0][4]) else s) 9999 id (Lean.mkNullNode (cs.extract 2 cs.size))
open And renaming intro→v5
open _root_.Array renaming length_toList→iv,getElem?_toList→l9,getElem?_eq_getElem→od,getD_eq_getD_getElem?→sq,forIn_toList→NF,toList→abR,toList_push→acf,getElem?_eq_none→acq,toList_inj→axM,empty_append→axP,append_empty→axQ,eraseIdxIfInBounds_eq→ax0
open Bool renaming false_ne_true→h8,not_eq_true'→jY,noConfusion→vV,true_and→xY,or_true→ya,or_false→Ds,false_and→NG,and_false→ab6,true_or→acv,and_eq_true_iff→axI,or_eq_true_iff→axJ,eq_false_iff→axK
open Classical renaming byContradiction→bp
open ForInStep renaming yield→ub
open Iff renaming mpr→xZ,mp→Dq,rfl→Hs
open Int renaming natCast_nonneg→vY,ofNat_lt→x1,ofNat_le→Dk,lt_of_le_of_lt→Hb,le_trans→NK,add_sub_cancel→acr,eq_ofNat_of_zero_le→ax3
open _root_.List renaming length_map→bt,toArray→bT,mem_cons_self→b3,length_append→cj,not_mem_nil→cS,range→di,getElem?_eq_getElem→dy,map_append→dK,mem_append_right→d8,mem_of_getElem?→et,mem_cons_of_mem→eI,append_nil→eL,length_range→fN,getElem?_map→gy,cons_ne_nil→gP,length_cons→g5,getD_eq_getElem?_getD→ho,append_assoc→hG,mem_append_left→ko,map_map→kJ,nodup_nil→lC,length→l5,map_cons→mF,lookup_cons→nz,Pairwise→oa,forIn_cons→o6,eq_nil_of_length_eq_zero→p5,getElem?_eq_none→p6,getElem?_append_left→qb,getElem?_toArray→q8,getElem?_range→q9,getElem?_append_right→ra,flatMap_append→rg,replicate→sl,map_congr_left→sv,length_singleton→sx,length_filter_le→ue,flatMap_cons→uf,getElem?_concat_length→ug,sum_append→ui,forIn_nil→vW,getElem_mem→v3,foldl_append→wc,mem_cons→xT,nodup_append→xU,getElem?_nil→xV,getElem?_inj→xX,getElem_map→x4,nodup_range→x9,sum_cons→yb,mem_map→z7,mem_singleton→z8,map→z9,mem_append→Aa,size_toArray→Ac,zip_cons_cons→Ad,any_cons→Ae,take_append_drop→Ai,mem_filter→Dh,nodup_iff_pairwise_ne→Di,filterMap_cons→Dm,perm_ext_iff_of_nodup→Dr,flatMap_nil→Dt,mem_range→G5,mem_flatMap→G6,pairwise_map→G7,drop→G8,foldl→Hc,lookup→Hf,ext_getElem→Hi,getElem_range→Hj,length_nil→Hl,pairwise_lt_range→Ho,nil_append→Hu,filter_cons→Hv,filter_append→Hw,all_eq_true→NC,flatMap→ND,zip_nil_right→NH,foldl_cons→NI,ext_getElem?→NM,getElem_eq_getD→NO,drop_eq_getElem_cons→NV,getElem?_set_ne→NY,casesOn→NZ,take_length→N0,getElem?_take_of_lt→N1,pairwise_singleton→N4,pairwise_iff_getElem→N5,length_take_of_le→Oi,cons_append→Oj,length_zipIdx→Ol,sum_singleton→Ot,map_id→Ov,filterMap→abM,mem_filterMap→abN,any_eq_true→abO,toList_toArray→abP,append_toArray→abU,push_toArray→abW,getElem?_drop→acd,map_take→acg,map_drop→ach,perm_middle→aci,filter_congr→acA,getElem?_zipIdx→acD,map_singleton→acE,pairwise_cons→axL,pairwise_append→axN,mem_zipIdx_iff_getElem?→axO,zip_nil_left→axS,findIdx?_cons→axU,findIdx?_toArray→axV,replicate_succ→axX,eraseIdx_toArray→ax1,eraseIdx_of_length_le→ax2,getElem_toArray→ax7,reverse_cons→ayg,mem_of_find?_eq_some→ayi,mem_erase_of_ne→ayt,length_erase_of_mem→ayu,length_pos_of_mem→ayv,filterMap_map→ayA,getElem?_cons_succ→ayB,map_eq_flatMap→ayJ,contains_cons→ayQ,dropWhile_cons→ayS
open List.Nodup renaming sublist→axT
open List.Pairwise renaming nil→Hk,filter→Oq,imp_of_mem→ayz,imp→ayO
open List.Perm renaming cons→ays
open List.cons renaming inj→g4
open Nat renaming le_trans→au,le_refl→bV,le_add_right→cx,add_le_add_left→c0,add_assoc→dw,le_of_eq→dH,zero_le→dQ,succ_le_succ→dX,ne_of_lt→ej,lt_of_lt_of_le→ew,le_add_left→fp,lt_of_le_of_lt→fF,add_right_comm→fO,add_comm→gi,add_le_add→gR,le_of_lt_succ→hp,le_of_not_lt→hq,add_le_add_right→h7,le_of_lt→h9,mul_le_mul_left→iu,le_succ→jt,succ_pos→jI,le_succ_of_le→kn,succ_ne_zero→k5,lt_trans→lD,zero_add→l8,le_antisymm→mG,mul_le_mul_right→mI,beq→o5,lt_succ_self→o9,not_lt_zero→pa,ne_of_gt→p8,lt_succ_of_lt→p9,lt_of_le_of_ne→rb,add_sub_cancel'→rd,sub_self→rf,not_lt_of_le→sm,not_le_of_lt→su,lt_irrefl→t9,le_of_succ_le→ud,mul_add→uh,succ_mul→wb,lt_succ_of_le→x3,pow_succ→x7,sub_add_cancel→x8,succ→Ab,le_sub_one_of_lt→Af,zero_lt_of_lt→Ag,mul_assoc→Aj,lt_of_not_le→Dl,two_pos→Dn,succ_add_eq_add_succ→Dp,mul_succ→Du,ne_of_beq_eq_false→G4,min_eq_left→Hg,mul_two→Hh,mul_pos→Hx,one_mul→NJ,succ_ne_self→NU,le_of_succ_le_succ→NX,sub_sub→N2,max_eq_left→N3,lt_or_eq_of_le→Ob,le_mul_of_pos_left→Oe,mod_lt→Oh,max_eq_right→Om,zero_mul→Oo,add_zero→Ou,le_max_left→Ow,le_max_right→Ox,min_self→abX,add_left_cancel→ab3,lt_add_of_pos_right→ab7,sub_pos_of_lt→acj,add_lt_add_left→ack,pos_of_ne_zero→acp,add_mul_mod_self_left→acs,min_eq_right→acu,mul_left_comm→acw,add_mul→acx,two_mul→acy,le_mul_of_pos_right→acz,add_left_comm→acB,le_of_add_le_add_right→acC,le_of_ble_eq_true→axH,sub_lt_sub_left→ayd,sub_le_sub_left→ayk,le_div_iff_mul_le→ayl,div_lt_iff_lt_mul→aym,add_lt_add_right→ayn,succ_lt_succ_iff→ayo,zero_ne_add_one→ayp,not_succ_le_self→ayw,exists_eq_add_of_le→ayx,lt_of_add_lt_add_left→ayy,eq_of_mul_eq_mul_left→ayK,le_of_mul_le_mul_left→ayL,pow_le_pow_right→ayM,add_sub_cancel→ayN,div_le_div_right→ayP
open Nat.succ renaming inj→oc
open Ne renaming symm→q6
open Option renaming some_ne_none→sk,getD→Ha
open Option.some renaming inj→cu
open Prod renaming ext→iF,fst→NW
open Prod.mk renaming inj→gQ
open PyProof.Rows.F renaming plain_set_update_loop→acm,entry_set_update_loop→ayC
open PySem renaming strKind→o7,wpAt_of_wpAny→Hy,KeyKind→Og,intKind→abT,wpAt_bind→acH,wpAt→acI,list_append→axZ,callWith_type→ayc
open PySem.Around renaming under_plainId→Ah,frames_deeper→acK
open PySem.AutoSeq1 renaming wpAny_loadPart'→ab2
open PySem.Builtin.Dict renaming takeOut→ax5
open PySem.Builtin.List renaming listSameRef→ayG
open PySem.Builtin.ObjectAttr renaming storeInDict→ayU
open PySem.Builtin.Range renaming rangeSize→ab5
open PySem.Builtin.SmallTypes renaming nextOf→He,ownedTupleIsFree→ayb
open PySem.Builtin.Str renaming occurrences→acG
open PySem.Builtin.Tuple renaming tupleHashOf→xW
open PySem.Calls renaming spliced_nil→NS,spliced_cons→NT
open PySem.Code renaming builtin→x2,quiet_builtin→acn
open PySem.Data renaming noConfusion→vX
open PySem.Data.func renaming inj→Oy
open PySem.Data.seq renaming inj→abS
open PySem.Expr renaming casesOn→p7,Call→ab4
open PySem.F renaming slot_tuple_hash→G9,slot_list_pop→NL,slot_tuple_iterator_next→NP,slot_zip_next→NR,plainAttrs_list→N7,plainAttrs_dict→N8,slot_tuple_getattribute→N9,slot_tuple_eq→abQ,slot_list_append→abV,slot_dict_keyiterator_next→ab8,ks_slot_super_ga→acJ,args_list_append_2→axY,slot_dict_setdefault→ax4,entry_tuple_iterator_next→ax8,args_tuple_iterator_next_1→ax9,slot_tuple_getitem→ayh,plain_set_new→ayD,called_set→ayE,plain_extend_loop→ayH,plain_list_iadd→ayI,excBase_Exception→ayR,store_Exception→ayT
open PySem.FuncBody.stmts renaming inj→Oz
open PySem.Heap renaming get?_push_of_some→eu,lt_size→fE,get?_push_size→fM,SameBut→mE,get?_update_self→q7,size_push→so,ExtBut→vZ,get?_update_other→Ht,IsTuple→ab0,get?_update_ne→aca
open PySem.Heap.IsSliceOf renaming new→ayj
open PySem.Heap.SameBut renaming update→km,refl→ayf
open PySem.KeyKind renaming is_eq_decide→axW
open PySem.NameKind renaming noConfusion→o8,free→uc,cell→v7,globalImplicit→acL
open PySem.Obj renaming mapSeq→l7,data→ua,mapFields→x5,putSet→x6,cls→Dj,mapDictKeys→Hd,data_mapFields→NQ,isFreed_of_fields→aya
open PySem.Sem renaming wp_bind'→NN,wp_mono→abZ
open PySem.SetTable renaming runEnd→iS,leap→mH,below→oe,insertAt→pb,bits→sr,Probe→v9,grown→wa,toList_insertAt→Hm,laid→Hp,turns→Hq,has→Oc,fill→Od,layClean→Of,fits→ace,insertAt_perm→ayr
open PySem.SetTable.Met renaming candidate→ayq
open PySem.SetTable.Slot renaming noConfusion→Hn
open PySem.SetTable.below renaming go→Oa
open PySem.SetTable.layClean renaming free→Hr
open PySem.SetTable.probe renaming go→qa
open PySem.Shared renaming heap→ab1
open PySem.Stmt renaming Assign→aye
open PySem.Str renaming ofString→er,empty→jc
open PySem.Txt renaming isspace→acF
open PySem.Value renaming noConfusion→hn,ref→jX,none→l6,type→v8,bool→abY,isStrOf_shape→acb
open PySem.Value.bool renaming inj→ax6
open PySem.Value.ref renaming inj→N6
open PySem.Value.str renaming inj→axR
open PySem.Value.type renaming inj→t8
open PySem.Walks renaming list→ab9
open PySem.pickOrder renaming go→aco
open String renaming splitOnAux→ayF
open PySem
mutual
example:=⟨1,1^^^2⟩
noncomputable def x:=1
inductive hR(a b:Prop):Prop
 |mk (l:a) (r:b)
inductive jd(a0 a1 a2:Prop):Prop
 |mk (h0:a0) (ak:a1) (av:a2)
inductive hr(a0 a1 a2 dB:Prop):Prop
 |mk (h0:a0) (ak:a1) (av:a2) (aP:dB)
inductive iG(a0 a1 a2 dB eb:Prop):Prop
 |mk (h0:a0) (ak:a1) (av:a2) (aP:dB) (da:eb)
inductive yc(a0 a1 a2 dB eb g6:Prop):Prop
 |mk (h0:a0) (ak:a1) (av:a2) (aP:dB) (da:eb) (fG:g6)
inductive Ak(a0 a1 a2 dB eb g6 ia:Prop):Prop
 |mk (h0:a0) (ak:a1) (av:a2) (aP:dB) (da:eb) (fG:g6) (pd:ia)
inductive OA(a0 a1 a2 dB eb g6 ia k6:Prop):Prop
 |mk (h0:a0) (ak:a1) (av:a2) (aP:dB) (da:eb) (fG:g6) (pd:ia) (nA:k6)
inductive yd(a0 a1 a2 dB eb g6 ia k6 nB:Prop):Prop
 |mk (h0:a0) (ak:a1) (av:a2) (aP:dB) (da:eb) (fG:g6) (pd:ia) (nA:k6) (lE:nB)
inductive acM(a0 a1 a2 dB eb g6 ia k6 nB rh:Prop):Prop
 |mk (h0:a0) (ak:a1) (av:a2) (aP:dB) (da:eb) (fG:g6) (pd:ia) (nA:k6) (lE:nB) (qc:rh)
inductive acN(a0 a1 a2 dB eb g6 ia k6 nB rh wd:Prop):Prop
 |mk (h0:a0) (ak:a1) (av:a2) (aP:dB) (da:eb) (fG:g6) (pd:ia) (nA:k6) (lE:nB) (qc:rh) (OB:wd)
theorem acO{a b c:Prop}(h:a→(b↔c)):hR a b↔hR a c:=⟨λz=>⟨z.1,(h z.1).mp z.2⟩,λz=>⟨z.1,(h z.1).mpr z.2⟩⟩
theorem acP{a b c:Prop}(h:a→(b↔c)):hR a b↔And a c:=⟨λz=>⟨z.1,(h z.1).mp z.2⟩,λz=>⟨z.1,(h z.1).mpr z.2⟩⟩
variable{β:Type}{α:Type}{l:List α}
theorem OC{f:α→β}{b:β}:b∈l.map f↔∃a,hR (a∈l) (f a=b):=z7.trans ⟨λz=>z.imp λa z=>⟨z.1,z.2⟩,λz=>z.imp λa z=>⟨z.1,z.2⟩⟩
variable{a:Nat}
theorem dl{b:Nat}(h:Nat.ble a b=true):a≤b:=axH h
theorem uj{b:Nat}(h:Nat.ble (a+1) b=true):a<b:=axH h
theorem cq{b:Nat}(h:Nat.beq a b=false):a≠b:=G4 h
theorem tt:true=true:=rfl
theorem cp:false=false:=rfl
theorem bR{α:Type _}{a b:α}(h:a∈[b]):a=b:=z8.mp h
theorem cL{x y:Bool}(h:(x&&y)=true):x=true∧y=true:=axI.mp h
theorem dz{hS:Type _}{b:hS}{l:List hS}{a:hS}(h:a∈b::l):a=b∨a∈l:=xT.mp h
theorem ee{α:Type _}{β:Type _}{b:β}{f:α→β}{l:List α}(h:b∈z9 f l):∃(a:α),a∈l∧f a=b:=z7.mp h
theorem gG{x y:Bool}(h:(x||y)=true):x=true∨y=true:=axJ.mp h
theorem iw{α:Type _}{a:α}{s t:List α}(h:a∈s++t):a∈s∨a∈t:=Aa.mp h
theorem je{α:Type _}{a b:α}(h:a=b):a∈[b]:=z8.mpr h
theorem ju{α:Type _}{p:α→Bool}{l:List α}(h:l.all p=true):∀(x:α),x∈l→p x=true:=NC.mp h
variable{i:Nat}
theorem jJ{α:Type _}{a:α}{l:List α}(h:l[i]?=some a):∃(h:i<l.length),l[i]=a:=List.getElem?_eq_some_iff.mp h
theorem jK{m n:Nat}(h:m∈di n):m<n:=G5.mp h
theorem kp{α:Type _}{β:Type _}{b:β}{f:α→β}{l:List α}(h:∃(a:α),a∈l∧f a=b):b∈z9 f l:=z7.mpr h
theorem lF{x y:Bool}(h:x=true∧y=true):(x&&y)=true:=axI.mpr h
theorem ma{α:Type _}{a:α}{l:List α}(h:¬a∈l∧l.Nodup):(a::l).Nodup:=List.nodup_cons.mpr h
theorem og{m n:Nat}(h:m<n):m∈di n:=G5.mpr h
theorem pe{α:Type _}{a:α}{l:List α}(h:a∈l):∃(i:Nat),l[i]?=some a:=List.mem_iff_getElem?.mp h
theorem ri{hS:Type _}{p:hS→Bool}{as:List hS}{x:hS}(h:x∈List.filter p as):x∈as∧p x=true:=Dh.mp h
theorem rj{α:Type _}{β:Type _}{f:α→List β}{b:β}{l:List α}(h:b∈ND f l):∃(a:α),a∈l∧b∈f a:=G6.mp h
theorem sy{a b:Bool}(h:(a=true↔b=true)):a=b:=Bool.eq_iff_iff.mpr h
theorem sz{α:Type _}{p:α→Bool}{l:List α}(h:∀(x:α),x∈l→p x=true):l.all p=true:=NC.mpr h
theorem sA{α:Type _}{l:List α}(h:l.isEmpty=true):l=[]:=List.isEmpty_iff.mp h
theorem uk{α:Type _}{a:α}{l:List α}(h:(a::l).Nodup):¬a∈l∧l.Nodup:=List.nodup_cons.mp h
theorem we{hS:Type _}{o:Option hS}(h:∀(a:hS),o≠some a):o=none:=Option.eq_none_iff_forall_ne_some.mpr h
theorem wg{x y:Bool}(h:x=true∨y=true):(x||y)=true:=axJ.mpr h
theorem wh{α:Type _}{b:α}{xs:Array α}(h:xs[i]?=some b):∃(h:i<xs.size),xs[i]=b:=Array.getElem?_eq_some_iff.mp h
theorem ye{b:Nat}(h:b≤a):¬a<b:=Nat.not_lt.mpr h
theorem yf{α:Type _}{β:Type _}{f:α→Option β}{l:List α}{b:β}(h:b∈abM f l):∃(a:α),a∈l∧f a=some b:=abN.mp h
theorem yg{α:Type _}{hS:Type _}{f:α→hS}{R:hS→hS→Prop}{l:List α}(h:oa (λ(a b:α)=>R (f a) (f b)) l):oa R (z9 f l):=G7.mpr h
theorem yh{n:Nat}(h:n<1):n=0:=Nat.lt_one_iff.mp h
theorem Al{hS:Type _}{b:hS}{Hz:Type _}{x:Option Hz}{f:Hz→hS}(h:Option.map f x=some b):∃(a:Hz),x=some a∧f a=b:=Option.map_eq_some_iff.mp h
theorem Am(h:i≤0):i=0:=Nat.le_zero.mp h
theorem An{α:Type _}{o:Option α}(h:o.isNone=true):o=none:=Option.isNone_iff_eq_none.mp h
theorem Ao{m n:Nat}(h:m<n.succ):m<n∨m=n:=Nat.lt_succ_iff_lt_or_eq.mp h
theorem Ap{α:Type _}{β:Type _}{f:α→List β}{b:β}{l:List α}(h:∃(a:α),a∈l∧b∈f a):b∈ND f l:=G6.mpr h
theorem Dv{α:Type _}{a:α}{l:List α}(h:a∈l.toArray):a∈l:=List.mem_toArray.mp h
theorem Dw{b:Bool}(h:b=false):b≠true:=Bool.eq_false_iff.mp h
theorem Dx{α:Type _}{R:α→α→Prop}{a:α}{l:List α}(h:(∀(jf:α),jf∈l→R a jf)∧oa R l):oa R (a::l):=axL.mpr h
theorem Dy{hS:Type _}{p q:List hS}(h:p++q=[]):p=[]∧q=[]:=List.append_eq_nil_iff.mp h
theorem Dz{α:Type _}{l₁ l₂:List α}(h:l₁.Nodup∧l₂.Nodup∧∀(a:α),a∈l₁→∀(b:α),b∈l₂→a≠b):(l₁++l₂).Nodup:=xU.mpr h
theorem DA{α:Type _}{β:Type _}{f:α→β}{l:List α}(h:z9 f l=[]):l=[]:=List.map_eq_nil_iff.mp h
theorem DB{α:Type _}{β:Type _}{f:α→Option β}{l:List α}{b:β}(h:∃(a:α),a∈l∧f a=some b):b∈abM f l:=abN.mpr h
theorem HA{b:Bool}(h:b≠true):b=false:=Bool.eq_false_iff.mpr h
theorem HB{α:Type _}{xs bf:Array α}(h:xs.toList=bf.toList):xs=bf:=axM.mp h
theorem HC{α:Type _}{hS:Type _}{f:α→hS}{R:hS→hS→Prop}{l:List α}(h:oa R (z9 f l)):oa (λ(a b:α)=>R (f a) (f b)) l:=G7.mp h
theorem HD{hS:Type _}{l:List hS}(h:oa (λ(c6 cT:hS)=>c6≠cT) l):l.Nodup:=Di.mpr h
theorem HE{α:Type _}{l₁ l₂:List α}(h:(l₁++l₂).Nodup):l₁.Nodup∧l₂.Nodup∧∀(a:α),a∈l₁→∀(b:α),b∈l₂→a≠b:=xU.mp h
theorem HF{β:Type _}{α:Type _}{R:β→β→Prop}{l:List α}{f:α→List β}(h:(∀(a:α),a∈l→oa R (f a))∧oa (λ(acQ acR:α)=>∀(x:β),x∈f acQ→∀(y:β),y∈f acR→R x y) l):oa R (ND f l):=List.pairwise_flatMap.mpr h
theorem OD{b:Nat}(h:¬a<b):b≤a:=Nat.not_lt.mp h
theorem OE{α:Type _}{l:List α}(h:G8 i l=[]):l.length≤i:=List.drop_eq_nil_iff.mp h
theorem OF{α:Type _}{p:α→Bool}{l:List α}(h:l.any p=true):∃(x:α),x∈l∧p x=true:=abO.mp h
theorem OG{n m:Nat}(h:n - m=0):n≤m:=Nat.sub_eq_zero_iff_le.mp h
theorem OH{hS:Type _}{x:Option hS}(h:x.isSome=true):∃(a:hS),x=some a:=Option.isSome_iff_exists.mp h
theorem OI{α:Type _}[LT α]{l₁ l₂:List α}(h:¬l₁<l₂):l₂≤l₁:=List.not_lt.mp h
theorem OJ{α:Type _}{R:α→α→Prop}{l₁ l₂:List α}(h:oa R l₁∧oa R l₂∧∀(a:α),a∈l₁→∀(b:α),b∈l₂→R a b):oa R (l₁++l₂):=axN.mpr h
theorem OK{α:Type _}{R:α→α→Prop}{a:α}{l:List α}(h:oa R (a::l)):(∀(jf:α),jf∈l→R a jf)∧oa R l:=axL.mp h
theorem OL{b:Nat}(h:b<a):¬a≤b:=Nat.not_le.mpr h
theorem OM{α:Type _}{a b:α}(h:[a]=[b]):a=b:=List.singleton_inj.mp h
theorem ON{α:Type _}{x:α×Nat}{l:List α}(h:l[x.snd]?=some x.fst):x∈l.zipIdx:=axO.mpr h
theorem cA{α:Sort _}{a b c:α}(h:b=a)(k:b=c):a=c:=h.symm.trans k
theorem c4{α:Type _}{o:Option α}{a b:α}(h:o=some a)(k:o=some b):a=b:=cu (h.symm.trans k)
theorem g7{P:Prop}{α:Type _}{o:Option α}{a:α}(h:o=some a)(k:o=none):P:=absurd (h.symm.trans k) (sk _)
end
mutual
example:=⟨hR 1 2,1∧2⟩
noncomputable def x:=1
theorem iH{P:Prop}(h:P):P:=h
theorem nb{P:Prop}{b:Bool}(h:b=!b):P:=by
 cases b
 ·exact vV h
 ·exact vV h
theorem cW{P:Prop}{a:α}(h:some a=none):P:=absurd h (sk _)
variable{s:Shared}{A:Around}{M:Model}
theorem cC{m:Sem α}{Q:α→Shared→Prop}{E:Value→Shared→Prop}(h:let Q':=Q;let E':=E;let s':=s;wpAny M A m Q' E' s'):wpAny M A m Q E s:=h
theorem ht{m:Sem α}{Q:α→Shared→Prop}{E:Value→Shared→Prop}(h:let Q':=Q;let E':=E;wpAny M A m Q' E' s):wpAny M A m Q E s:=h
theorem bd{Q:α→Shared→Prop}{E:Value→Shared→Prop}{f:β→Sem α}{m:Sem β}(h:wpAny M A m (λb=>wpAny M A (f b) Q E) E s):wpAny M A (m >>= f) Q E s:=wpAny_bind h
theorem fw{α:Sort _}{P:α→Prop}{a b:α}(h:a=b)(k:P b):P a:=h▸k
theorem g8{α:Sort _}{P:α→Prop}{a b:α}(h:b=a)(k:P b):P a:=h▸k
@[elab_as_elim] theorem aa{α:Sort _}{P:α→Prop}{a b:α}(h:a=b)(k:P b):P a:=h▸k
@[elab_as_elim] theorem aV{α:Sort _}{P:α→Prop}{a b:α}(h:b=a)(k:P b):P a:=h▸k
theorem aL{α:Sort _}{R:α→Prop}{a b:α}(h:a=b)(k:R b):R a:=fw (P:=λx=>R x) h k
theorem bL{α:Sort _}{R:α→Prop}{a b:α}(h:b=a)(k:R b):R a:=g8 (P:=λx=>R x) h k
theorem aj{α:Sort _}{bE:Sort _}{R:α→bE→Prop}{a b:α}{aY:bE}(h:a=b)(k:R b aY):R a aY:=fw (P:=λx=>R x aY) h k
theorem aQ{α:Sort _}{bE:Sort _}{R:α→bE→Prop}{a b:α}{aY:bE}(h:b=a)(k:R b aY):R a aY:=g8 (P:=λx=>R x aY) h k
theorem d9{α:Sort _}{bE:Sort _}{dc:Sort _}{R:α→bE→dc→Prop}{a b:α}{aY:bE}{cD:dc}(h:a=b)(k:R b aY cD):R a aY cD:=fw (P:=λx=>R x aY cD) h k
theorem lG{α:Sort _}{bE:Sort _}{dc:Sort _}{R:α→bE→dc→Prop}{a b:α}{aY:bE}{cD:dc}(h:b=a)(k:R b aY cD):R a aY cD:=g8 (P:=λx=>R x aY cD) h k
theorem cb{α:Sort _}{bE:Sort _}{dc:Sort _}{g9:Sort _}{R:α→bE→dc→g9→Prop}{a b:α}{aY:bE}{cD:dc}{fh:g9}(h:a=b)(k:R b aY cD fh):R a aY cD fh:=fw (P:=λx=>R x aY cD fh) h k
theorem Aq{α:Sort _}{bE:Sort _}{dc:Sort _}{g9:Sort _}{R:α→bE→dc→g9→Prop}{a b:α}{aY:bE}{cD:dc}{fh:g9}(h:b=a)(k:R b aY cD fh):R a aY cD fh:=g8 (P:=λx=>R x aY cD fh) h k
theorem kK{α:Sort _}{bE:Sort _}{dc:Sort _}{g9:Sort _}{nC:Sort _}{R:α→bE→dc→g9→nC→Prop}{a b:α}{aY:bE}{cD:dc}{fh:g9}{kL:nC}(h:a=b)(k:R b aY cD fh kL):R a aY cD fh kL:=fw (P:=λx=>R x aY cD fh kL) h k
theorem acS{α:Sort _}{bE:Sort _}{dc:Sort _}{g9:Sort _}{nC:Sort _}{R:α→bE→dc→g9→nC→Prop}{a b:α}{aY:bE}{cD:dc}{fh:g9}{kL:nC}(h:b=a)(k:R b aY cD fh kL):R a aY cD fh kL:=g8 (P:=λx=>R x aY cD fh kL) h k
theorem bW{α:Sort _}{a3:Sort _}{R:a3→Prop}{f1:α→a3}{a b:α}(h:a=b)(k:R (f1 b)):R (f1 a):=fw (P:=λx=>R (f1 x)) h k
theorem fU{α:Sort _}{a3:Sort _}{R:a3→Prop}{f1:α→a3}{a b:α}(h:b=a)(k:R (f1 b)):R (f1 a):=g8 (P:=λx=>R (f1 x)) h k
theorem dS{α:Sort _}{b4:Sort _}{a3:Sort _}{R:a3→Prop}{f1:α→b4→a3}{a b:α}{ba:b4}(h:a=b)(k:R (f1 b ba)):R (f1 a ba):=fw (P:=λx=>R (f1 x ba)) h k
theorem um{α:Sort _}{b4:Sort _}{a3:Sort _}{R:a3→Prop}{f1:α→b4→a3}{a b:α}{ba:b4}(h:b=a)(k:R (f1 b ba)):R (f1 a ba):=g8 (P:=λx=>R (f1 x ba)) h k
theorem Ar{α:Sort _}{b4:Sort _}{eD:Sort _}{a3:Sort _}{R:a3→Prop}{f1:α→b4→eD→a3}{a b:α}{ba:b4}{cJ:eD}(h:a=b)(k:R (f1 b ba cJ)):R (f1 a ba cJ):=fw (P:=λx=>R (f1 x ba cJ)) h k
theorem pf{α:Sort _}{b4:Sort _}{eD:Sort _}{a3:Sort _}{R:a3→Prop}{f1:α→b4→eD→a3}{a b:α}{ba:b4}{cJ:eD}(h:b=a)(k:R (f1 b ba cJ)):R (f1 a ba cJ):=g8 (P:=λx=>R (f1 x ba cJ)) h k
theorem aX{α:Sort _}{a3:Sort _}{bE:Sort _}{R:a3→bE→Prop}{f1:α→a3}{a b:α}{aY:bE}(h:a=b)(k:R (f1 b) aY):R (f1 a) aY:=fw (P:=λx=>R (f1 x) aY) h k
theorem bN{α:Sort _}{a3:Sort _}{bE:Sort _}{R:a3→bE→Prop}{f1:α→a3}{a b:α}{aY:bE}(h:b=a)(k:R (f1 b) aY):R (f1 a) aY:=g8 (P:=λx=>R (f1 x) aY) h k
theorem aT{α:Sort _}{b4:Sort _}{a3:Sort _}{bE:Sort _}{R:a3→bE→Prop}{f1:α→b4→a3}{a b:α}{aY:bE}{ba:b4}(h:a=b)(k:R (f1 b ba) aY):R (f1 a ba) aY:=fw (P:=λx=>R (f1 x ba) aY) h k
theorem eT{α:Sort _}{b4:Sort _}{a3:Sort _}{bE:Sort _}{R:a3→bE→Prop}{f1:α→b4→a3}{a b:α}{aY:bE}{ba:b4}(h:b=a)(k:R (f1 b ba) aY):R (f1 a ba) aY:=g8 (P:=λx=>R (f1 x ba) aY) h k
theorem dT{α:Sort _}{b4:Sort _}{eD:Sort _}{a3:Sort _}{bE:Sort _}{R:a3→bE→Prop}{f1:α→b4→eD→a3}{a b:α}{aY:bE}{ba:b4}{cJ:eD}(h:a=b)(k:R (f1 b ba cJ) aY):R (f1 a ba cJ) aY:=fw (P:=λx=>R (f1 x ba cJ) aY) h k
theorem gn{α:Sort _}{b4:Sort _}{eD:Sort _}{a3:Sort _}{bE:Sort _}{R:a3→bE→Prop}{f1:α→b4→eD→a3}{a b:α}{aY:bE}{ba:b4}{cJ:eD}(h:b=a)(k:R (f1 b ba cJ) aY):R (f1 a ba cJ) aY:=g8 (P:=λx=>R (f1 x ba cJ) aY) h k
theorem As{α:Sort _}{b4:Sort _}{eD:Sort _}{qd:Sort _}{a3:Sort _}{bE:Sort _}{R:a3→bE→Prop}{f1:α→b4→eD→qd→a3}{a b:α}{aY:bE}{ba:b4}{cJ:eD}{mJ:qd}(h:a=b)(k:R (f1 b ba cJ mJ) aY):R (f1 a ba cJ mJ) aY:=fw (P:=λx=>R (f1 x ba cJ mJ) aY) h k
theorem DC{α:Sort _}{b4:Sort _}{eD:Sort _}{qd:Sort _}{a3:Sort _}{bE:Sort _}{R:a3→bE→Prop}{f1:α→b4→eD→qd→a3}{a b:α}{aY:bE}{ba:b4}{cJ:eD}{mJ:qd}(h:b=a)(k:R (f1 b ba cJ mJ) aY):R (f1 a ba cJ mJ) aY:=g8 (P:=λx=>R (f1 x ba cJ mJ) aY) h k
theorem mK{α:Sort _}{a3:Sort _}{bE:Sort _}{dc:Sort _}{R:a3→bE→dc→Prop}{f1:α→a3}{a b:α}{aY:bE}{cD:dc}(h:a=b)(k:R (f1 b) aY cD):R (f1 a) aY cD:=fw (P:=λx=>R (f1 x) aY cD) h k
theorem acT{α:Sort _}{a3:Sort _}{bE:Sort _}{dc:Sort _}{R:a3→bE→dc→Prop}{f1:α→a3}{a b:α}{aY:bE}{cD:dc}(h:b=a)(k:R (f1 b) aY cD):R (f1 a) aY cD:=g8 (P:=λx=>R (f1 x) aY cD) h k
theorem jL{α:Sort _}{b4:Sort _}{a3:Sort _}{bE:Sort _}{dc:Sort _}{R:a3→bE→dc→Prop}{f1:α→b4→a3}{a b:α}{aY:bE}{cD:dc}{ba:b4}(h:a=b)(k:R (f1 b ba) aY cD):R (f1 a ba) aY cD:=fw (P:=λx=>R (f1 x ba) aY cD) h k
theorem acU{α:Sort _}{b4:Sort _}{a3:Sort _}{bE:Sort _}{dc:Sort _}{R:a3→bE→dc→Prop}{f1:α→b4→a3}{a b:α}{aY:bE}{cD:dc}{ba:b4}(h:b=a)(k:R (f1 b ba) aY cD):R (f1 a ba) aY cD:=g8 (P:=λx=>R (f1 x ba) aY cD) h k
theorem rk{α:Sort _}{b4:Sort _}{eD:Sort _}{a3:Sort _}{bE:Sort _}{dc:Sort _}{R:a3→bE→dc→Prop}{f1:α→b4→eD→a3}{a b:α}{aY:bE}{cD:dc}{ba:b4}{cJ:eD}(h:a=b)(k:R (f1 b ba cJ) aY cD):R (f1 a ba cJ) aY cD:=fw (P:=λx=>R (f1 x ba cJ) aY cD) h k
theorem acV{α:Sort _}{b4:Sort _}{eD:Sort _}{qd:Sort _}{a3:Sort _}{bE:Sort _}{dc:Sort _}{R:a3→bE→dc→Prop}{f1:α→b4→eD→qd→a3}{a b:α}{aY:bE}{cD:dc}{ba:b4}{cJ:eD}{mJ:qd}(h:a=b)(k:R (f1 b ba cJ mJ) aY cD):R (f1 a ba cJ mJ) aY cD:=fw (P:=λx=>R (f1 x ba cJ mJ) aY cD) h k
theorem jg{α:Sort _}{a3:Sort _}{bE:Sort _}{dc:Sort _}{g9:Sort _}{R:a3→bE→dc→g9→Prop}{f1:α→a3}{a b:α}{aY:bE}{cD:dc}{fh:g9}(h:a=b)(k:R (f1 b) aY cD fh):R (f1 a) aY cD fh:=fw (P:=λx=>R (f1 x) aY cD fh) h k
theorem ix{α:Sort _}{b4:Sort _}{a3:Sort _}{bE:Sort _}{dc:Sort _}{g9:Sort _}{R:a3→bE→dc→g9→Prop}{f1:α→b4→a3}{a b:α}{aY:bE}{cD:dc}{fh:g9}{ba:b4}(h:a=b)(k:R (f1 b ba) aY cD fh):R (f1 a ba) aY cD fh:=fw (P:=λx=>R (f1 x ba) aY cD fh) h k
theorem iy{α:Sort _}{b4:Sort _}{eD:Sort _}{a3:Sort _}{bE:Sort _}{dc:Sort _}{g9:Sort _}{R:a3→bE→dc→g9→Prop}{f1:α→b4→eD→a3}{a b:α}{aY:bE}{cD:dc}{fh:g9}{ba:b4}{cJ:eD}(h:a=b)(k:R (f1 b ba cJ) aY cD fh):R (f1 a ba cJ) aY cD fh:=fw (P:=λx=>R (f1 x ba cJ) aY cD fh) h k
theorem DD{α:Sort _}{b4:Sort _}{eD:Sort _}{qd:Sort _}{a3:Sort _}{bE:Sort _}{dc:Sort _}{g9:Sort _}{R:a3→bE→dc→g9→Prop}{f1:α→b4→eD→qd→a3}{a b:α}{aY:bE}{cD:dc}{fh:g9}{ba:b4}{cJ:eD}{mJ:qd}(h:a=b)(k:R (f1 b ba cJ mJ) aY cD fh):R (f1 a ba cJ mJ) aY cD fh:=fw (P:=λx=>R (f1 x ba cJ mJ) aY cD fh) h k
theorem acW{α:Sort _}{a3:Sort _}{bE:Sort _}{dc:Sort _}{g9:Sort _}{nC:Sort _}{R:a3→bE→dc→g9→nC→Prop}{f1:α→a3}{a b:α}{aY:bE}{cD:dc}{fh:g9}{kL:nC}(h:a=b)(k:R (f1 b) aY cD fh kL):R (f1 a) aY cD fh kL:=fw (P:=λx=>R (f1 x) aY cD fh kL) h k
theorem acX{α:Sort _}{a3:Sort _}{bE:Sort _}{dc:Sort _}{g9:Sort _}{nC:Sort _}{R:a3→bE→dc→g9→nC→Prop}{f1:α→a3}{a b:α}{aY:bE}{cD:dc}{fh:g9}{kL:nC}(h:b=a)(k:R (f1 b) aY cD fh kL):R (f1 a) aY cD fh kL:=g8 (P:=λx=>R (f1 x) aY cD fh kL) h k
theorem acY{α:Sort _}{b4:Sort _}{a3:Sort _}{bE:Sort _}{dc:Sort _}{g9:Sort _}{nC:Sort _}{R:a3→bE→dc→g9→nC→Prop}{f1:α→b4→a3}{a b:α}{aY:bE}{cD:dc}{fh:g9}{kL:nC}{ba:b4}(h:a=b)(k:R (f1 b ba) aY cD fh kL):R (f1 a ba) aY cD fh kL:=fw (P:=λx=>R (f1 x ba) aY cD fh kL) h k
theorem fH{α:Sort _}{cc:Sort _}{a3:Sort _}{R:a3→Prop}{f1:cc→a3}{f2:α→cc}{a b:α}(h:a=b)(k:R (f1 (f2 b))):R (f1 (f2 a)):=fw (P:=λx=>R (f1 (f2 x))) h k
theorem DE{α:Sort _}{cc:Sort _}{a3:Sort _}{R:a3→Prop}{f1:cc→a3}{f2:α→cc}{a b:α}(h:b=a)(k:R (f1 (f2 b))):R (f1 (f2 a)):=g8 (P:=λx=>R (f1 (f2 x))) h k
theorem sC{α:Sort _}{dA:Sort _}{cc:Sort _}{a3:Sort _}{R:a3→Prop}{f1:cc→a3}{f2:α→dA→cc}{a b:α}{cH:dA}(h:a=b)(k:R (f1 (f2 b cH))):R (f1 (f2 a cH)):=fw (P:=λx=>R (f1 (f2 x cH))) h k
theorem HG{α:Sort _}{dA:Sort _}{cc:Sort _}{a3:Sort _}{R:a3→Prop}{f1:cc→a3}{f2:α→dA→cc}{a b:α}{cH:dA}(h:b=a)(k:R (f1 (f2 b cH))):R (f1 (f2 a cH)):=g8 (P:=λx=>R (f1 (f2 x cH))) h k
theorem DF{α:Sort _}{dA:Sort _}{jv:Sort _}{cc:Sort _}{a3:Sort _}{R:a3→Prop}{f1:cc→a3}{f2:α→dA→jv→cc}{a b:α}{cH:dA}{hu:jv}(h:a=b)(k:R (f1 (f2 b cH hu))):R (f1 (f2 a cH hu)):=fw (P:=λx=>R (f1 (f2 x cH hu))) h k
theorem DG{α:Sort _}{dA:Sort _}{jv:Sort _}{cc:Sort _}{a3:Sort _}{R:a3→Prop}{f1:cc→a3}{f2:α→dA→jv→cc}{a b:α}{cH:dA}{hu:jv}(h:b=a)(k:R (f1 (f2 b cH hu))):R (f1 (f2 a cH hu)):=g8 (P:=λx=>R (f1 (f2 x cH hu))) h k
theorem mL{α:Sort _}{cc:Sort _}{b4:Sort _}{a3:Sort _}{R:a3→Prop}{f1:cc→b4→a3}{f2:α→cc}{a b:α}{ba:b4}(h:a=b)(k:R (f1 (f2 b) ba)):R (f1 (f2 a) ba):=fw (P:=λx=>R (f1 (f2 x) ba)) h k
theorem OO{α:Sort _}{cc:Sort _}{b4:Sort _}{a3:Sort _}{R:a3→Prop}{f1:cc→b4→a3}{f2:α→cc}{a b:α}{ba:b4}(h:b=a)(k:R (f1 (f2 b) ba)):R (f1 (f2 a) ba):=g8 (P:=λx=>R (f1 (f2 x) ba)) h k
theorem OP{α:Sort _}{dA:Sort _}{cc:Sort _}{b4:Sort _}{a3:Sort _}{R:a3→Prop}{f1:cc→b4→a3}{f2:α→dA→cc}{a b:α}{ba:b4}{cH:dA}(h:a=b)(k:R (f1 (f2 b cH) ba)):R (f1 (f2 a cH) ba):=fw (P:=λx=>R (f1 (f2 x cH) ba)) h k
theorem HH{α:Sort _}{dA:Sort _}{cc:Sort _}{b4:Sort _}{a3:Sort _}{R:a3→Prop}{f1:cc→b4→a3}{f2:α→dA→cc}{a b:α}{ba:b4}{cH:dA}(h:b=a)(k:R (f1 (f2 b cH) ba)):R (f1 (f2 a cH) ba):=g8 (P:=λx=>R (f1 (f2 x cH) ba)) h k
theorem yi{α:Sort _}{dA:Sort _}{jv:Sort _}{cc:Sort _}{b4:Sort _}{a3:Sort _}{R:a3→Prop}{f1:cc→b4→a3}{f2:α→dA→jv→cc}{a b:α}{ba:b4}{cH:dA}{hu:jv}(h:b=a)(k:R (f1 (f2 b cH hu) ba)):R (f1 (f2 a cH hu) ba):=g8 (P:=λx=>R (f1 (f2 x cH hu) ba)) h k
theorem OQ{α:Sort _}{dA:Sort _}{cc:Sort _}{b4:Sort _}{eD:Sort _}{a3:Sort _}{R:a3→Prop}{f1:cc→b4→eD→a3}{f2:α→dA→cc}{a b:α}{ba:b4}{cJ:eD}{cH:dA}(h:a=b)(k:R (f1 (f2 b cH) ba cJ)):R (f1 (f2 a cH) ba cJ):=fw (P:=λx=>R (f1 (f2 x cH) ba cJ)) h k
theorem acZ{α:Sort _}{dA:Sort _}{cc:Sort _}{b4:Sort _}{eD:Sort _}{a3:Sort _}{R:a3→Prop}{f1:cc→b4→eD→a3}{f2:α→dA→cc}{a b:α}{ba:b4}{cJ:eD}{cH:dA}(h:b=a)(k:R (f1 (f2 b cH) ba cJ)):R (f1 (f2 a cH) ba cJ):=g8 (P:=λx=>R (f1 (f2 x cH) ba cJ)) h k
theorem dU{α:Sort _}{cc:Sort _}{a3:Sort _}{bE:Sort _}{R:a3→bE→Prop}{f1:cc→a3}{f2:α→cc}{a b:α}{aY:bE}(h:a=b)(k:R (f1 (f2 b)) aY):R (f1 (f2 a)) aY:=fw (P:=λx=>R (f1 (f2 x)) aY) h k
theorem k7{α:Sort _}{cc:Sort _}{a3:Sort _}{bE:Sort _}{R:a3→bE→Prop}{f1:cc→a3}{f2:α→cc}{a b:α}{aY:bE}(h:b=a)(k:R (f1 (f2 b)) aY):R (f1 (f2 a)) aY:=g8 (P:=λx=>R (f1 (f2 x)) aY) h k
theorem gS{α:Sort _}{dA:Sort _}{cc:Sort _}{a3:Sort _}{bE:Sort _}{R:a3→bE→Prop}{f1:cc→a3}{f2:α→dA→cc}{a b:α}{aY:bE}{cH:dA}(h:a=b)(k:R (f1 (f2 b cH)) aY):R (f1 (f2 a cH)) aY:=fw (P:=λx=>R (f1 (f2 x cH)) aY) h k
theorem yj{α:Sort _}{dA:Sort _}{cc:Sort _}{a3:Sort _}{bE:Sort _}{R:a3→bE→Prop}{f1:cc→a3}{f2:α→dA→cc}{a b:α}{aY:bE}{cH:dA}(h:b=a)(k:R (f1 (f2 b cH)) aY):R (f1 (f2 a cH)) aY:=g8 (P:=λx=>R (f1 (f2 x cH)) aY) h k
theorem ac0{α:Sort _}{dA:Sort _}{jv:Sort _}{cc:Sort _}{a3:Sort _}{bE:Sort _}{R:a3→bE→Prop}{f1:cc→a3}{f2:α→dA→jv→cc}{a b:α}{aY:bE}{cH:dA}{hu:jv}(h:a=b)(k:R (f1 (f2 b cH hu)) aY):R (f1 (f2 a cH hu)) aY:=fw (P:=λx=>R (f1 (f2 x cH hu)) aY) h k
theorem DH{α:Sort _}{dA:Sort _}{jv:Sort _}{cc:Sort _}{a3:Sort _}{bE:Sort _}{R:a3→bE→Prop}{f1:cc→a3}{f2:α→dA→jv→cc}{a b:α}{aY:bE}{cH:dA}{hu:jv}(h:b=a)(k:R (f1 (f2 b cH hu)) aY):R (f1 (f2 a cH hu)) aY:=g8 (P:=λx=>R (f1 (f2 x cH hu)) aY) h k
theorem gT{α:Sort _}{cc:Sort _}{b4:Sort _}{a3:Sort _}{bE:Sort _}{R:a3→bE→Prop}{f1:cc→b4→a3}{f2:α→cc}{a b:α}{aY:bE}{ba:b4}(h:a=b)(k:R (f1 (f2 b) ba) aY):R (f1 (f2 a) ba) aY:=fw (P:=λx=>R (f1 (f2 x) ba) aY) h k
theorem Au{α:Sort _}{cc:Sort _}{b4:Sort _}{a3:Sort _}{bE:Sort _}{R:a3→bE→Prop}{f1:cc→b4→a3}{f2:α→cc}{a b:α}{aY:bE}{ba:b4}(h:b=a)(k:R (f1 (f2 b) ba) aY):R (f1 (f2 a) ba) aY:=g8 (P:=λx=>R (f1 (f2 x) ba) aY) h k
theorem gz{α:Sort _}{dA:Sort _}{cc:Sort _}{b4:Sort _}{a3:Sort _}{bE:Sort _}{R:a3→bE→Prop}{f1:cc→b4→a3}{f2:α→dA→cc}{a b:α}{aY:bE}{ba:b4}{cH:dA}(h:a=b)(k:R (f1 (f2 b cH) ba) aY):R (f1 (f2 a cH) ba) aY:=fw (P:=λx=>R (f1 (f2 x cH) ba) aY) h k
theorem OR{α:Sort _}{dA:Sort _}{cc:Sort _}{b4:Sort _}{a3:Sort _}{bE:Sort _}{R:a3→bE→Prop}{f1:cc→b4→a3}{f2:α→dA→cc}{a b:α}{aY:bE}{ba:b4}{cH:dA}(h:b=a)(k:R (f1 (f2 b cH) ba) aY):R (f1 (f2 a cH) ba) aY:=g8 (P:=λx=>R (f1 (f2 x cH) ba) aY) h k
theorem yk{α:Sort _}{dA:Sort _}{jv:Sort _}{cc:Sort _}{b4:Sort _}{a3:Sort _}{bE:Sort _}{R:a3→bE→Prop}{f1:cc→b4→a3}{f2:α→dA→jv→cc}{a b:α}{aY:bE}{ba:b4}{cH:dA}{hu:jv}(h:a=b)(k:R (f1 (f2 b cH hu) ba) aY):R (f1 (f2 a cH hu) ba) aY:=fw (P:=λx=>R (f1 (f2 x cH hu) ba) aY) h k
theorem OS{α:Sort _}{dA:Sort _}{jv:Sort _}{cc:Sort _}{b4:Sort _}{a3:Sort _}{bE:Sort _}{R:a3→bE→Prop}{f1:cc→b4→a3}{f2:α→dA→jv→cc}{a b:α}{aY:bE}{ba:b4}{cH:dA}{hu:jv}(h:b=a)(k:R (f1 (f2 b cH hu) ba) aY):R (f1 (f2 a cH hu) ba) aY:=g8 (P:=λx=>R (f1 (f2 x cH hu) ba) aY) h k
theorem OT{α:Sort _}{cc:Sort _}{b4:Sort _}{eD:Sort _}{a3:Sort _}{bE:Sort _}{R:a3→bE→Prop}{f1:cc→b4→eD→a3}{f2:α→cc}{a b:α}{aY:bE}{ba:b4}{cJ:eD}(h:a=b)(k:R (f1 (f2 b) ba cJ) aY):R (f1 (f2 a) ba cJ) aY:=fw (P:=λx=>R (f1 (f2 x) ba cJ) aY) h k
theorem Av{α:Sort _}{cc:Sort _}{b4:Sort _}{eD:Sort _}{a3:Sort _}{bE:Sort _}{R:a3→bE→Prop}{f1:cc→b4→eD→a3}{f2:α→cc}{a b:α}{aY:bE}{ba:b4}{cJ:eD}(h:b=a)(k:R (f1 (f2 b) ba cJ) aY):R (f1 (f2 a) ba cJ) aY:=g8 (P:=λx=>R (f1 (f2 x) ba cJ) aY) h k
theorem wi{α:Sort _}{dA:Sort _}{cc:Sort _}{b4:Sort _}{eD:Sort _}{a3:Sort _}{bE:Sort _}{R:a3→bE→Prop}{f1:cc→b4→eD→a3}{f2:α→dA→cc}{a b:α}{aY:bE}{ba:b4}{cJ:eD}{cH:dA}(h:a=b)(k:R (f1 (f2 b cH) ba cJ) aY):R (f1 (f2 a cH) ba cJ) aY:=fw (P:=λx=>R (f1 (f2 x cH) ba cJ) aY) h k
theorem Aw{α:Sort _}{dA:Sort _}{cc:Sort _}{b4:Sort _}{eD:Sort _}{a3:Sort _}{bE:Sort _}{R:a3→bE→Prop}{f1:cc→b4→eD→a3}{f2:α→dA→cc}{a b:α}{aY:bE}{ba:b4}{cJ:eD}{cH:dA}(h:b=a)(k:R (f1 (f2 b cH) ba cJ) aY):R (f1 (f2 a cH) ba cJ) aY:=g8 (P:=λx=>R (f1 (f2 x cH) ba cJ) aY) h k
theorem DI{α:Sort _}{dA:Sort _}{jv:Sort _}{cc:Sort _}{b4:Sort _}{eD:Sort _}{a3:Sort _}{bE:Sort _}{R:a3→bE→Prop}{f1:cc→b4→eD→a3}{f2:α→dA→jv→cc}{a b:α}{aY:bE}{ba:b4}{cJ:eD}{cH:dA}{hu:jv}(h:a=b)(k:R (f1 (f2 b cH hu) ba cJ) aY):R (f1 (f2 a cH hu) ba cJ) aY:=fw (P:=λx=>R (f1 (f2 x cH hu) ba cJ) aY) h k
theorem OU{α:Sort _}{cc:Sort _}{a3:Sort _}{bE:Sort _}{dc:Sort _}{R:a3→bE→dc→Prop}{f1:cc→a3}{f2:α→cc}{a b:α}{aY:bE}{cD:dc}(h:a=b)(k:R (f1 (f2 b)) aY cD):R (f1 (f2 a)) aY cD:=fw (P:=λx=>R (f1 (f2 x)) aY cD) h k
theorem oh{α:Sort _}{dA:Sort _}{cc:Sort _}{a3:Sort _}{bE:Sort _}{dc:Sort _}{R:a3→bE→dc→Prop}{f1:cc→a3}{f2:α→dA→cc}{a b:α}{aY:bE}{cD:dc}{cH:dA}(h:a=b)(k:R (f1 (f2 b cH)) aY cD):R (f1 (f2 a cH)) aY cD:=fw (P:=λx=>R (f1 (f2 x cH)) aY cD) h k
theorem ac1{α:Sort _}{dA:Sort _}{cc:Sort _}{a3:Sort _}{bE:Sort _}{dc:Sort _}{R:a3→bE→dc→Prop}{f1:cc→a3}{f2:α→dA→cc}{a b:α}{aY:bE}{cD:dc}{cH:dA}(h:b=a)(k:R (f1 (f2 b cH)) aY cD):R (f1 (f2 a cH)) aY cD:=g8 (P:=λx=>R (f1 (f2 x cH)) aY cD) h k
theorem OV{α:Sort _}{cc:Sort _}{b4:Sort _}{a3:Sort _}{bE:Sort _}{dc:Sort _}{R:a3→bE→dc→Prop}{f1:cc→b4→a3}{f2:α→cc}{a b:α}{aY:bE}{cD:dc}{ba:b4}(h:a=b)(k:R (f1 (f2 b) ba) aY cD):R (f1 (f2 a) ba) aY cD:=fw (P:=λx=>R (f1 (f2 x) ba) aY cD) h k
theorem OW{α:Sort _}{cc:Sort _}{b4:Sort _}{a3:Sort _}{bE:Sort _}{dc:Sort _}{R:a3→bE→dc→Prop}{f1:cc→b4→a3}{f2:α→cc}{a b:α}{aY:bE}{cD:dc}{ba:b4}(h:b=a)(k:R (f1 (f2 b) ba) aY cD):R (f1 (f2 a) ba) aY cD:=g8 (P:=λx=>R (f1 (f2 x) ba) aY cD) h k
theorem Ax{α:Sort _}{dA:Sort _}{cc:Sort _}{b4:Sort _}{a3:Sort _}{bE:Sort _}{dc:Sort _}{R:a3→bE→dc→Prop}{f1:cc→b4→a3}{f2:α→dA→cc}{a b:α}{aY:bE}{cD:dc}{ba:b4}{cH:dA}(h:a=b)(k:R (f1 (f2 b cH) ba) aY cD):R (f1 (f2 a cH) ba) aY cD:=fw (P:=λx=>R (f1 (f2 x cH) ba) aY cD) h k
theorem dG{a b:Bool}{P:Prop}(h:(a&&b)=true)(k:a=true→b=true→P):P:=by
 cases a
 ·exact vV h
 ·exact k rfl h
variable{a1:Bool}{a0:Bool}{a2:Bool}
theorem pg{P:Prop}(h:(a0&&(a1&&a2))=true)(k:a0=true→a1=true→a2=true→P):P:=dG h λx h=>dG h (k x)
variable{dB:Bool}
theorem wj{P:Prop}(h:(a0&&(a1&&(a2&&dB)))=true)(k:a0=true→a1=true→a2=true→dB=true→P):P:=dG h λx h=>pg h (k x)
variable{eb:Bool}
theorem DJ{P:Prop}(h:(a0&&(a1&&(a2&&(dB&&eb))))=true)(k:a0=true→a1=true→a2=true→dB=true→eb=true→P):P:=dG h λx h=>wj h (k x)
variable{g6:Bool}
theorem DK{P:Prop}(h:(a0&&(a1&&(a2&&(dB&&(eb&&g6)))))=true)(k:a0=true→a1=true→a2=true→dB=true→eb=true→g6=true→P):P:=dG h λx h=>DJ h (k x)
variable{ia:Bool}
theorem OX{P:Prop}(h:(a0&&(a1&&(a2&&(dB&&(eb&&(g6&&ia))))))=true)(k:a0=true→a1=true→a2=true→dB=true→eb=true→g6=true→ia=true→P):P:=dG h λx h=>DK h (k x)
variable{k6:Bool}
theorem ac2{P:Prop}(h:(a0&&(a1&&(a2&&(dB&&(eb&&(g6&&(ia&&k6)))))))=true)(k:a0=true→a1=true→a2=true→dB=true→eb=true→g6=true→ia=true→k6=true→P):P:=dG h λx h=>OX h (k x)
variable{nB:Bool}
theorem OY{P:Prop}(h:(a0&&(a1&&(a2&&(dB&&(eb&&(g6&&(ia&&(k6&&nB))))))))=true)(k:a0=true→a1=true→a2=true→dB=true→eb=true→g6=true→ia=true→k6=true→nB=true→P):P:=dG h λx h=>ac2 h (k x)
variable{rh:Bool}
theorem ac3{P:Prop}(h:(a0&&(a1&&(a2&&(dB&&(eb&&(g6&&(ia&&(k6&&(nB&&rh)))))))))=true)(k:a0=true→a1=true→a2=true→dB=true→eb=true→g6=true→ia=true→k6=true→nB=true→rh=true→P):P:=dG h λx h=>OY h (k x)
theorem ac4{wd:Bool}{P:Prop}(h:(a0&&(a1&&(a2&&(dB&&(eb&&(g6&&(ia&&(k6&&(nB&&(rh&&wd))))))))))=true)(k:a0=true→a1=true→a2=true→dB=true→eb=true→g6=true→ia=true→k6=true→nB=true→rh=true→wd=true→P):P:=dG h λx h=>ac3 h (k x)
theorem ac5{wd OZ:Bool}{P:Prop}(h:(a0&&(a1&&(a2&&(dB&&(eb&&(g6&&(ia&&(k6&&(nB&&(rh&&(wd&&OZ)))))))))))=true)(k:a0=true→a1=true→a2=true→dB=true→eb=true→g6=true→ia=true→k6=true→nB=true→rh=true→wd=true→OZ=true→P):P:=dG h λx h=>ac4 h (k x)
inductive V where
 |none |bool (b:Bool) |int (i:Int) |str (n:Nat) |ref (a:Nat) |kM (n:Nat) |tup (vs:List V)
def HI:List String:=["","+","?","?x","?y","alike","all","cards","d","dealt","either","half","like","lost","most","nodes","none","o","odd","once","order","p","pairs","places","repeat","rests","rule","seq","swap","terms","together","turns","twice","unlike"]
def tab(n:Nat):Option Str:=(HI.map er)[n]?
end
namespace V
mutual
example:=⟨hR 1 2,1∧2⟩
noncomputable def x:=1
variable{α:Sort u}
def Ay(v:V)(d:α)(f:Bool→α):α:=V.casesOn v d f (λO=>d) (λO=>d) (λO=>d) (λO=>d) (λO=>d)
def mb(v:V)(d:α)(f:Int→α):α:=V.casesOn v d (λO=>d) f (λO=>d) (λO=>d) (λO=>d) (λO=>d)
def onStr(v:V)(d:α)(f:Nat→α):α:=V.casesOn v d (λO=>d) (λO=>d) f (λO=>d) (λO=>d) (λO=>d)
def oi(v:V)(d:α)(f:Nat→α):α:=V.casesOn v d (λO=>d) (λO=>d) (λO=>d) f (λO=>d) (λO=>d)
def eM(v:V)(d:α)(f:List V→α):α:=V.casesOn v d (λO=>d) (λO=>d) (λO=>d) (λO=>d) (λO=>d) f
def isTup(v:V):Bool:=v.eM false λO=>true
def O0(x:V):Bool:=V.casesOn x true (λO=>true) (λO=>true) (λO=>true) (λO=>false) (λO=>false) (λws=>ws.casesOn false λa O=>a.isTup)
end
end V
mutual
example:=⟨hR 1 2,1∧2,.ref,.exp,fS ZT K rfl Y2 ?_,gP _ _,s.heap.get? b,some YA,some y,au az Y2,cW h.symm,.Name,.for,Y0 b,List Env,eN ..,λO O z=>z.elim,Option Value,aB no mh ab,bR aF,bY 0,by exact Y2,ht ?_,nb h,some c,some j,v::vs,λO O=>false,.Call,Y5 [],List Tab,some YPy,λO O=>true,Y0 p,Array Z7,Option Nat,bl.h=A.h,ef w u,fm N,h.get? a,if_pos rfl,mh a,some Ym,st.1,z.3.elim,YK true,Bool→Y6,Nat×Nat,hG ..,some a,z.2.trans,λO O O=>rfl,λO O O=>true,(h A s aG ae aN).mono,(n:Int),.v n,eval e env,f p.2,s.heap.get? a,some Y1M,({s with heap:=h',toks:=tk}),.op fj [],Nat→Z9,a9 h xs vs,Prop,aB.new ah,cv×Bool,dW bO L,eR o r,eq_of_beq h,f p.1,iH ?_,λO O O O=>true,.Tuple,YK false,Y0 I,Y3→Y6→Y6,Nat×ct,ay a,by kernel_rfl,cI r i,hs.2,jt _,s.heap.objs.size+1,x.1.2,.one,Y0 A.h,Array Value,Y3→Ys,List fT,S.e+YLH,[a,b],b8 a b,bR h,eL ..,envX env,es.map Yh,fp _ _,λO O O O=>false,Y0 B.b,[v 2],bB Yq,bY 1,de g env ns r mh s,eq_of_beq q,hT _,putN t a N,some (t,YC4),λO O O O O O=>rfl,λO O O=>false,λO=>false,("__debug__":Str),Y0 x,Bool→YP,aa e Y23,bS.2,cL h,canon S.f x,putN t p N,q∈cB,wpAny_pure h,y.1.1,(·.2),YK b,ab b,b8 e.1 k,dl tt,by exact Yf,d3 mh A S,d8 _ b3,dr t,env.kindOf n,env::l,some Z0L,λO O=>False,λO=>true,(jY _).mp,Y0 s.heap.objs.size,List cE,[v 3],[x,y],aK h x v,aN.ez z.2,aj YF ?_,i<S.N.length,some es,x.2.1,λO O O O=>trivial,λO O=>rfl,(bT xs).size,.empty,YD YcR,List (a8×Nat),ah.1,dk.2.1,eU h h',jH x y,k+13,n≤1000,roots N.length f,some YA3,vs.length≤1000001,x.1.1,x.2.elim,(e7 cl es).1,(·=I),.Attribute,Y0 D,Y0 f,YE "tuple",Y3→Y5U,S.N.length≤13,aK s.heap x v,ah.2,c<S.N.length,canon f x,dy af,eG S pend,hk S,i<N.length,if_neg YC,je rfl,ka m i pt,some Y34,some YPT,some YPe,some m,v.iU 0 id,List V,λO h=>h.elim,(r:YNk),Y0 d,Y4 q.1,YD [],List Z7,Q v m,S.f j,a9 s.heap xs vs,ay b,ay n,ay w,bS.1,beq_self_eq_true ..,c.cN.lookup n,jI _,jr tr most,need m,some Y8T,some none,t.put j,w.2.2,wr b,x.2.length,{cls:=YA7,data:=Y9 #[]},λO O z=>z,(gf S x cs).f,YI i,Y0 z,Yy _,A.units+20<cLine,Shared→Y6,aK s.heap v m,ay c,dep a,eG S [],er nm,iE ..,j6 env c,most≤10,Y0u=Y6b,some Y4p,some (t,Y9 c es),w.2.1,λr m z=>?_,(i:Int),(·+1),.op fi YfL,V→Bool,aS ?_,fv mh B (N,P) ext,gu p=true,iI ..,jE t,kv x,Y0d=Y1h,some (Y0 fb),Yql=YQ,λO=>False,λacc m z=>?_,⟨rfl,?_⟩,.str,YZv ZQC,Y09 n p,Y0 e,Y0 it,.seq,YD (ZE::YWY),Nat→YFJ,Result→YP,S.f c,a4 l,a5 g mh s',a6 cl s r m Qn Qr,aB ea mh aW,aK.ofInt _ _,aq.1,cu e,de g env c.ns r mh s,dk.1,eo af,hN o=true,lO lt,m.2.2,ml scope env C,o6 ..,s'.os=s.os,s.1.length,Zi.2,λO O O O O=>none,λO O h=>h,λO O=>nc,⟨0,?_⟩,(8,Y0R),(Y2:2≤1000001),(es[·]?),.Constant,.b o a b,Y5 acc,YE "list",.u 8 c5,K.1.1.keeps,N.length≤13,N[i]?=YQ,Yec=YQ,Type,a cl,a4 aZ,a5 g m s,aG.3,aa e ?_,absurd h cS,ay i,bB YG,bO x,bo.1,cW e.symm,cu h,cv→Y12,d2 w h xs es,es.size+1,f.trans f2,h.get? b,.list,hH _ _,jG N,l[i]?,mf aA,run lt,s'.gens=s.gens,some Y3Y,some YPG,some e,x.2.map,Zi.1,y.2.elim,z.1.1,λe=>?_,⟨h,g,d,t,os⟩,(Y2:1≤2),(Y2:3≤1000001),YEp elt (YZN::rest) scope pos,.function,A.deeper env,Y3→Bool,Y0F→YP,Yp→bG,Sem Value,Unit→YP,V→Y1,aB.new d7,aU g (k+2),ae.1,bG→Y6,bN q e,b≠a,cI r 0,d.length+1,eu _ e,gN mh A R tr most cQ u c P S,hl N P f,ik s,lZ.3,noStar es=true,r.set i Ym,some Z1f,some Y6e,some n,st.4,t.map gF,w2.2,λO=>1,λO=>True,⟨#[ch]⟩,(0,Y0R),(S.N++[x]).length,(cu h).symm,(Y2:2≤2),(lo+af) / 2,ZVD=false,YyO j Y6d,.Assign,.call,.compLoop,YY h,ag→Y1,YJ rfl,.nm 2,.of b5,Y0 w,.stmts,YE T,Option Ye,P [] r m,V×V,["self"],aB no m ab,aU g YmN,ai r,aq.2,b=true,bT bf,bd ?_,bw ..,by simp,di n,ej YDB,es.length≤1000000,gf S x cs,h'.get? a,hk S c,i8 N f c,Y7o - i,ir t,k+18,mh b,mh d,nb ao,ns[i]?=Y5i,Y04=none,some Y0B,some Y64,some ZPD,some Y6y,some b,some k,ZJ.2,z.1.2,α→V,λh O=>h,λh=>?_,⟨_,ZW,rfl,rfl⟩,(0:Int),(a7.N,e1),Y8D c Y7,(dz aF).elim,Y14.1,(hi N).lookup,(o,r.2),Y1s.1,YEp elt [⟨t1,dM,[],0⟩,⟨cy,dt,ifs,0⟩] scope pos,.Subscript,.and,.done,.error,.free,YI i t,.none,.live,.nm 3,.op oTup [bK 3],Y0 h,Y0 l,.u o a,51+8*i,Array GenState,F a r.1,Inner c scope own caps,L.2.1,List (Str×Addr),Y3→Y1,Option α,P Y0O r m,Sem α,TabAt mh a t,a.2.4,a.length=b.length,Y8o→Q Y0B aW,aB no mh m,aK.oj _,aL Y0k ?_,aS Y3z,ae.2,ae.3,ai.1,ao.1,ar.2,au aE Y2,ay S.N.length,ay p.2,bG→Y1,bW e Yg2,bb.1,bb.2,cU 636,congrArg l5 e,d9 he h,dE q,dI v n=true,dR p i,eval o env,f1.trans f2,fp 1 1000000,hU s.heap s'.heap,hm.2,hv vs=true,i<vs.length,iS m i,k+26,k5 _,kN Yf,l.map kv,ma ⟨cS,lC⟩,nt aq,ok u,putL t d N,putN t Y4d N,putN t b Y1g.1,sn "__init__",Value→YP,some (.kM 4),some ZS9,x=YA,({s with toks:=YHk}),λO O O O O O O=>rfl,λO=>0,λacc bF=>alloc bF Y4b Q,λq aF=>YFv,λv aO=>?_,⟨_,_,B.1,trivial⟩,(0,Y5 YRN),(apos.endLine==pos.line)=true,(bM N).getD,(bM N).length,Yr[i]?,(di 4).map,(di n).map,(eL _).symm,Y14.2,(ee aD).elim,(false,Y0s),(gG h).elim,(none,YZR),.UnaryOp,.bad,YI n,Y5 ((a4 P).set y YCj),.next,Y0 pl,YD ws,.var i,BEq α,LawfulBEq α,List Int,List T,Yd×YV,N.length≤1000,Q v mh,S.f a,Step cX s0 m0 s mh,Stores env n,W.te _,Z.3.1,[.op kT Zg],[YA],[Y4 32,Y4 28,Y4 11,Y4 16],[S.N.length],a4 L,aB jF mh ab,aB no mh aW,aB.new jT,acc.length≤1000000,Y5T b o e,ar.1,aw (cst Y3o),ay j,bB q,c.ns[i]?,cL ar,dR p Y9Q,eH tr most a s,.dict,eR o (N,aZ),eU s.heap h',env.cells.lookup n,ep+1,eq_of_beq bD,eq_of_beq e,f7 m h N,fO ..,g.h₀.get? b,gV c ec=true,h.2.2,hU s.heap h',hq q,i6 S.f S.N.length,iR h.2 q s.1,ZRi=true,i≤m,j1 es k,jw Q,kD.trans bx,m::ms,m=mh,mH m i pt,Y0d=none,Y6U=YB,n - 1,nb c,ps.length≤2,q.2.keep,q2 L q R,r.2.2,s H c r,Y04=YB,s.heap.get? d=Y9a,some Y1b,some YLl,t.lookup n,v∈us,z.2.keep,α→YP,λO O O O O O=>nb,λO O=>d _,λO=>[],λi h=>se h,⟨_,aA,rfl⟩,(a4 P).length,(ee aO).elim,(Y1W),(gf S x cs).use,(i:Nat),(jX C::YMC).contains,(jm aO).elim,(l+r) / 2,(pN _ _ _).trans,(u9 m).advance,.c 17,.c o,.either a b,YY q,Y5 (YKc++Z9Z),.op ZFe YT,Y0 a,.op fi YfM,Y0 A.u,Y0 R.r,Y0 y,YCC i j,YE "Exception",YE "dict",D.1.lt,N++[x],Option Fin×PUnit,P++fr,Q m mh,S.N++[x],S.e+1,S.use y,Str→Y0F,V.str_inj e,Z.2.1,[(3,x)],[v 1,YGB],a5 g ab s',aC.1,aC.2,aK s.heap key ec,aU g (k+40),ab a,any_false lh,ay y,ay z.2,Y1p.2,bZ.2,cI r j,cL q,cR p,cU 660,canon f z.1,compat a b,d++[x],dD.1.le,dT q ?_,decide (0<j),dep b,dr x.2,eS [] 0 p,eS t N.length p,ea t=true,eval x env,e▸rfl,gh p,gk #[] 0 (.fresh 0 0 YDd),h.get? S,hP mh A n f e,hZ e H c x,i6 S.f S.N.length i,j0 a b,j<S.N.length,jb ab bX,kz q,l.1.1,m6 n p,max Y8d YCS,some o,Y6U=none,Y6V=Y3h,mh ei=ZZx,n≤1000001,n≤m,o3 g C B vT cell,oC o=true,p.getD Y9Q 0,plainT e=true,ps.map gh,putL t ps N,q.2.1.elim,ql I it,q▸Yf,YMy=Y0e,Y9X→YGq,s.toks+1,so ..,some (Y0 fD),some Y8u,some (t,ZD C fs),some (t,ZD C vs),t.fits es.size=true,t.slot j,YHy=some s,v 10,ve Y2,vh Y2,vi Y2,vn ..,x4 ..,y::bf,({s with heap:=s.heap.push Y3P}),α→Y3W,λO h=>h,λq=>?_,∃X,M=YKD,⟨[],Y8I⟩,⟨fd.scope.names,rQ⟩,(N,[]),(ae.here e).elim,(bH cl t).2,(cP.fP cM).symm,(dE n).trans,(dE q).trans,(dz h).elim,Y3R S.N.length,(h,x),Y1s.2,(q,YmD),(t.lookup n).getD 0,(t.lookup x).getD 0,(t.map gF).length,Y3L.2,.BoolOp,.Compare,.b 1 c5 c5,YY e,YI 0 0,Y5 Y41,Y5 (Y41++Z9V),by decide,Y5 (Z5V++[YG8]),Y5 (W++[V.int (1+(intsOf YOZ).sum)]),Y5 Z9V,Y5 vs,.op (b2 198 0) YT,.op (b2 405 0) YT,.op fc [v 0,bK 29],Y0 h.objs.size,Y4 j,Y4 x.1,YD (ZE::Yo4),.two,YE "set",2 ^ YLH,52*16,Array Int,B.2.elim,D.10,G.8 i af hf,K.1.3,List Y0j,List (Str×Value),List Y69,List (α×Nat),List Comprehension,Q false s,Qn r m,S.f b,Step.grow (s':=Yx) b5,Unit→Y3W,[(3,a)],[v 0,.op nR YfM],[v 4],a4 x.2,a7.e+cnt a7,aT e ?_,aU g YVI,aW b,aa e rfl,absurd h (pa i),addrs Y26,ae.grow (s':=Yx) b5 rfl rfl,ag→Yv1,ai.2,ay x,ay x.1,a≠b,b z.1,Yr++[Y2P],bN q w,bR ah,bZ.1,beq_false_of_ne q,bg.fP bx,c+676*4,cl 1 t,cu q,d++x::rest,d8 _ Y2t,dep YG,dr y.2,.tup,eF a b,envX env b,er "__next__",er n,es++[m],es++ms,es[i]?,execs body env,f a=f b,fE aA,fE e,fL Yr t p,fZ hz,YGg.1,fs.length≤100,g.h₀.get? D=none,gi ..,h s.toks,Y0b=YB,Y4z=YB,hB a,hF p,iR t q S.N,ib h ns xs vs,ie c es,if_neg e,if_neg h8,isList aA,i≤fs.length,j - 1,jn mh A S f e E hj X W,k+12,k+17,k+6+ZV,kW q,l.map Yh,l8 ..,lI g wr mh,lq w,lt YGU Y7g,mE a s.heap h',max (f a) (f b),md vs n=true,min Y8d YCS,min (f a) (f b),nJ hs ..,nL n,nV xs,nu q.1 R,o9 _,ou aA,pure x,putN t Y9u N,p∈e1,q.2.2.keep,q.un.1,q.un.2,roots n f,s.2.length,Y0u=none,s2.2,.type,sh x,some YCj,some l,some ⟨hV,iJ,YPa,eB⟩,st.1.elim,Zb.1,uk bZ,uw Q,u∉us,v.isInt=true,v.isStr=true,vals.drop i,vs.getD i Y7,w2.1,Y1K.1,x.2==Y6y,z.1.grow,Y0m y.2,{cls:=YQH,data:=ZY #[YA,YBx]},({s1 with heap:=h'}),λO O O O=>d _,λO O e=>e,λO e=>hn e,λQ' q=>bc rfl q,λbD bC=>?_,λi af hf=>?_,λi af=>?_,λm hm=>?_,λt h=>xN Y0J t h,λx z=>?_,∃o,g.h₀.get? sysModules=YB,⟨rfl,h⟩,(YKQ::YWY).length≤1000001,(bH cl elt).1,(bH cl o).1,Z1[i]?,(Y2:0≤100),(Y2:4≤1000001),Y91.1,(Y1W).Nodup,(gM S x0 df).use,Y6q x,(n,v),(p.2==uc&&ZMr&&env.kindOf p.1==Y2w)=true,Y1g.2,(r[0]?).getD none,(roots N.length dZ).length,(roots N.length f).length,(stN L t a).elim,(·<·),.ListComp,YEp elt gens scope pos,.Return,.Slice,.all,.compStart,Y9 1 es,YI (-1),Ya YTA (v 1) YT,.nm 1,.not,bt ..,.of Y51,.op (b2 617 1) YT,.op (b2 617 5) YT,.op gW [Ybj,v 1],Y0 A.b,Y0 B,.rep a n,YS (pI false),Y4 3,Y4 31,34+8*i,676*16,A.e4 i,Bool→Y1,D.11,D.4.1,D.4.2,H.eA.lookup C=YE3,Heap→Y1,Inv m,J n r m,L.lookup YP5,L.lookup x,List YRJ,List iD,N++[Z6],Nat×cE×cE,Nat→Nat→Y7D,Option Z8T→YP,Q Y7 aW,Q vs,Q x m,R.3 p ar,S.N.length*Z2P,S.ed.lookup Y1r,Za=i,Y38=Za,S.use i,S.use j,S.wait=[],Sem Bool,Step X s mh s' aW,Step cX s0 m0 s m,V.none=Y7,Z.1.no,[(YHb.2,Y9F.2)],[(Y1r,i)],aB jF mh m,Y0G→YeS,aB p m ab,aE l w,aK h e.key m.1,aK.ofBool _,aQ nz h,aT h ?_,aU g (k+5),absurd aF cS,ae.4,ae.5,ai h,aj g5 (aT YF ZEk),q.2.1,ar _ (c7.abs ae w rfl rfl) c7,au Yk (dH w.symm),av.1,av.2,ay N.length,b cl,bH cl a,bO Z6,bR aO,bR q,bY 2,bd Zl,bo.2,by rw[cj];rfl,b≠S,Y3F=Y27,c7.1,cB[i]?=YpL,YAW=Yoy,cK.f a,cK.f b,cU 648,cb w.2 ?_,ck.2,compat v u=true,cu aC,cv×Ydn,d.foldl st N,dD.1.1,dR p k,decide (a[j]?=b[j]?),dr a,e::es,eH tr most a ZX,eI _ b3,eX.4,env.frame=some env.locals,eq_of_beq bC,e▸Y23,fV n v=true,fZ ZTE,fg.3,g.yn C,g4 e,gG h,gO B pp Y3H,gO B pp ext,gX w h l us,gn q h,gx N f,h a b3,Yl5=YB,h.2.1,Y0b=Y6b,h.objs.size+1,hF a,hN x.1=true,hQ×Y1P,isList aq,isSet e=false,i≤j,List Str,jU.1,jb m bX,jb mh bX,jj m,js g l mh s.heap,k a rfl h,k+14,k+19,k+d+1,kV mh A N,kb m L YaV,kl p,ku t i,l0.1,lG hd ak,lG he h,lM as,lu S.N P S.f,lz Yr x,m.2.1,Y4M.1,Y4M.2,m4 a b,Y0d=YBM,mh=m,n - d.length,n=28,nO e,nb d,o7 prog w,of_decide_eq_true q,ok.1,ox a l,pI true,propext xT,pt.2.2,putN h.2 YG s.1,pyNext Y1B,YWg y.2.4,q.1.symm,q.2.elim,q▸h,r.1.length,run lt (kas_asc p f n),runN most (YVZ) YJ2,s.toks+iT ec,s1.heap.push Zfc,seqObj "list" #[] 0,sliceBounds none YpH none Y2N,some ZE,some Y3B,some _,sr h,stN L t a,t.dummies=#[],t.place[i]?,tG S o pl t,tI Y21 h.1,ta ns.length args,tab n,ti ..,.int,tp l,u.2.2,u2 h iN es,u5 1,ue _ _,uh ..,v=ZZ,vJ rfl (Y2:3≤18) Y2,vars p,vs.all V.isInt=true,vs[i]?,YIB=Ym,w.1.symm,wpAny_loadPart_at gE ?_,wpAny_pure aF,x.2.1.elim,ZJ.1,Y3O≤2,xa mh A,y.3.elim,ya ..,yi q c,z.1.symm,z.2.4,z.2.elim,zC az,zk aE,({s with toks:=tk}),α→Bool,α→Y1,α→β,λK L ao h=>eP ao λy O q=>Y5C λp e=>?_,λO O O O O O O O O=>nb,λO O O O=>nb,λO O O=>d _,λO O O=>nb,λO O=>nb,λO=>d,λb o nb e=>(Y1H b nb).trans e,λb6=>a6 cl b b6 m YKG Qr,λbD bC d4=>?_,λbI ab=>ZAR,λd x rest e r m z jq e8=>?_,λe=>hn e,λz=>o8 z,∀a,YMZ→YrF,⟨YC,Y1F,ZL,y2 _⟩,!t.plain&&decide (es.size > 1),("__classdict__":Str),(YOT,r.2++[YOU]),((i+1:Nat):Int),((s.heap.update a Ymi).push (seqObj "tuple" xs.toArray 0)).push,(0,Y9 1 Y6S),(10,Y9y),(16,Z0F),(20,Y9 4 YVW),(S.N++[Z6]).length,(S.N,[]),(a,b),(ah:b=C),Y8F=Ym,.inr,(bz.fP e).symm,(dP,[]),Y8G tW,(Y2:0<4),(Y2:1≤100),(Y2:1≤1000001),(Y2:2≤100),(dz aO).elim,(dz aq).elim,(dz he).elim,(eN xs).trans,Y6p=r.1++[Y6r],YUe.2,Y3R j,Y9F.1,(k,v),YHB.1,(m:ag),Y9N.1,(nZ _ _).trans,(ps.map dep).sum,Y7w.1,(q.2 A s1 aG z.1 Y2G).mono,(YHj),(sS scope own caps c).ns,(t.lookup n).elim,(vs[i]?).getD v0,(wz s.heap l1 l2).get?,(x,i),.Expr,.NotEq,Y19 es c6 pos,YK x,ZK "sorted",Y6w Z1q,.ellipsis,YJ ?_,YJ q,YI Y3k,.kM n,.nm 4,Y1L i,.op (b2 358 6) YT,.op (b2 487 1) YT,.op oEq [v 2,bK 19],Y0 Z77,Y0 S,Y0 ed,Y4 (cond tr 31 30),Y4 s t,YcT i j l,YE "StopIteration",YE "enumerate",YE "object",.var j,1000≤m,2 - i,2 ^ cnt Ykh,A.ul i,B.4.imp,C2 YC,.bool,CT++wk,Du ..,Ev g k env c.ns r mh Y0s Q,Given ord,Hh ..,Hj ..,Hu ..,Y4e Y5T,KasT α,L.4.2,L.map Yh,List zJ,N++X,Nat→V,Yp→Y5N,P vs,Q r m,Qn bI ab,S.N.length≤a7.N.length,Y49=c,S.use x,Sort u,St i s.heap,Step Y1V s mh s' mh,V.ref a,V.str o,Value→Z7k,V→Y3→Ygl,WP g A YMo ZVI s,Z.2.5,ZipApart z TI c2 dM dt l1 l2,[Y1M],[Y4 30,YFA,YcO],[ZM],[0,2],a4 Z7d,a4 Y2X,a4 P,a6 cl s r m Qn Q,a==b,Y0G→YeR,aB pW mh ab,aB.new iQ,aK s.heap key k,aK s.heap x u,aN.ez st,aU g YDX,aU g YmO,ab::jQ,ae.fresh Y1f,ag→Y1C→Y1,aj cj ?_,aj Ykw ?_,assign tgt env x,au YI5 ZKa,au he Y2,b2 263 0,Y1S=true,Zk=Y46,bK 31,bN e h,Nat→Nat,bR bb,bR bq,Y1p.1.elim,bd (wpAny_setState_of aA rfl hI.fits ?_),bd (wpAny_standAt ?_),by refine aj Zcr ?_;exact Y07,bz.keep kt,c.cN.lookup x.1,c0 (dX Z0) _,c<N.length,cI r,Y5X=Y05,cW w.symm,cl 1,cl 2,Yil=true,cnt S,codeAny_of_tree ?_,cond (w==c) [t] [],cu aJ,d++rest,dI.2.1,dJ _,dW bO YUu,dW kv L,de g env ns r m s,YCy+YjJ≤3,dz ah,e.hash=ZMd,eE YLO YG8 YG5,eG a7 [],eH tr most p s,eS t n p,Y93=Y0M,eo aM,eo aq,eo z.1,eq_of_beq d4,eval iter env,e≤m,f i=i,f i=y,Y16=Y0t,f7 t.mask h n,fF (c0 (show 2*8≤20 by exact Y2) _) bj,fd.scope.names.lookup n,gU xs ep,gV c v=true,gn e h,gu YG=true,gv.1.3,h.un.1,h1 n led t,h6 N P,hB elt,hP mh A.U n f e,YAr=true,hl gr e1 g,if YFb then S else Ykg,if_neg ZKi,if_pos e,bp λax=>?_,inR own caps r,inR own.length caps r,isList ak,isNode u=true,iz.type YG,j.2.2,j1 es ec,j4 Y2d s Yx,j4 wr s s',jK af,k+20,k4 B,kE most,kW z,kas_rev p 0 n,key u,kk mh B tr most s c,km ..,lQ us vs,lT S.N.length S.f,lots.map xI,m a=YBL,mA most q hs Yye,mC a m ab,mE it s.heap h',mH m p.i p.perturb,mI _ hd,mO vs n▸d,mV t false YM1 Ywh YEY,max Y16 Y0t,mg Y2d h,n (congrArg YsY (c4 Yk7 ah)),n9 most (YVZ) YOh,n=p.1,nF env a,nV t.place,nW e,nb e,next k % l.length,o.filterMap Y4Y,Yna=Y2J,o=Y0l,oN t.mask h n,p t=false,pX f p,propext Aa,pure none,pure true,putN [] a N,pyIter x,q.2.2.length,q.2.imp,q3 (dP,ki),q9 h,qD a aD,r.set i YQ,r.un λy bf aJ a b=>?_,rI ..,rW af,r[i]?,rq L aR,bh g br,s.2.map gw,s.TypeIs Y44 "set_iterator",s.heap.IsList l items,Y9X→YWv=YB,YWz→h'.get? c=YB,s.heap.objs.size≤b,some (Y0 dN),some Z1g,some (Y0 gg),some Y46,some Y35,some (0,ZD 405 [YA3]),some (ay (d+1)),some Y3C,some Y4q,some Y24,some 0,some d,some t,some true,st.elim λo q=>uE q.1 YG YC YC,t.led=led,t.put slot,tO W aq,tc ..,tf _ _ _,tx Y2S az,u::us,upd (upd mh lo Ytr) dN Y4W,ur z,v=YA,vF D.3,vO v,vR g aH s2.heap a,vs.length≤18,v∈l,w.2.elim,w.params.followText "set-order",wZ ..,wpAny YR A ZXR Q E s,wpAny_pure Y1u,wpAny_truthy_bool ?_,xb Y2,xl mh w A S,xs.eraseIdx i,xs=[],xw ..,x∈R,Y4R.1,y.2.2,y0 vs,yl C d,z4 g C n,zY n=true,({A with U:=vf A.U S.N.length e4}),{cls:=Y2h,data:=Y45 (l.map λY9o=>ZYT).toArray},{cls:=YQH,data:=Z0J},({s with heap:=H}),¬ZT5,¬wr D,·.setIfInBounds,.nil,α→YeF,α→Y4v,λO O e O=>e,λO O=>trivial,λO O=>zz,λO h=>YPb,λa b h=>Z8G,λaF=>?_,λb ah=>?_,λb=>beq_self_eq_true b,λdv aH=>∃ey,ey<n∧J ey dv aH,λi ak av=>?_,λk aR=>?_,λp ar=>absurd ar cS,λq aF=>Y6o Y5E YO8,λt aZ=>kB [] aZ [t],λx aq=>?_,λy bb=>?_,λz hz=>?_,∀a b,Yma=kv b→a=b,⟨0,_,_,Yc,?_⟩,⟨_,rfl⟩,⟨ZZ5,s.gens,s.drawn,s.toks,s.os⟩,#[YF6,Y1m,Yw],((qM _ _).symm.imp Y1w Y1w),YZk∈H.mt,(Cw q).1,(E3 h A s aG ae aN).mono,Y79.1,Y79.2,YFX.2,(V.jM h).elim,(V.ph h).elim,(a.zip b).all YYv=true,YZv YlE,YG7.1,(bH cl i).1,(bT bf).size,(bt ..).trans fN,(YC:cl 4 0=false),(d:List _),(dC.trans du).trans,(dP,P),(di N.length).map,(Y2:3≤100),(e.1,v),Y8z.2,Y6p=r.1,(ee ah).elim,(Y1e:i=j),(Y1e:i=l),(e▸rs).one.elim,(f s).1,(gG af).elim,Yx7≤1000001,(h:v.eM False _),(i,0),(if ZK3 then(ZfB,z.1,false)else YaL),YxK i 0, Y9q Zho,(YDa),Shared→Y1,Y9N.2,YMQ.1,(o,[]),(o,Y2E),(o,[x]),Y6r∈r.1,(ps.zip xs).lookup,(putN t c5 N).2,(q.elim λO q=>q.2).elim,(q8).trans,ZXh.2.1,(r.set i YQ).set j Y06,(rp h aG ae aN).mono,YHn.2,(t,Y4b),(t,o),(tab n).getD,(tc ..).symm,(uW _ _).trans,(x5 (YNz 1 ZYS)),Y5w [x.1] Y2K ZJ,Y4Z Y3S ax p,.Mult,.NotIn,.While,.b 1 c5 Y9u,YK y,ZK "list.append",.cell,ZF d5 as t own caps ifs elt,Y9 1 [],Y9 3 YLU,Y9 kc [],Y6w YQ6,ZY vs,.func fd,YJ h,YI 0,Y5 (Y8G Zj2),.local,Ya ZIa (v 2) [],Ya ZIg Ybi [],.of k,.ok Z1q,Y1L 4,.op (b2 358 2) YT,.op (b2 617 0) YT,.op YiW YCW,.op (tl 3) [],.op (wN YcW) [],.op fi YAK,.op gW [v 2,v 0],.op i4 [YC5],.op i4 [Y9z],.op kT Y2D,.op oEq [v 2,bK 6],.own a,Y0 692,Y0 T,Y0 bX,Y0 d5,some x,Y0 dt,Y0 op,Y0 s1.heap.objs.size,Y0 sc,Y0 t,YS v,Y4 13,Y4 27,Y4 5,Y4 p.1,Y4 signs,YD [ZE],YE "BaseException",YE "range",YE "slice",YE "super",YE "tuple_iterator",YE "zip",.u 8 Y4d,1≤n,2 ^ (d+1) - 1,2 ^ 63,3≤c,51+8*S.N.length,6+w2,Z2X<cLine,A.units+50<cLine,Array Y0F,Array α,B5 ks,BA BB,BG kc vs m Q,Cp S p,Ct ao,D.3 i x af,DG q z,DecidableEq K,Down lt p n,Dp n f,EK kc.2,EM o ah,EP bD,Eg av,Ev g k env c.ns r mh YAl Q,FT ..,Fin→YP,Fy _ _ _,G.2.ng,G.3.ng,GC _,H.4.imp,H.5.imp,Hf x ((if YEi then(p.1,v7)else(p.1,p.2))::_)=_,Hq m,I.3.1,Int→Y1,Y7B.1,L.lookup Y2n,L.lookup YP4,L.map Y1w,List (Str×V),model prog w,List (Str×α),Yn→Y1,Yn→YP,Y3→YCh,Yd×Nat,List hQ,M.3 p (d8 _ z.1),M.3 p ar,N.drop (i+1),N.old L e,N4 _ _,NO (h:=af) V.none,N[j]?=Y06,Nat→YP,Nat→Y5U,Og prog w K,YeE×PUnit,Y0X→YP,Option aI,Ow _ _,Ox _ _,Oy ck,P.map gw,Q Y1A m,Q Y9I s,Q a t vs,Q false m,Rest S P,Z7K≤13,S.N.length≤1000,S.N[j]?,Y1Q+ZV≤800000,St 0 s.heap,Step Y1V s mh s' ab,Step cX s mh s' ab,Step cX s mh Yx mh,Stores env m,Tab→YV→Y0S,V.noConfusion h id,V.str 3,V→K,W.2 i x aq,W.all V.isInt=true,Z.1.1,Z.2.2,Z.3.2,["self","n"],[(c,Y2U)],[YEj,Y7y.2],[Y8T,w],[Y1E,Y3A,r],[df,eg,Y2v,ZZk,YN7,Y3v,oX,tR,YE2,jV,ba,cJ],[t++[(n,c)]],[x0,Y0T,Y0v,Z2,fl,e0,none,none,none,none,none,none],a5 g aH s2,a7.wait=[],a8→Y0S,a9 s.heap items.toList vs,a9 s.heap vs args,a<S.N.length,aA.trans YFx,.ret,aB ea mh m,aI×Ze,aK h e.val m.2,aK h' x v,aK s.heap cF a,aK s.heap dF b,aL sizeLine_eq ?_,aO (k:=k) K L ao h,aP ..,aT YF ?_,aT Y15 ?_,aU g (k+24),aU g (k+4),aU g k f args mh Q,aa (gi YVK ..) (aa ZdB (eQ ok.2)),aa ZN ?_,aa Y32 rfl,aa ZdB (eh YHW),aa aC Y23,aa h rfl,acc=[],ah n6 x aq,ai b,ai h.2,aj YF (fN),aj w.1 (aL w.2 ?_),args.length=np,arm_eval_Call ..,as.map Y0,au YG2 Y2,au (au Yk ao) Y2,au l2 Y2,av z.1,ax Yt,ay 0,b.take j,b8 v u,b8 x y,b=s.heap.objs.size,bH cl b,bK 14,bL cj w,bL kX af,bO p.1,bP→Ydo,bQ ZF8,bR ar,Y1p.1,backTo pos (starEach es env),bd (wpAny_attempt (wpAny_callSpecial?_slot (name:=YD3) dJ rO (wpAny_call_entry rO dJ FG ?_ (FH _)))),bd (wpAny_fieldsOf af rfl ?_),beq_false_of_ne λh=>q h.symm,beq_self_eq_true _,beq_self_eq_true i,Y4s.1,by refine YS7;decide,by refine bW e ZBO;exact Yk,by rw[Bq,z0];rfl,by rw[e,YoW,rf];rfl,by rw[isSubtype_type];kernel_rfl,by unfold methodCallPos;refine aa sU ?_;rfl,[v 0],by(refine aj Zbc ZCn);kernel_rfl,bz.fP e,b≠bs,b≠fR,ZIG+676,Y8w=Y5i,c1 a b3,c3 405 381,c3 487 444,c3 617 541,c4 ak (q.1▸az),c4 e8 il,c8 YGl YcP=YX7,cA ah gD,cI r 1,YiS=Y0v,cI r 9,Y1G=YQ,cK.f YDN.2,cK.f YyF,cL Y1q.2,cL ao,cL c,cL z,cM▸cP,cR.trans YFw,cU 670,cU 680,cU 685,cY d7 Yc,canon f (N.getD i YZf),Y2n=Yie,cb Y2s ?_,cl 2 t,cl 3,cl 5,cl i t=true,c≠z,d.2.2,d.flatMap Y9U,d.length*YGu,d0.Perm YNS,d0.Perm us,d2 w s.heap xs es,dD.1.2,dI u m=true,dI v 8=true,dR p j,dd A (k+1),decide (Y6l<(d.length:Int)),decide Yu4,decide (0<d.length),decide (aK s.heap y x),dep Y4a,dep x,dy h,e.key.isStr n,eE es k v,YjU=false,eI _ he,ee aO,a5 g mh s,ef w v,ej fQ,ej h,Y93=Y0l,Y25=Y2w,Y25=Y2x,eo v.1,eq_of_beq af,er "sorted",es++Y9L,es.eraseIdx i,es.length<20,es.length≤1000001,es.size≤18,et h,execs a env,execs b env,e▸bz,e▸r,f _ YlC,f _ q s.toks,f i==h,f j=f i,f n→P,Y16≠Y0t,f z.2,f.trans dZ,f1 _ _ aE rfl,f1 _ _ e rfl,f7 t.mask Y0Z N,f7 t.mask h k,fO k 1 ..,fr++[YIx],g.K.lookup f,Y99=YB,g0 S.f x0 df i,g0 f x y i,g0 f x0 df,g4 h,gQ q,gV c x=true,gv.2.1,h a aD,h c ao,h.get? C,YDJ→Y6O=YB,ZQ4=Y9a,YlB=some oZ,h1 es.size led t,h6 s.1 s.2,h9 af,h9 h,hH _ _ _ _ e,hT s.heap,hh b ah,hi N,hj++[xd],hl dP ki f,hy g X s mh R,i3.flatMap YW3,YAs=i,List Nat,i8 S.N S.f c,iC af,iR t q N,Y6R+1,if r=true then do let ok ←isTrue c env (eval c env);pure (ub ok)else ZXD,if z=YMU then YVl else z,isList av,isTrue e env Y0s,iz h x vs,iz.type YSm,i≠j,j+h2,jC m acc ts,jK w.1,jo ZX q,jz P need K T,j∈L,k+16,k+7+ZV,k1 a,YVK+k1 b,k3 Y4s YwU,kas_bin f p k,kas_sort n,knd.hash YMG,ko _ ar,kv p.1,l.1.2,l.map Y1w,l.map V.int,l8 _,lA YCn,lT N.length f,lT n f,lots.map Yh,lt Yns YB8 ,lt i j,lu N P f,m a=Y1h,m b=YB,m5 vs,m=7∨m=31,max x y,Y0d=Y3h,mh pl=YNC,mi s.heap D acc,min Y16 Y0t,min x y,mz bO Y6Q,mz kv l,n - (q+1),n.2.elim,n3 S i x,n7 S a7,n9 most (cB.map Zjx) ZX,nQ c.cN,nb eJ,newList [],nl ak,nl av,np≤ns.length,bV _,ns.take np,YnT=some ZZh,nv L YG x,o.cls=Ycc,o.data=Y9 es ep,o.setIfInBounds Y97 Y5i,o3 g C B f cell,o9 i,oA _ _ e,oZ.cls=Yw,o[j]?,oc aE,oe xs j,ok.2.2,oo q,ou aq,ox p l m,p 0=false,p.1<N.length,p.2.1,p.2<N.length,p3 d,p5 e,pU q.1 R t∧xp (λx c=>Yqn) t YG c,pV N f q h,pV dP f q h,pY dP ki s,pairs l,pairs vs,pf e h,pk Y4F,pl.map ZOK,pre vs us,ps.map bB,ps[i]?,YHa.2,pure (),putN [] p N,q > 0,q v aO,q.1.1,q.1.keep,q.1=28,qJ aZ,r.2.1,Y9V.2,r.of az YNQ,r.un λe e6 aJ a b c d=>?_,rG h.3 ..,rG zn,rawInt 0,relayAll t1 f6 YqL,ro _ _ e,rt g wr Y D s0 m0 s m acc,runN most YaB YJ2,s'.heap.get? a,s'.heap.get? b,s.2++YFk,Y0u=Y82,Y0u=YB,s.heap.get? c=YB,λO O O=>none,s.heap.get? it,s1.toks+1,seqObj "list" Z1 0,show YEf x0=S.use x0++Z7c from Y0c,some (Y0Q Yzo [Yzn] [] lP),some (ZK "object.__setattr__"),some Z1V,some (Y0 be),some Z1h,some ZM,some (16,YbM),some (8,Y5 ZTo),some (bB Y0r),some Y8v,some YAo,some YQ,some (xF y),some [],some o',some p,Zb.2,stN L t b,stN L t p,t % 8,t.advance p,Y9b=Y0M,t.lookup o=none,t.lookup v=Y0M,t.mask=31,t.mask=7,YBO=Y2O,tab m,td dn,two vs False λa b=>P a b m Q,u::us.drop p,uG s.heap z TI c2 dM dt l1 l2 k xs bf a b,uR ..,upd Ypr B.b YuB,upd m bs YZh,upd mh a YPG,upd mh be Y8B,upd mh d (t,Y9 c (eE es ec m)),us.take p,vB B ei i9 r,vD N P f Wp c,vY i,vs.all (j2 · x)=true,vs.any (b8 · x),vs.length≤1000000,w0 m h,wA h a b,wpAny YR A (dictFind d key ZMc) Q E s,wpAny_holding ?_,wpAny_pure y,Y1K.2,Y6f.1,Y6f.2,x.5.elim,x.6.1,x6 kq dg,x==y,.inl,x=p.1,xA N P f,xE f N.zipIdx L,xP C h.objs.size,xf N P R,x∈Y6P,x∈ps,yh q,z _ λbl a7 f1 bx H1 iq dO ni=>?_,Z3.1,Z3.2,z.2.2.keep,z.2.mm,z.2.mono,z.3.ez,zL bq Y8s,zO ..,zi Y4U q,z▸rfl,{cls:=YQF,data:=ZY #[Y7,Z0W,Y7]},{cls:=o.cls,dict:=Zaa,data:=o.data,slots:=o.slots},({s with heap:=h',toks:=YBH}),({s with heap:=qt,toks:=s.toks+([]:YCM).length}),({s' with heap:=h'}),({s1 with heap:=YHl,toks:=YX2}),({s1 with heap:=s1.heap.push Zfd,toks:=YX2}),¬Y3N,λK L ao h=>h.elim,λO O O O O=>d _,λO O O=>False,λO O=>True,λO O=>d,λO ai b=>b.eM false ai,λO e=>e.elim λO e=>hn e.1,λO s'=>ZVw,λO=>"tuple",λO=>Y5L,λO=>Y3n,λa=>Yjp∨wr a,λaD ah n e=>YMW,λb ah=>⟨0,ZPX⟩,λb o e=>aq b o Y6L e,λbD bC d4 hJ=>?_,λbI ab=>s bI ab Qn Qr,λd x rest e acc m z N cf=>?_,λe he=>absurd he cS,λe=>Y8L,λe=>e▸Yk,λi j=>eF YJR ((vs[j]?).getD v0),λi=>V.ref YFD,λi=>Zd1,λj k u ak av aP=>?_,λj=>YGV,λn aA=>⟨_,aA,rfl,n,rfl⟩,λo:Y1D=>o.1,λp=>Y16 !=Y0t,λp=>j2 p.1 p.2,λq=>Y34,λt h=>?_,λv aO=>absurd aO cS,λx=>YFM,b7 g,λy s1=>WP g A YoC (nK g YJW true s0 m0 Q) s1,λy z=>?_,λy z=>YLb,λz hz=>absurd hz cS,λz=>sk _ z.symm,λ{g H k env c r mh xs Q}K L ao h=>?_,∀v aW,Q v aW→Q' v aW,∀v,Y9c↔YNa,∀{m:ag}{a b:Nat}{t u:Nat}{o o':ct},Ymq→m b=YpF→t≠u→YCl,⟨#[c]⟩,⟨Yyi Ylx,s.gens,s.drawn,s.toks,s.os⟩,⟨[],rfl⟩,⟨_,af,rfl⟩,⟨aH,y.1,YEI,y.3⟩,⟨YC,Y1F,ZL,Fh _⟩,⟨fd.scope.names,rP⟩,⟨ZPm,s.gens,s.drawn,tk,s.os⟩,⟨rfl,Zj⟩,⟨rfl,rfl,Y2⟩,⟨rfl,z⟩,⟨rfl,λe=>absurd Z8J Y03⟩,⟨s.heap,s.gens,s.drawn,s.toks,s.os⟩,⟨tgt,iter,ifs,0⟩,⟨trivial,?_⟩,⟨x,Zj⟩,⟨x,rfl,YCm⟩,⟨⟩,("__class__":Str),("self":Str),(YOO:Y1N),((p,v)::r).lookup n,((qM _ _).imp Yh Yh),(YoJ.2.1 t).mp,(YyO j Y6d).set l YNI,YIq YHm,(0,Y9 1 Yd1),(0,.fix ZeD),(0,Y5 (a4 cs)),(0,Y5 (bs.map YK)),(0,Y5 ZPR),(0,[]),(10,Y8R),(8,Z0F),(Al h).elim,(By _).trans,(C,n,f),(E1 e).elim,(Et s.heap l1 l2).objs.size,(Ht _ _ (q6 ah)).trans,(Ou _).symm,(S.N,fr),(S.use i).length,(V.jM o).elim,(V.kr h).elim,([]:List Keyword).length,(_:cv),(a4 aZ).map,(a7.N,qW),(a:Int),(aP t).mp bq,YBf ZgV,.met,YhM.1 r mh Q,Zd r m Q', Yr[c]?,Ya3=some Y6n,(bs.filter id).map YrV,(cG.fP bx).symm,(congrArg _ e).trans,(congrArg _ q).trans,(d++[YJT]).length=Y5Y,(d++[x]).map,(d.map Yh),(d.map dep).sum,(di N.length).filter,(di vs.length).map,(Y2:2≤15),(e7 cl as).1,(e::·),Y8J=YHh,(ee bb).elim,(elim_some hm).elim,(es,t.standIn es.size,true),(e▸bg).one.elim,YGi.1,(gG q).elim,(h.push YNX).push,YGw×Nat,(hc m n Y2u).j,(hideAll s2.heap YCf).get?,(hideAll s2.heap fs).StaysIn s'.heap,(i*5+1) % (m+1),(i,pt),(iF L.3 rfl:(S.N,s.2)=s),(if_pos rfl).symm,(j:Int),(jJ af).1,(jm aD).elim,(jm h).elim,(kl p).length,(l.map w).sum,(m t c).mp,(m.2 v).mp,(YMX).1,(ZVN++ZVP).length,(ns.take np).zip,(nu q.1 R).flatMap,YW6[i]?,(o7 prog w).hash,(pureOf (swapsWithSole [t] v p.line YnJ)).elim,(putL [] ps S.N).2,(putN t Y0r N).2,(q.2 A s2 m1 x aG a2 (L.3.step eX ap) bg).mono,(q.2 i n v ak av aP).imp,(r.at af).elim,(rm e).elim,(rm tg).elim,(rm x).elim,(rowsOf S p c).map,(rp h.len aG ae aN).mono,(s,[]),(s,false),(so ..).trans,ax ?_,(t,YbZ),(t,o'),Y3L.1.place,(tI Y21 h).elim,(uu z).elim,YXz=Y1S→P,(yA c e).elim,YIL,(zI f1).trans,(·=C),(∃o,And (h'.get? e=YB) (o.cls=YJq))→E Y43 Yx,(Y5F:Shared).TypeIs,.BinOp,.IfExp,Y09 m q,Y09 x c5,.Raise YX5 none pos,.b 1 c5 py,ZK id,Y5x Y2g YtE,.candidate,Y9 3 Y13,Y9 c kq,.dummy,Y01 YPg YO,.fd C i (v 0),ZY #[YPx,Y7,Y7,Y7,Y1A,Y7],YY ar,YY bC,YJ Zj,YI (-i),YI Y0q,YI n tk,Y5 E',Y5 l,Y5 ms,Ya o a as,.nm 10,.nm 6,ZD C [],ZD C fX,.op (b2 198 1) YT,.op (b2 236 0) YT,.op ZFb YT,.op ZFc YT,.op (b2 617 6) YT,.op (b2 C0 i) [YJt],.op (cU 629) [],.op YGM YCW,.op YAZ YT,.op YAZ Y2D,.op Jz [Z1A,Z1D],.op fc [Ybm,v 0],.op fc [v 0,bK 23],.op fc [v 2,Y3m],.op gW [v 2,.op fc [.op fc [v 1,bK 23],v 0]],.op i4 [YC7],.op i4 Y1a,.op oEq [v 2,bK 10],.op oEq [v 2,bK 27],.op oJ YfL,bw _ _ _,.op oTup [Y3m],.op oTup [],Y0 YGt,Y0 697,Yw::YMC,Y0 R.mu,Y0 bl.h,Y0 dM,Y0 l1,Y0 l2,Y0 pp,Y0 tX,YA4::bf,Y0 zV,Yy D,YS (v 1),YS (v 3),YS qI,.sX s1 wH t1 s2 wI cy own caps elt,Y45 ([]:Yn).toArray,.seq1 a,Y4 19,Y4 22,Y4 25,Y4 29,Y4 name tk,ZE::vs,Y4 x,.three,YD (YQ8::YBA),YD YKX,YD Y8k,YD Y1R,YD l,YCC 0 1,YCC 2 3,YCC 4 5,YE n,2 - YCy,2 ^ 64,2≤vs.length,34+8*n,51+8*c,@wpAny_Constant_int,A.in1.handled=none,A.in1.units+20<cLine,A.units+40<cLine,AF ..,Aj ..,And (l<i) ZRq ,B (A s).1,B.5.imp,B.6.lt aD,B.7.imp,B1 c w.1,BX nm c e=Y2J,Bb t r,Bh is r vs,C.1.lt,C.2 b ah,CJ x y,List a8,CU tr most,Cv p h,C≠B,YFH k Ly,Dq xU (bL dK bZ),E.length≤S.e,Eb he.1,Ek st,Eu iX lg,Flow→YP,ForInStep YAA,GS YC t,Gs g k B P ext t p,H.3.6.2,H.3.6.lt,H.7.imp,H.gl.lookup n,Hm ..,Hw ..,IL ae e,Int→YP,Inv d acc m,Inv d r m,Ip ((gy ..).trans (congrArg _ YMs)),I≠it,J.4 A Y4m,JA op P,JD a b=true,K acc m,K.3 C l hf,K3 h,K6 YC,K7 YC,Kd ps,Ke ms,L.1.dq,L.Nodup→(∀a∈L,a∈M)→L.length≤M.length,L.Nodup∧∀j,YVH↔j<n∧f j=i,L.lookup YAa,L.lookup YP3,L.map kv,L5 YG,LG ..,LT ab bX bl a7 B,LV mh w A,List (Bool×Y5O),List YKR,List YGw,List Bool,Ze→Bool,Y3→YKp,Yd→Y1,Yd→α→Yd,List zT,List.Perm ord es.toList,Ln ..,Looks YR h ZRk true,MI C.1 bZ hm mc,Mf ..,Mx q aF,N acc ab,List aI,N.has L,Z5W++[x],NM Yry,NU _,N[j]?=YQ,Nat.sub_le _ _,Nat×Tab,Nat→Yd,Nat→Nat→Nat→dm→Y1,Nat→Yo,Nat→α,Oc t.dummies j,Option Addr,Option Bool,Option β,Oz YTE,P Y2f C,P l [] ab,P vals [] aH,P vals r aH,P.length=n,P.length≤900000,P.set y x,P[i]?=YXK,Q Y3S m,Q YA (upd m a YPG),Q YA ab,Q Y0B ab,Q ZFC mh,Q Y5f,Q none Yx,Q true m,Q true Yx,Q v s',Q' (.yield Y8N) s',R () s',S.N.length≤10,S.N[i]?,S.ed++YFl,YFZ=Y0N,S.e≤900000,S.e≤a7.e,S.use c,Yeh++Y8l ,YKL++YAF,Seen N f d L late,Step X s0 m0 s mh,Step cX s mh s' aW,Step cX s mh s1 mh,Step cX s mh s2 aH,Step.grow b5,Step.toks _,Str×NameKind,Tab→Nat→Y0S,TupAt h a items,TupAt s.heap a xs,U i h,V.str n,V.tu h,Value×Value,Value→Y1,cq cp,W.map Yh,W.no f1,X.length≤S.N.length+S.e,Z.1.imp,Z.no f1,[(YBo,tU)],[(3,x),(4,y)],[Y1M,Y1E],[Y1Z,Y0 U.u],[Y33,key,v],[YD [YQ9,Y1b,Y1b]],[YD [Y34,Y0 tU]],[YCk,Y24],[c6,cT],[it,a],[Z2,eg,d1,YBJ,Y2v,zN,oX,Yp6,vG,jV,GF],[Z2,some (gh YEt),some (Y4 6),none,none],[Y05,Yox,ZZo,ZZl,some (Y0 bn)],[Y0T,YHp],[v 0,v 2],[v 1,Y0I],[v 1,Y1c],[v 1,v 0,v 2],[v 8,.op oTup [bK 18,Z1O]],[v 8,.op oTup [bK 19,bK 13]],[x0,Y0T,Y0v,Z2,ZZi,none,none,none,none,none,none,none],a++b,a+20*k+60<9900,a+b+1,a+n - 1 - k,a4 S.wait,a4 l',a5 g aW s',a5 g mh s1,a6 cl (Yi YbQ e s) r m Qn Q,a6 cl s r ab Qn Q,a7.N=S.N,a9 h items vs,a::as,a::t,aA.elim id nb,aB no m m1,aB no mh aH,aB p m1 aH,aB p mh aW,aB pW mh m,aB pZ m ab,aB pZ mh ab,aD.trans x.1,aE l h,aI×aI×Pos,aK h cF a,aK h dF b,aK h e.val v,aK h x m,aK h y u,aK s.heap cF x,aK s.heap x ZZ,aK s.heap y u,aK.ofStr w.1 _,aL Y1e ?_,cC ?_,aL ZYj ?_,aL cj Yk,aL l1 ?_,aN.ez eX,aQ Ylc hf,aQ ZN h,aQ ZU h,aQ Zey c,aQ h Y5V,aQ hE h,aR c w.1,aR x aq,aS YEW,aS Zn,aT (acs ..) ?_,aT e3 ?_,aU g (k+5) 569 YKW mh Q,aX e ?_,aZ.length≤2,aa ZU ?_,aa YDb ?_,aa L.1 Z3e,aa aE ?_,aa aJ rfl,aa dK ?_,aa iW Y23,aa q ?_,aa q h,YAQ=some (t,ZD C (putAt fs Y0B i))→ZUF,Y1y=YQ,ab2 aE,ab6 ..,abU ..,abW ..,absurd (Dy e).2 Y03,absurd (cA e r.jh) Y03,absurd aE.symm Y7q,absurd ao YC,absurd av ZZW,acK (env:=env) l4,acc++[x],accN F d s,accN F l s,accN xJ d s,addrs l,ae.ys lo e,ag→Ys→Y1,ah n6 q aF,ai ..,ai bZ h,ai d,ai Z3,aj YF Y2H,aj YF YKr,aj YDH ?_,aj ZN ?_,aj Zcr Y07,applyN most q s h,aq.2.keep kt,ar.elim id nb,as.getD i 0,(·.1),au (au YSv aE) Y2,au vy Y2,au zW Y2,ZF6=YB,aw (bc rfl Y7O),aw (cst Y7O),ay h2,ay most,b.1 r m Q,b2 263 1,b3 ..,b5 _ _ e,b5 b o e,b6[i]?=Y0e,b8 Y1E Y3A,b8 m ab,b8 m.1 k,b<S.N.length,b=D∨ZMs∨Y3N,b=false,bG→ag→hg→Yv1,bH ZH e,bK 22,bL ZO ?_,bL cj ZBk,bL d.2.1 bg,bM r.1,bM s.1,bN e aq,bN e bb,bN e this,bO Y2n,bR aD,bR he▸rfl,Y1p.2.length,bT Y6K,bT [v],bc rfl ⟨Y2,?_⟩,bd (bd (wpAny_onRaise ?_)),bd (wpAny_mono aq (λb O y=>?_) ZgD),bd (wpAny_notOrdered_dict Y54 ?_),bd (wpAny_pure Yg),bd (wpAny_rule Y1u),bd (wpAny_seqItems aA rfl Y6H),bd (wpAny_standAt Y6H),bd (wpAny_typeNameOfWhole_keyiter hit.typeIs Zl),bd (wpAny_typeNameOf_keyiter hit.typeIs Zl),beq_false_of_ne e,beq_self_eq_true n,bg.keep Y63,bk▸cP,bne_self_eq_false ..,bootBuiltins Y3b,br.eA.lookup C,br.gl.take 25,ZHN=none,bx▸cG,by first | exact YY ZL | exact YJ ZL,by refine aT YAR ?_;rfl,by refine Ygt;exact au (dX l2) Y2,by refine aj e Y7N;rfl,.asg,by refine aj g5 YSA;exact ZEk,by size_fits,bz.keep Y7I,b≠dN,b≠fb,c+676,c+YFC,YCt≤799000,Y8w==Zab,ZIP=Y2y,c3 301 286,c3 358 343,c3 C f,c4 j5 af,c8 YGX k=cond Y1z YpI YiK,c8 Y6S ZM,YiG=(t.lookup n).map ay,c8 ZTd v,ZIm=Y2y,c8 es k,c<W.length,cA Y7e e,cA (oA p.2 bs e) h,cA bk e,cB[c]'ao,cF=Y0V,cG.fP bx,cI r 2,cI r 8,cK.e+1,cL jU.2,cU 643,cU 655,cU 86,cU 91,cW q.symm,cW YIN,cY zr xe.7,cZ ?_,canon f y,cb YDR ?_,cb Y4O Y0K,cg cT M2 YBS,YCu=false,YCu=true,YTY=true,cl 3 t,collect YA,congrArg _ e,congrArg l5 Y32,cu bb,cu hm,cu ig,cz _ _ vE rfl,c∈cs,c≠dM,d++[YJT],d++[c],d++[q],d++[u],d2 g.w s.heap xs es,V→Y6,d3 aW A S,d3 aW bl a7,d3 m A S,d5.2.1,d==sysModules,dG ao YEP,dG d λbD bC=>dG eJ ZiG,dH YVV,dI v (n+1)=true,dI.2.2 c ao,dR p n,dU YFy ?_,dU Y15 ?_,dX ai,dd A (k+5),decide (i<n),decide_eq_true q,ZV=YJL+1,dep Yq,di 4,dk.2.2,dr b,drop_cons hd,dw k ..,dy li,e7 cl [],e::xs,eE YGX k v=cond Y1z Ywe (e::YTw),YD1=true,eF b a,eH tr most a Y6m,eH tr most a s',eH tr most b YGY.1,eI _ ah,eI _ bb,eI _ bj,eR o (S.N,aZ),eT q h,eU s.heap s'.heap,eV N.length,ea t=false,ea t||cl 5 t,ef w,ej YDA,ej z,entryFor_of_tree Y1F,YU5∨Y25=Y6c,Y25=Y27,env.kindOf x,env.scope.kind=Y5J,envX env a,eq2 ak av aP,eqBool x y,eq_of_beq z,er "set",Y3b≠"__name__",es.getD z.2 (0,Y7),et aF,eu _ Yjy,eu _ ZW,eu _ aA,cx _ _,eval (Y0Q Yzd es [] pos) env,eval dt env,eval elt env,eval t env,eval y env,ew dD.2 YqI,e▸aD,f _ h.2,f j=true→P,f x.1,f x.2,f1 _ _ ak rfl,f2 _ _ ip rfl,f2.trans cz,f9 q,fE hm,fE q,fF gK aM,fL Yr t Y0r=Y6n,fL Yr t q,fL T t p,fV 8 v,fX.Perm vs,fb≠dN,findIn K Yw n,fk Y2q p [] c,fk nod a,fk nod c5,foldedSetIterable dt env x,forIn ifs true λc r=>YV5,fr a q,fr.trans cz,fs[i]?=some (Y0 q),g ..,YUY=YE4,g.h₀.get? C=none,g0 S.f x0 df,g7 e xV,gF a,gF b,gH g k env c.ns r es mh Q,gM S ZUm ZUQ,gM S x0 df,gO B pp ZSD,gQ e,gV c b=true,gV c e.1=true,gV c k=true,gX w h es.toList us,getL n xs,gn YCr h,gn YSq h,gn Y3E (Av q h),gn Y3E (Aw q h),gn ck q,Y3q∨nk p=true,YLo∧(ZPN∨nk Yq=true),gv.2.2,gx S.N S.f,gz YWN ?_,h A s vs aG ae bz,λO O O O=>none,h cl,h mh Yy,h rfl,h'.get? S=YAp,h'.get? b,h'.get? it,h.2.elim,YUj=some (excClassObj nm q C N bs YMC Nm sn sub ae col oL p4 dC du gs gZ "Exception.__new__"),h.get? I,YDK→YGq,h.get? x,h.un.2,h1 es.size YDd t,h3 W,h6 a7.N P p.1,h6 a7.N P p.2,hA+dx,hH s.heap Y3P,hM i,hQ×Nat,hU s1.heap h',ha g A tgt I vals.length weak YYp need wr St,hashStr w Yz7,hc m n Y2u,he.2.2,hl N P g,hl dP P f,hp aM,hq af,hq h,hy g X s mh R () Y0w,i+k≤Y7o,i.fmod 1000003,i6 f n,i8 N f,i<es.size,i<k→YDe=true,iC z,ic h,ic λe=>q YMb,id hit,ie 1 es,if_neg Y6J,if_neg YU3,if_neg aF,if_neg ak,if_neg av,if_neg az,if_neg ck,if_neg h,if_neg w,if_neg z,if_pos aF,if_pos ak,if_pos av,if_pos h,if_pos w,if_pos z,instObj C s.heap.objs.size,inv us h',iq.trans i7,some v,isStar e=false,isTrue t env Yk4,isTrue x env YAl,items[i]?,i≤vals.length,j2 a b=true,j3 t weak v r Q,j=S.N.length,jE x.2,jJ h,jK Y1o,jW+YCF,jo s q,jw Q v mh,jz P jj Y87 YMT,j≤k,k a o e,k j rfl h,k n rfl h,k rfl h,Y2V+6,YH7+ZV,k+21,k+d+2,k3 Y4s YwR,k3 YSt YwM,kE most x.1 Y6m,kI (stN L t q),kI none,kK Y98 ?_,kas_rev p YVp n,kb m 13 YaV,key_is a ..,keywordEach [] env,ki++s.2,kv a,ky 1 Yf,l'.Perm l,l.all V.isInt=true,l.foldl Zk9 r,l.length≤1000000,l.map f,l7 (YrG v),l7 λO=>(#[]:Y1N),lI g wr m,Y53=Y5i,Y53=YQ,layNew t es h x,lt y x=false,m a=none,m a=Y3h,m a=Y58,m b=YQ,m p=YBL,m p=some (t,ZD C0 fs),YHN=true,m8 w led h S us,mO ..,mO us m▸eJ,mZ g.K 381 rP 2 (t2 n "kind" 6 G1)=true,mZ g.K 388 BZ 2 (t2 n "name" 1 G0)=true,List Value,md us m=true,me _ ae Y4E YDv,mem af,mg wr s.heap,mh A.h=some (3,ZD 617 [Y0 A.B.b,Y0 A.U.u,Y0 A.iW,Y0 A.dN,Y0 A.ed,Y0 A.ae,Y0 A.n2]),Y0d=Y58,Y0d=Y0M,YB1∧ZOh,Y6U=Y0M,mh ed=some (tk,YbM),mh pl=some (0,ZD 405 ws),mh s.heap.objs.size=none,mi s'.heap D acc,mj scope.names env.cells [],most<Y4Q,mw.2.2,n7 S cK,nE z.2 (z.3 A s1 aG z.1 Y2G),nQ cN,nS lt p k,nX aE,nZ ..,nameAt c i x,nb this,nm∈yu,no tk=false,noStar [a]=true,nrem≤p.size,nsIn g.K mainGlobals n,ns[j]?=Y2y,nv L YG x y,nx m bX A R tr most cQ u c jW s S pl B,nx mh bX A R tr most cQ u c jW s S pl B,n≠28,n≤63,o.nH H c e,o4 g 381 C n "kind" 6,o4 g 388 C n "name" 1,oB a aD,oK nm x,oN t.mask h (n+1),oQ S a7,oY YTj cO,YWB=Y5h,od lk,of_decide_eq_true ao,of_decide_eq_true bD,of_hideAll _ q,oh kC ?_,ord[i]?=Y59,oz _ _ e,oz p.2 bs e,YWJ∧YWL,p.getD n 0,p.more > 0,p0 cd (d+1),p6 YW,p::L,pK.2.2,pP.trans bx,pU n R t,Nat→Y1,pairAt vs,pairs Yr,pk q.1,pl.map bB,plainGet_of c.1,pre ms jQ,propext z7,pure false,putN t q N,putN t YG N,pw Y0f,pyIter y,p∈fr,q.1.elim,q.2.1.imp,q.2.2.un,q.symm▸ZNb,qK Y4U,qT dr _,qV N f YG,qi es k,qy Y1G _,qy YAW _,qz es H c xs=true,r.2.1.elim,r.2.any id,r.2.length,r.lookup n,r7.mpr YYy,r=.ok (YS Y0h),rM m hs o n,ra YW,rd az,relayAll t es wanted,rest=[],rf ..,ri aD,ri h,roots S.N.length S.f,run lt (kas_desc (f+1) p n q),run lt (kas_place p k (f+1) l r),run lt (kas_place p k f l r),s.5 p ar,s.heap.IsTuple l items,s.heap.get? env.locals=none,s.heap.objs.size+2,s.heap.objs.size+4,s2.heap.UpToSlots s'.heap,sgn v=true,show Ycj from Y4m,show R (YK (! YXz)) s from YoH,show YNk from r,show Yx6=[]from Y0c,sl n v,sn "size",some (YI (k:Int) tk),some Y2g,some (Y0 fR),some Y74,some Y0V,some (0,YPd),Option V,some (0,Y5 Ykx),some (YFB,Y5 Y8m),some YSZ,some Y7W,some Y4r,some ZLS,some (excClassObj nm q C N bs YMC true sn sub ae col oL p4 dC du gs gZ "Exception.__new__"),some (gU [] 0),some YHJ,some (pH Z1W i a es.size ep),some YX6,some (t,YEv),some (t,.fix vs),some (t,YPv),some (u,o'),some YNq,some 40,some e.2,some h,some ob,some q,some u,some w,some {cls:=Y2h,data:=Y45 ps c},YHr % (m+1),st.1.at,stN L Y2U YG,strLen_append ..,strOk a=true,swappedStores [t] v env,t.place.getD k 0+1,YHu=Y0N,t.place[ZW8]?==Y0N,t.put z.1,YBO=Y71 i,t0.length≤1000,t7 mh ab,tK mh A R tr most cQ u P S fr j,tv q,tx Y2S ks,u+16,u+4≤1000,uJ b Z0P,uR _ _ _,uX x0,uj tt,upd (upd (upd (upd bF vL (12,Y0R)) vM (20,Y9 4 [])) vN Y5p) xO (4,Y9 1 (gO Znc vN [])),upd Zbr gg Ytu,upd Zbv A.ae YuA,upd Zc1 cO YZc,upd (upd m1 cd (14,Y5 (l.map Zj1))) bX (6,Y9 1 ZWY),upd (upd mh t1 (0,Y5 [ZFC,ay (f b)])) cy (0,Y5 Z9a),upd aH B.b (4,Y9 1 (gO B pp [Ytq])),upd bF B.b (4,Y9 1 (gO B gg Y3H)),upd bF a (3,Z0i),upd m e2 (0,Y5 (a4 nq)),upd m1 a (3,Z0j),upd m1 e4 (7,Y5 [bB ek]),upd mh a c,upd mh bX YuC,upd mh s.heap.objs.size (0,Z1S),q.2.2,ZcX≤18,us[i]?,u∈us,Yq3→YCQ,v.eM false ZZE,v0∈vs,vK ah,vY n,vm us,vq P S fr j,vr S.N.length q h.2,vs.length - 1,vs[n]?,vv most cB ZX,w+a≤b,w.2.1.elim,w.3.elim,w2.1.le,w5 Z6,w9 c,wa f6.size,wpAny_call YLI,wpAny_pure Yl3,wpAny_pure YIF,wx st,x++y,Y2a=Y3b,x.1==o&&Y3O==n,x.1=false,YIG λO z=>z.elim Zgc,ZeM 0 0,x.2.keep,Y3O==pl.length,Y3O≤1000,x.2=Y6y,x.5.imp,x9.filter _,x::r,x::xs,xK z.2 y,xW ZZF,xs++bf,xs.length=ps.length,xs.length=vs.length,xs.zip bf,xs[Y5t]'hs,xs[i]?,Yql=Y59,x∈nod c,x∈us,y.2.map,y.2.trans,y.all YxR=true,y.any (b8 · a),yQ c.cN tg x p,yo Y1I,yt e,yz z c2 dM dt,z _ λbl a7 e0 bx fA ey f ni=>?_,z.2.symm,YYF y.2,bM N,zR p d,zb prog w knd ok key,zd m h,({a7 with wait:=w}),{cls:=YE "dict_items",data:=ZY #[YA]},{cls:=YJr,data:=ZY #[Y7,Y1A,Y2B,YWp,Y7,Y7]},({s with heap:=s.heap.push (jZ vs 0),toks:=t}),({s with heap:=ZZ6}),({s with heap:=s.heap.update d (Hd YzW),toks:=YHk}),({s with toks:=t}),({s1 with heap:=h',toks:=tk}),{x:Z7v // (∃p pos,e=Y0Q (Y09 x.1 p) x.2 [] pos)∧noStar x.2=true∧YL8=Y27∧(x.1==Y1l)=false},¬kept s.heap o,¬nF env D,¬wr a,·.push,α→List β,λO O O O O z O=>JO z,λO O O O O=>nb,λO O O O O=>true,λO O a b=>a+b,λO O e O O=>e,λO O l=>l.isEmpty,λO O x=>x,λO O=>V.str_inj,λO O=>id,λO e=>e.elim λO e=>e.elim λO e=>hn e.2,λO q aF=>YFv,λO z=>qg z.1 z.2 Y1H,λO=>Q false,λO=>V.int 1,λO=>d _,λW z=>⟨cg H.6 z.1,z.2⟩,λW z=>⟨cg bj z.1 YNh,z.2⟩,λW z=>⟨ZNn,z.2⟩,λX e=>Y7Y,λb o e=>ZNM,λb q e=>ap b Yqv q,λb6=>a6 cl b b6 m YKG Q,λc ao=>?_,λc z=>?_,λc z=>absurd z.2 (pa c),λc=>Y6n,λd z rest e r m w jq e8=>?_,λe he=>?_,λe=>absurd YWe (mL e h8),λe=>YAm,λeA s2 z=>?_,λes ep t aA T hX=>?_,λh q aF=>Y0H▸h,λh' aq=>?_,λh=>Y4o,λh=>Y08,λh=>g.K.In h,λh=>h.imp λx z=>⟨z.1,?_⟩,λhm=>j8 hm Zkn,λi v=>YEa=Ym,λi z=>?_,λi=>YJR,λi=>?_,λi=>YAs==i,Y3→Y6,λj e=>YAm,λj=>(owner.getD j none).map ZjF,λk j h=>?_,λl=>l.isEmpty,λm=>aH=m,λm=>n==m,λn e=>?_,λo=>hashStr w (Ha o jc),λp aH b c9 f2=>h p aH b c9 Y4y,λq=>n Y9x,λr l=>mA most l.1 l.2 r,λr m w=>?_,λr m=>a6 _ YO r m Qn Q,λr m=>Y4C,λr q=>(ZSo.1,r.2||ZSo.2),λr s' z=>?_,λs' a1 jA aJ=>⟨_,a1,jA,aJ,h⟩,λt h=>by show(YXO==2)=false;refine YSB;rfl,λt q=>?_,λt=>(c,t),λt=>fk Y2q q t c,λt=>fk nod a t k,λv s'=>∃b,v=Y1x∧R (YK (!b)) s',λv=>Y8c,λvs=>Q Y0O,λw=>YLJ,λx aq e=>?_,λx c=>x∈Y6Q,λx=>(stN L t b).elim none Zl4 ,λx=>?_,λx=>m6 n x.2,λxs=>YNk,λz aH=>Y8q∧N (acc++[z]) aH,λz:Y1D=>z.1,λz=>Yxf (xK z.2),λz=>V.tup [YAT,ZU2],λz=>YAT,λ{T}=>rfl,∀(i:Nat)(v:V),YBF→YhE,∀acc m s1 s',rt g wr Y D s0 m0 s1 m acc→j4 wr s1 s'→a5 g m s'→de g env ns r m s'→YnD→YdT→R Z0l s',∀a∈fs,a∈Ygj∨YDy,∀a∈fs,YNY,∀b,b=D∨YD2∨Y3N→Y b,∀b,Y3N→Y6Y,∀b,Y3N→ZZ9,∀b,Y3N→¬YD2,∀h',Zcz→YeV,∀i,Y2r→f i=g i,∀i,Y2I→YFa→c8 X Y4p=some (Y0 YJx),∀p ab,Yr1→YAv→Yfm→Q YAn ab,∀v,YMy≠Y0e,∀x,foldedSetIterable iter env x=YDq,∀{l:Y0C},vS g C l (k+4) 381 YRo mh,∃X,gr=YKD,∃j,Zex∧Q YC9 m,∃t,e.key=Y4 n t,∃us:ZC,us.Nodup∧YZ8∧ZRx ,∃vs,o.data=YPZ,∃x,Y4h,⟨[Y1m,v],[]⟩,⟨[YCD,a],[]⟩,dh ?_,⟨_,_,H1.1,trivial⟩,⟨_,_,xh.1,trivial⟩,⟨_,e,rfl⟩,⟨_,ZW,rfl⟩,⟨a,rfl⟩,⟨by show[y 0,y 1,y 2,y 3]=_;(refine aT m9 (gS g1 (aa g2 ZCy)));rfl,rfl⟩,⟨Y2,Y2,Y2,rfl,Zj⟩,⟨fd.scope.names,C8⟩,⟨m1,z.1,z.2,z.3⟩,⟨n,rfl⟩,⟨rfl,rfl,rfl⟩,⟨rfl,λe=>V.noConfusion e λe=>ZDI⟩,⟨s1.1,s1.2,h⟩,⟨vs,[]⟩,⟨YIW,YIW⟩,⟨λh=>h.elim λa h=>h.elim λb z=>?_,Y6j⟩,!(cl 0 t||cl 7 t),!b&&YIm,!j0 Ya5 [],!j0 x y,!l.isEmpty,!t.led&&!es.isEmpty,(!Fx&&t1.tooFull)=true,YIm=false,("_law_is_refused":Str),("super":Str),("what",v),(YIq YHm).get?,(Yue bO).length,(Y2N:Int),(YaA w).sum,(Yw8 ZlB).length,(YOg gs).trans jl,((di (mask+1)).filterMap Ys2).map,(Y8H YYo).length,(YOr,zH),(Y9n i).length,(YaP YY4).get?,(YJF,YWw),((j1 es k).map Y3l),((oF i).1 K L bC z).mono,(Yy3 K L bD h).mono,((o[e]?).getD none).getD 0,(YDr.1,[YP8,YDr.2]),(Y7x.1,[Y7x.2]),(Y1g.1,[YEj]),(Y7y.1,YRn),(YPB x).mp aq,(Yz6 jc).cps.toList,(YPH jc).cps.toList,Yto<Ytn,(YFA,Z02),(0,Y5 YKb),(0,Y5 YML),(0,Y5 Y8j),(0,Y5 YfB),(0,ct.dict 1 Y6S),(0,ct.list YJ3),(0,ct.list YK1),(0,ct.list YKb),(0,ct.list YST),model g.prog g.w,(0,ct.list YVU),(0,ct.list YML),(0,ct.list YfC),Y6l<Y0q,(11,YBv,YQJ),(16,YPQ,c5),(25,YC2),(28,YbI,Z01),(32,Y4d,YBv),(35,Y9 2 (eE X Y7V Y0B)),(4,Y9 1 Yki),(6,Y9 1 Ynu),(8,Y9 5 []),(8,ct.list Z9T),(8,ct.list []),(A2 own caps c.ns).Nodup,(AL e).elim,(AQ s.heap l1).objs.size,(B.5 i af hf).imp,(C,Y7z,f)∈br.mt,(D.5 k j h).imp,(Er s.heap l1 l2).objs.size,(Es s.heap l1 l2).objs.size,(F.2 n.1).trans YGc,(F7 S p).map h4,(FW D af q).elim YZ3,(H.eA.lookup C).elim,(HV e.2).elim,(Ht _ _ (q6 Ul)).trans,(I.7.weaken Y31).trans,(IB av).elim λf5 q=>q.elim λj q=>(N.6 j (et YG)).elim YEU,(J6 (prog:=g.prog) aA bg D).elim,(JM bD).elim,(L.1 _ _ w).elim,(L.1 n _ Y15).elim id ZlG,(L.1 n _ Y1e).elim,(L.3.6:Y1Q+0≤0+0+S.N.length),(LQ t).symm,(List.range n).map,(N++[Z6]).map,(N.map bO).length, YRC▸this,(Nat.le_total x y).elim,Y0j×Nat×Y0X,(Obj.cls_mapFields ..).trans ao,(PG e).elim,(PI x).elim,(Qu n p v r).trans,Y5q*2 ^ Y5q,(S.ed++YFl).map Yh,(SV (n:=0) av).elim,(Sp Y1K).elim,(Uq hm).elim,(V.int_at aO af).elim,(V.jM YMt).elim,(V.kr YMt).elim,(V.ph h').elim,(V.str 27::YBA).length≤1000001,(YKQ::Yo4).length,(Z8F::YCY).length,(V4 _ _ _).trans,List E,Yj→Y1,(_,[(putN t a _).2]),(a4 (Y5A f)).length,(a4 L).map Zkd=(L.map λi=>canon S.f Z7I).map bO,(a4 aZ).length,(a7.N,fr),(a::t).eraseIdx i,(YKe||(carriedByValue YA&&carriedByValue Y0B))=true,(aB.new ah).trans Y5R,(aB.new ar).trans,(aB.new ip).trans,(aD.1 K L bD h).mono,(aD.1 K L eg h).mono,(aD.2 K L eg h).mono,YFp.2.1,(aE.2 j k u ak q.2 aP).imp,(acC (au ak (au (c0 av e) (dH (aX (gi n hA) Ywb)))):bk≤e+hA),(acc:Y3),(Y7Q a t _ h).elim,(Y7Q b t c e).keep,(Y7Q b u p e).keep,(ae.here h0).elim,(ai _).trans (aT cj (gT sx (bW g5 ZE3))),(ai λu bj=>h u Yja).elim,(ak.push YE1).objs.size,(ao c).elim,(as++k::bs)[i]?,(at_ aO.1).elim,(bH cl aC).1,(bH cl aJ).1,YSe.1 r ab Q,(bH cl c).2,Zd r m Qr,Zd r m λv ab=>a6 cl s Y5f ab Qn Qr,(bM Y7y.1).getD, Y8D YBp Y7=_,Y8D i Y7,Y8E≤1000,Y8E≤1000001,(bM s.1).length,(YSi,Y7W),(bR ah).symm,(bT xs).any,(bT xs).eraseIdxIfInBounds i=bT YNj,(bT xs).isEmpty,Y2N=xs.length,Y2N≤sizeLine,Z1[k]?=none,(bg.keep kt).append,(bg.keep kt).eraseIdx,(bw _ _ _).trans,(Yhv:aK s.heap x Y33),(bz Z0 af).2,(c4 e.1 Y3i:fY=x),(c8 YLO YG8).isSome,(c8 es a).isSome,(c8 es x).isSome,(cB.map λO:hQ=>1).sum,(cond YEG (mj r cells YzK) (mj r cells cs)).lookup,(congrArg (YGu+·) YZo),(congrArg Y55 (if_neg (Dw c)):),Y0 C,(congrArg Y55 (if_neg uU)).trans,(congrArg Y55 ZRQ:),(congrArg mh q).trans,(congrArg mh z).trans,(Yf:(8:Nat)≠0),(d++[x]).flatMap Y9U,(d.filter YYu).map,(d.filter λz=>nk z.2).map,(d.map hF).sum,Yj5=false,(dE Mq.symm).trans pF,(decide (-(2:Int) ^ 63≤Yqf)&&decide (Yqf<YQM))=true,(di (Y7o+1 - i)).find? λk=>(o.getD (i+k) YNH).isNone,YOi f,(di S.N.length).filter,(di n).filter,(di n).flatMap,Y8H YYo,Y6K[d.length]?=YQ,(Y2:0<5),(Y2:1<20),(Y2:1<4),(Y2:1<5),(Y2:1≤1),(Y2:1≤1000000),(Y2:1≤4),(Y2:2<4),(Y2:2<5),(Y2:2≤1000000),(Y2:3<4),(Y2:4≤100),(Y2:4≤4),(Y2:5≤100),(Y2:6≤100),(done++[x]).flatMap YHv,(YGW,Y0h),(dw ..).symm,(dz aD).elim,(dz ao).elim,YOk::es,(e7 cl [aC]).1,(e7 cl [c]).2,(e7 cl ifs).2,(eL P).symm,YJB r.length,Y14.1.length,(ee aM).elim,Ywl λa w=>aV w.2 (⟨YA8 ZWj,D.1.2 a ZWj⟩),(ee aq).elim,(ee h).elim,(YU8:i=j),(Y1e:i=o),(es.map YYl).all (λx=>!x.1)=true,(es.modify i ZiB).map Yh,(e▸bz).gj.elim,(e▸q.1:aK s1.heap cF Y1x),(e▸rs).two.elim,(f a).length≤m,(f.trans f2).trans,(f1.trans f2).trans cz,(f1.trans hm).trans,({s with heap:=h'}),(f2.trans cz).trans f4,(funext λn=>(F.2 n).trans (RG c.cN n).symm:env.kindOf=(nQ c.cN).kindOf),(g4 e.2).1,(gG z).elim,(gM S x y).use i, Y9n S.N.length,(gx N f).length,(h x z.1).one,(h.push Y3P).update,(h0:YEk=Z2),(hW.2 a ne).trans,(hc m n Y2u).i,YEg=none,(hk S c).map,(hs _ YOP),(iF (ar _ b3) rfl:x=(false,x.2)),(if YUM then some (ayq p.j i YXP)else ZXl)=ZZf,(if_pos e).trans (congrArg some aO),(intsOf Y4A).sum,(intsOf vs).getD,(ir t).map wY,(iw aF).elim,(iw aM).elim,(iw aO).elim,(iw h).elim,(iw h).imp id bR,(j2 · a),(jJ h).elim Y6i,(jJ he).1,(jX a==jX b)=true,(jX d==l6)=true,(jX l==l6)=true,Y2A Y1q.1,Y2A Y1q.2,Y2A bC,Y2A bD,Y2A q,(k,j)∈S.ed,(kb m n x).2,Yac≤18,(kl z.1).map,(km s.heap it _).trans,(YVR,Y7W),(l.flatMap f).length≤l.length*m,(late++[(j,i)]).map gw,Yaf aO,(mem ar).elim,(mj names cells cs).lookup,(mj scope.names env.cells []).lookup n=Y0l,(most:Int),Y0q - YIp,(n==YIn)=false,(nP c7.target).length,(names.map λ(n,k)=>if(k==uc&&ZMr&&Y25==Y2w)then(n,v7)else(n,k)).lookup x,(nm==YIn)=false,(nm==Y1l)=false,(ns.take np).length,(o,Y1R)∈nod c,Z6∉S.N,(YMe).size,(o.o.nH H c x).elim,.refl,(o7 prog w).is,(oF (v 0)).1 K lk iZ (bc rfl Zn),(oF o).1,(oF t).2,(p.2==v7)=true, Y9s (aL ZWh (congrArg _ ai)),(pb es YNN.2 YBm).size,(pureOf (swappedStores [t] v YnJ)).elim,Yam false Zhj,(putL t ps S.N).2,(putN h.2 YG S.N).2,(putN t YQJ N).1.length,Y7x.1.length,Y1s.1.length,(putN t YG S.N).2, Yap λO s3 z=>z.elim λuK z=>?_,(qB es).1 K F.1 hJ h,(qK YrP:YiH),(qP.mp w.1).elim,(qQ af).mpr,(qh ao aR.1).1,(r.get hm.1).elim,(r.mem Z3b).elim,(r.set i Y0l).set,(r9 L q Y2X).length,(r9 L q R).length, Y32▸rfl,(rW af).elim,(rW w.1).elim,(r[10]?).getD none,(r[2]?).getD none,(r[7]?).getD none,(r[9]?).getD none,(r[b1]?).getD none,(r[l1]?).getD none,(rfl:c8 YGk Z1x=some Yh8),(rfl:c8 YGk YFA=some Z02),(rj (show dg∈Z9q YsM from bq)).elim,(roots N.length YMj).length,(s.1,[]),(s.3 z h).imp,(s.heap.push YNX).push,(s.heap.push emptyDict).get?,(s.heap.push emptyDict).push,(s.heap.push Y3P).get? s.heap.objs.size=Yp8,(s.heap.push YNu).get?,(s.heap.push YNv).objs.size,(s.heap.push YNv).push,(sG w vs).toArray,(show aK _ _ Y8Q from YUI).elim,(ZZX,V.tup YKX),(ZZY,V.tup Y8k),(some F,YZR),(st.3 a o bS).elim,(st.mm.trans eX).trans,YEn none YsT ,YEn none YYz ,(YXO==3)=false,YBr≤1000000,(YXU∧Y4x≤4)∨(YXT∧ZN8),YpX=true,λO O=>none, Y3L.1.plain=true,(tC A x na).ul i,(tC YNt S.N.length b).ul,(tZ a aD).elim,(tZ a aD).imp,(tab m).getD,YPH jc,(uC e).elim,(uC x).elim,(ur q).2.2 m.2,(uu q).elim λv z=>?_,(uu y).elim, Yb5 λab hm=>YyM λfq he=>?_,(vf A n a).e4,(vm us).map Yh,(vs.length:Int),(w6 hm).elim,(w8 i).mp,(wh h).1,(x.1,(cells.lookup x.1).getD 0)::cs,(x.7 i n v ak av aP).imp,(x.7 j k u ak q.2 aP).imp,(x.zip y).all YYv=true,(x2 "type.__call__" args).isCreation=true,(z.1,z.2), YzP∈N.zipIdx,(Z3 j).trans,(Y0m y.2).trans Z7u,(z.3 A s1 aG z.1 Y2G).mono,(z.4.2 A s3 aG z.1 z.3).mono,Yb9 f,(·.eraseIdxIfInBounds i),(·.refKey),(·∈fs),(λe=>AW Yqv:¬envX env D),(λ{tr most s}=>iF rfl (congrArg (YOl||·) (Ds ZM7.2).symm)),Zm1∧∀v vs r m,Y7F→YH4∧ZRv,Y2e o ZN2 apos,Y2e o n apos,.Bd ts es s,.Be t b s,YBt .And Y2E pos,YBt .Or Y2E pos,Y0Q Y42 es [] pos,YBu x [op] [y] p,Y4Z YQB ax cO,Y4Z c k p,.Cx a b,.JoinedStr [Y4Z (Y4 t0) ax mD,.FormattedValue Yzq (-1) none kQ] jp,Y09 n np,Y09 nm c5,Y09 nm sj,Y19 [Y42,YbF] c6 pos,Y19 as x p,Y19 l k p,Y19 ts c6 ek,Y19 vs cT cO,Y8O .Not e pos,Y8O .USub YPM pos,Y6v (YEz (Ya (c3 358 324) (v 0) [])) (Ya (c3 358 336) (v 0) [YF4,v 5]),Y6v a b,dQ _,.b 1 py c5,YK tr,ZK "list.pop",ZK "max",ZK "set.update.loop" ⟨[YJl,Y1B],[]⟩,ZK "sum",.cV (.op Bu [v 9,qI]) (.op YI4 [bK 3,v 8]) (.op YI4 [bK 3,v 8,bK 4,v 9]),.cV (.op fc [v 3,YKy]) YKy (bK 30),.cV (.op oEq [v 2,bK 28]) (v 3) (.op fj [qI]),.cV t a b,.cV t a b s,ZF iK [YPo] ZQ 1 [] [] (.op (cU 263) [v 0,.op fi [Ybr,Y0I],.op fi [Ybr,Y1c],Yc2]),ZF iK [.op fc [Ybm,v 4]] ZQ 1 [0,7] [] (.op YiX [v 1,.op ZJ1 [v 1,v 0,Z15]]),ZF nM [.op qG [e]] ZQ 1 [2] [] YEx,Y9 3 [],Y6x e,Y01 e s,.fd 358 6 (v 0),ZY #[Y75,YBx],Y0A d5 as t b s,.globalImplicit,YY aq,YY d4,YJ (YY YjH),YJ Y5z,YJ Y9x,YJ YJc,YJ Y61,YJ ⟨e,Y5r⟩,YI ((1:Nat):Int) s1.toks,YI Y3k tk,YI 1 s1.toks,YI ep 0,YI xs.length 0,Y5 [Y3B],Y5 us,Ya YT9 (v 0) Zg,Ya ZIg (.op ZFb [YC6]) [],Ya wV YPk Z9e,.nm 11,.nm 5,.nm 8,YEz a,ZD 617 Yf9,ZD 617 [Y1Z],.of ro,.ok Y8S,.once q,Y1L 1,Y1L 2,Y1L 3,Y1L 9,.op YKv [YF4],.op (b2 263 3) Zg,.op (b2 358 4) YT,.op (b2 358 5) YT,.op (b2 358 7) YT,.op (b2 358 8) YT,.op (b2 617 2) YT,.op (b2 CA dM) [Ybl],.op Y7b YAK,bT xs,.op YTT [v 0,YA1],.op YiY Zg,.op BE [.op fc [v 0,YhN]],.op JF [Y3m,v 2],.op Kb Y1a,.op Tf [],.op fc [v 0,bK 7],.op fc [v 0,bK 9],.op fi [v 7,Y0I],.op fj [Y0I],.op gW [YC5,v 1],.op gW [Y9z,v 1],.op i4 [Ybj],.op kT [v 7],.op nT Y1a,.op oEq [Z0z,Y1c],.op oEq [v 2,bK 24],.op oEq [v 2,YGB],.op oEq [v 2,bY 3],.op oI [YJh,Y1c],.op oTup [bK 1,Y73,Y73],.op oTup [bK 17],.op oTup [bK 4],.op oTup [bK 6],.op oTup [bK 8,Y73],.op oTup Z9x,.or a b,.own Y1J,Y0 Y1J,Y0 B.L,Y0 B.T,Y0 J,Y0 R.af,Y0 R.n2,Y0 R.op,Y0 R.pl,Y0 R.re,Y0 R.rs,YA::args,Y0 cd,Y0 ei,Y0 ff,Y0 gY,Y0 hL,Y0 he.objs.size,Y0 l.2,Y0V::vs,Y0 r,Y0 x.2,YS (.op oJ [v 4,Y0I]),YS (v 2),YS Y7,YS e,.sX hb [v 8] ZQ hb [Ya ZIX (v 2) [v 0,v 3,v 4]] Z0n 2 Z9U (v 1),Y45 Z1 n,Y45 items n,Y4 (cond b 31 30),Y4 10,Y4 14,Y4 18,Y4 23,some Y1Z,Y4 24,Y4 YAx.1,Y4 m,Y4 n YBH,Y4 name t,Y4 x t,Y4 Y5o t,.swap _ _ _,YD (ZE::Y7s),YD [Z1y,x],YD [YcM,YQ7],YD [ZE,YCj,YAS],YD [ZE,YCj],YD Z9d,YD Y2E,YCC 6 7,YE "list_iterator",YE "set_iterator",.v m,.wJ is es s,.yR i e s,1001≤m,13 - c,13+m<m+15,2 ^ S.N.length,2 ^ cnt Y6N,YCE=2*YJw,A.frames=ZaE,A.frames=some [env],A.frames=YE3,A.map λz=>(0::z.1,z.2),A.ul c,A.units+2*n,Z2X+20<cLine,A1 scope.names env.cells,A9 t n=true,AM he (yv _ _ bj),Af aR,Ai ..,An bC,Aq NF ?_,Array Y0X,Y1N→Y1N,B (A N).1,B.1.keeps Y5T,B.3 i q e,B.4 p ar,B.6.2 a aD,B.dq F Y2M,B1 c ao,B4 bZ lt,B6 K F B az aD h,BF s vs,BH r _,BU prog w S inv ok,Base g gl,Bh is r ws,Bn _,Bool.and_true ..,Builtin.«zip.__next__» ⟨[Y3T],[]⟩,Bw lt p n q,z.2.2,C.1 o aP,C.2 u pG,CI.mp w.2,CS z.2,CV.go Nb,CW _ _ GN rfl,Ca S x d,Calls→YhL,Cf b,Ck.trans kC,Cr W.1 af,YA8 af,YCI df rZ bb,YCI i af hf,D.2 m Y23,D.3 i _ aq,D.5 p ar,D.7 i x c af ao,D.snoc ao z,D.tab B C z YBc,D4 m a o Q,DA aC.symm,DM rfl YC YC,DO ..,DP.mpr rfl,DQ vs ws,DR ..,DT prog w E v,DU prog w E vs,DV prog w E v,DW prog w E vs,DX prog w E v,DY prog w E vs,Dl uU,Down lt p (n+1),Draws g.prog g.w A.in1 it YfF vs.length Yrv (λi h=>And Yev (Z h)),Dv he,E++[YD YRp],E.N++X,EC d.1,EO false,EO true,EU bj,Ev g k env c.ns r mh Yk1 Q,Ev g k env c.ns r mh (eval Yzi env) Q,Ev g k env c.ns r mh ZNN Q,YQi∧plainT x=true,Ev g k env ns r m Yk5 Q,Ex ae (Ez _),F t x.2,F x Ygg.1,F.1 i af,F.2 i af,F.args_zip_next_1 _,F4 Yhc,F9 (dx:=0) iq.6 YLp YW ZQa ZQb,F9 (dx:=YTt) iq.6 YLp (by refine ZO4;exact Yk) ZQa ZQb,FA es.size led t es.toList,FI hW.extBut,FX D az,FY D az,z.2.1,False.elim h,Fb prog w E v,Fc prog w E vs,ForInStep YCG,ForInStep YRH,YdB→YP,Fv keys vs=Y2J,G4 h,G8 _ _,GR t=true,Ge (CJ _ _),Gi YNW q aF h.2 z.1,Gu Y4s.2,Gv B ei i9 bs fR r,H.8 i af hf,H1.no Y8p,H2 _ u,H6 aG.ot (he q) q b6 dv,H9 YUK,HO e,HY 0,HZ prog w c q,Hb (Dk.mpr h) YC,Hp 31 f mv led pl Y9m,I.2.symm,I.8 _ Zj,I0 t=true,I5 (fx.symm▸S.2.2),I7 bD,IS q.2 λb e ck=>?_,IY mh Y1J s.heap.objs.size t C,IntsAre xs ws,Int→YQu,Io vs ws,IsPair h' c2 x y,IsPair h' s.heap.objs.size x y,IsZip aD z TI c2 YJa,IsZip h' z TI c2 (rawInt s.heap.objs.size),ItemsOf YK4 gC ord.length,Iu hd L.6,J R C i af,J n r mh,J.3.weaken,J5 oP,JG a b Q,Jg ts H c xs=true,Jh is c ts=true,Jq fd ps,Js g A k f ns args mh s env hC body s1,KJ v m Q,Kf h,Kp ..,Ks.mpr e,L.2.dq f1 YET rfl rfl rfl,L.2.hc (W.1 _ _ L.4) a2 eX (λb h=>uJ b (YJ YPb)) iL,L.3.2.wf,L.3.gone c7 ap,L.flatMap F,L.length≤d.length,YFN=none,L.map F,dd A k,L0 Yf YSX.1,L7 bq 5 Y2,LT ab bX A S B,LT m bX A S B,LT mh bX A S B,LT mh bX A pD B,LW g k w p,Lg ..,List YaQ,List (Bool×YKR),List Ye7,List Y0X,List Yer,List Yey,List (cE×Nat),List YlK,List CmpOp,Z8→Y1,Y3→YFJ,Y3→bG,Ye→Bool,Lm ..,Looks YR h ZUq Yc5,Looks YR h (opaqueClassAbove Yw) none,Looks YR h (typeLookup Yw name) none,M.3.ea f,Mg W,Mo ..,N.QA (C:=C) L,N.length≤M.length,N.map bO,N.take i,N1 q,N2 ..,NK (b:=0) YC Yq8,N[n]?=YQ,Nat×Str×Nat,Nat→Int,Nz g n,O1 h,O7 g X s mh R a s' aW,O9 _ _,OG (Am aP),OW bx YmU,Obj→Obj,Oe _ Dn,Of mask hs,Option DictEntry,YAA→YP,Yp→Yp→YKF,Option {a:α // t=pure a},Option {b:Ze // d=Y65 b},Option {c:Const // ∃k p,e=Yzl},Option {fd:FuncData // d=YPa},Option {n:Str // ∃p,e=Y42},Option {x:BoolOp×Ye // ∃p,e=YBt x.1 x.2 p},Option {x:YFO×Ye // ∃p,e=.Dict x.1 x.2 p},Option {x:Ye // ∃k p,e=Y19 x k p},Option {x:Ye // ∃p,e=.List x p},Option {x:UnaryOp×aI // ∃p,e=Y8O x.1 x.2 p},Option {x:aI // ∃p,e=YEr YQ p},(o,aZ),Option {x:aI×Z5H×Ye // ∃p,e=YBu x.1 Y2K ZJ p},Option {x:aI×YCP×Scope×Pos // e=YEp x.1 Y2K YIH Y6f},Option {x:YS2 // ∃p,e=YPP x.1 x.2 [] p},Option {x:aI×Ze×Ze // ∃p,e=.If x.1 Y2K ZJ p},Option {x:aI×Ye×Pos // e=Y0Q x.1 Y2K [] ZJ},Option {x:aI×Operator×aI // ∃p,e=YbD x.1 Y2K ZJ p},Option {x:aI×Pos // e=YJU x.1 x.2},Option {x:aI×Str×Pos // e=Y2e x.1 Y2K ZJ},Option {x:aI×aI // ∃p,e=Y6u x.1 x.2 p},Option {x:aI×YS2 // ∃p,e=.For x.1 Y2K ZJ [] p},Option {x:Yfp // e=YPL},Option {x:aI×aI×aI // ∃p,e=YbE x.1 Y2K ZJ p},Oq _ x9,Ov ..,P YWS r ab,P Y0O acc m,P a b mh Q,P acc A3.locals,P l r ab,P none s',P v vs m Q,P vals [] m,P vals acc m,P++YUX,P++[n],YeL∧∀i p,YeO→p≤i∧f p=f i∧(p=i↔YLf),YRN++YN1,PJ Q,PS bJ (Il e (w it Y61).1) r,PT bJ (En aA qn.1 rfl qn.2.1 YC) q.2,Pm _ _,Pos→YP,PyData.keyHash g.w.params n,PySem.Fin→YP,PySem.Pairs YHU xs iN,Pz b6 dv q,Q (YK YTo) aH,Q (YK YTp) m,Q Y1A aW,Q Y0h aW,Q Y0h ab,Q Y0h m,Q Y0h mh,Q (Y6w (YS YC8)) ⟨ZQ6,g,d,t,os⟩,Q (YI (x - y)) m,Q (YI (x+y)) m,(Q Y2B {s with heap:=s.heap.push (pH (YI (0:Nat) 0) 0 a es.size ep)}),Q YG5 mh,Q (m3 ms jQ) s,Q YDl jj mh,Q YKY jj mh,Q a t c es,Q l YHX mh,Q none s,Q true mh,Q' () s1,Q' Y1A m,Q' false m,QN _ _ (IJ a),Qi hm,Qv Ye1,Int×Value,Qz (q.1▸ak) YG z.1,R Y1x YIS,R YPi s',R (.ok f) s',R p.1 p.2,R.flatMap Y9U,R.hM i,R.map some,R6 fy aJ aC,RH ..,RI F ..,RK F ar,Rest E P,Rr bD,S.1.mono,Z7F λvals need m z C=>z.elim λP z=>?_,S.3 rfl,S.N.getD i YZf,S.N.length+1,S.N.length+ZV,S.N.length+dep q≤13,S.N.length≤12,S.N.length≤63,Y1Q+4*d.length,Y1Q+4*hs.length,Y1Q+dep q≤800000,Y1Q≤799000,Y1Q≤c,S.ed.map Yh,S.e≤800000,(Y8d=YCS→∀aW,Y4D→d3 aW A {S with e:=YAE}→Z6d),Y8d≠YCS,Z7W→∀aW bl,Y4D→Y0Y→d3 aW bl (gM S YDi YAz)→Z6e,S.f df=df,Za≠df,S.f x0=x0,S.use Y49,S.use df,S.wait++YAF,S.wait.length≤300000,YFe→YRu,SA gK aM,SD gK,SH SI a ..,SM ..,Sem Unit,SetTable.runEnd m i,St s.heap,Step Y1V s0 m0 s mh,Step X s m s' ab,Step X s mh s1 m1,Step cX s mh s2 mh,Step wr s mh s' mh,Step.change (s':=Y0w) ae e Y1H Zmz Z4K,Step.grow (s':=Y0w) ax,Step.toks tk,Str×Ye,St→Ydo,Sub r b6,Sz a m λvs=>Y2Z∧∀ws:Y3,ws.length≤vs.length→(∀w∈ws,w∈vs)→alloc m (Y5 ws) Q,T v acc m N,List DictEntry,T.getD YBq Y7,T.getD c Y7,T.keeps (h':=s.heap) Y5T,T[c]?=iY[c]?,TabAt m a t,Tk s.1 i,To iV y4,TupAt h a xs,V.VG aJ,V.int ((YtT:Nat) - 1:Int),V.int (((YKc++Z9Z).length:Nat) - 1:Int),V.noConfusion YJD,V.str 30,V.str q.1,V.str x.1,V.str_inj h,V.str_inj h.1,V.str_inj z,V.tu e,V.tup YcR,V.tup Yqc∈vs,V3 ..,V6 _ _ _,V7 _ _,VI ..,VJ ..,VV Zj5 ..,Value×Yn→YP,Value×Nat,Yey→YAA→Sem YdB,Value→Nat→Y48,W.1 _ _ c,W.1 _ _ d,W.1 _ _ fJ,W.1 _ _ ru,W.1 _ _ wC,W.2.elim,W.4 s1 m1 _ (e▸L.4) Y7B q.1 L.2.3 λs2 a2 c7=>wpAny_pure (gI EE m1 s1 s2 L.2 c7 a2 Z4v (L.2.4.imp λxs z=>z.imp λep z=>⟨YGH _ _ iL z.1,ZfC⟩) q.2),WJ K F rfl,WP g A YHc P s,WP g A (pyNext Y3T) Q s,WP.mono (W.3 i s1 m1 AX d.1 L.4 Y7B q.1 L.2.3 Zks) Zjq,WQ ..,Walks prog w A I [I,a] [I] ord.length YK4 (λi h=>Yl9=some (pH (YI (f i) 0) i a es.size ep)∧YGs),Wh x0 df,Wk D.1 ZWi,Wp.map gw,Ws (x:=x) (cs:=cs) D.1,X _ _ q4,XE ..,XU _ _ _,XY N f p,Xe g k p,Xg YAI Z.4 q aF,Xs Z.2 q,Xu ..,Z s.heap,YFj hL,Z.2 _ λnm q N bs sn sub vQ col oL p4 dC du gs gZ q4=>?_,Z.4.extBut qo.extBut D.i1z,Z.6.extBut qo.extBut D.l1z,Nat→Bool,Z.hits G YFp.1,Z.vt f,["enumerate","zip","dict_itemiterator","dict_reverseitemiterator","odict_iterator","itertools.zip_longest","itertools.pairwise"].contains n,["heap"],["pack","deep","way"],["self","a"],["self","c"],["self","heap"],['r','o','t','a','r','e','t','i','_','t','e','s'],[(Y4 20,YJn),(Y4 15,Yh8)],[(Y2n,f i)],[.If (YBt .Or [Y8O .Not (Y0Q (Y09 "_law_is_refused" ek) f6 [] cO) ky,Y8O .Not (Y0Q (Y09 "_law_is_refused" kS) t5 [] lN) s8] s9) [Dc] [] Dd,ret],[.LtE,.Lt],[.Try [YJU (Y0Q (Y2e o "do" apos) [a] [] pos) ep] [.ExceptHandler (some Yzo) none [YEr (some (Y4Z Y0h ax mD)) z2] ar] [] [] z3,ret],[YI x,YI y],[Y7,Y7],[.op ZFc [YC6]],[.op Sn Z9r],[YF5,Y3B],[Y1M,Y1E,Y3A,r],[Y1M,Y4p],[YA2,Y1E],[Y1Z,Zk,YA],[YPy,ay d],[YJm,Zk,YA],[YQ3,YQ5],[Y64,Zk,YA],[Y34,Y4q,Y1b,Y35],[YD [Y35,Y46]],[0,9,10],[V.int 0],[Z8D,YFA,YcO].all,[Z8D,YFA,YcO].any,[V.tup YRp],[ay Y9k],[ay YDj,ay YDg],[YCj,YAS],[bB ek,bB cO],[Y4q,Y1b],[bK 20,bK 30],[df,eg,Y2v,hx,YN7,Y3v,oX,tR,YE2,YXH,ba,cJ],[YkR,fk nod b],[YG,Yq],[Z2,Y5g,d1,hx,mW,Y3v,fC,e9,none,none,none,none],[Z2,some Z29,cT],[Z2,some Y2P,cT],[Y2Y,Y05,YNG,Y6Z,none,none],[Y2Y,Yp3,Y81,eY,none],[Y2Y,YBK,Y81,hx,mW],[Y0T,YND,YNE],[YB,some Z2A,some Z1y],[t].flatMap,[v 0,v 1],[v 1,v 2,v 3],[v 1,v 2],[v 11,Y0I],[v 2,Y1c],[v 3,Y0I],[v 3,v 4],[v i,bK n],[x0,Y0T,Y0v,Z2,fl,e0,fC,e9,Y3J,none,none,none],λO O O O O=>rfl,[x0,Y0T,Y0v,Z2,fl,e0,fC,e9,Y3J,Y3g,ba,none],[x0,Y0T,Y0v,Z2,fl,e0,fC,e9,Y3J,Y3g,some YAn,none],[x0,Y0T,Y0v,Z2,ZZi,e0,none,none,none,none,none,none],_=some (Y77,ct.list (a4 ZbL)),a H c Y5B&&ZFV,a+2*(m+1),a+2*m+20<c,a.3 i af,a.5 P h,a.eM False λvs=>D6 (1≤vs.length) Y2Z (hv Zd8=true) (YD Zd8) m Q,a.isBool&&b.isBool,Y7J→YOY,a.oi False λp=>EL m p C i Q,a.onStr False λn=>Yst,a4 YKL++a4 YAF,a4 ZAi,a4 Yan,a4 YDw,a5 g YXe s',a5 g mh Y0w,a6 YSC KL Z9m mh Qn Q,a6 cl (.cV (.op Bu [Y8V,qI]) a b s) r m Qn Qr,a6 cl (.cV (.op oEq Z9y) a YO s) r m Qn Qr,a6 cl (.cV (.op oEq [v i,bY Y0q]) a YO s) r m Qn Q,a6 cl a r m YIg Qr,a6 cl b r m1 YOB Qr,a6 cl s bI ab Qn Qr,a6 cl s r ab Qn Qr,a7.N.length≤10,a7.N=r.1.1,a9 h (YVT) us,a9 h bf b,a9 h bf vs,a9 h bf ws,a9 h xs a,a9 h xs us,a9 h' bf fX,a9 h' xs vs,a9 s'.heap xs vs,a9 s.heap bf us,a9 s.heap vs ms,a9 s.heap xs ms,a9.cons a (ai b i),a::l,a<s.heap.objs.size,a=env.locals,aB YLF mh aW,aB ea m ab,aB jF m ab,aB no m1 m,aB.at (p:=YTZ) h bq,aB.new BW,aB.new aD,aB.new fK,aB.new qU,aB.new sa,aC ..,aC▸cg B.3 z.1,aE.push _,aF _ _ Yfy,aF y Z3,Array Nat,aG.create _,aI→aI→Pos→Bool,aJ▸d2.cons a b c (ai d i),aK h cF (YI x),aK h dF (YI y),aK h v m,aK h x ZM ,aK h x ZZ,aK h x u,aK h y v,aK s'.heap v m,aK s.heap cF (YD a),aK s.heap dF (YD b),aK s.heap e.key (YI j),aK s.heap e.key YC9,aK s.heap v ZZ,aK s.heap x a,aK.oj p,aL YCv z,aL Y1U ?_,aL (gy) (aj (gy) (bW (acD) ?_)),aL YX4 ?_,aL aC ?_,aL cj ?_,aL dK ?_,aL es ?_,aL ps hz,aL Z3 (aX (ho) (gS z.1 ?_)),aM▸Y7l.2,aN.8 n c h,aN.apart J.7,aN.ez J.3,aN.ez f3.2,aO (k:=k) (Q:=Y9J) K L ao h,aQ (bt (f:=Yh)) (aX aJ Y2H),aQ YF this,aQ (gy) h,aQ Ylw q,aQ YME hf,aQ ZXn h,aQ (ug) YKz,aQ Bo ?_,aQ M.4 this,aQ cM (eT e bx),aQ e (bN z q),aQ fN w,aQ hL (bL ff (bW (cu bx) rfl)),aQ qn (bN cM q),aR dI Wy,aR e b3,aS (CO ?_),aS ⟨rfl,YgE⟩,aT Ydu ?_,aT YDk ?_,aT cj (aj ZDZ ?_),aT e (Y0k),aU g (k+1),aU g (k+1) 79 YKY mh Q,aU g (k+1) C args mh Q,aU g (k+1) f args mh Q,aU g (k+2) 541 Yf8 mh Q,List α,aU g (k+3),aU g (k+6) 522 [Y1M,ZE,nums] mh Q,aU g (k+7),aU g j,aU g k hL vs m Q,aV ZO (aa YYH YSF),aV ZO (aa YYH YSI),aV Z4P I.6,aV e (iI a),aV e q.1,aV e rfl,aV hm d7,aV lW rfl,aV q e,aV r.length ((jJ e).elim Y6i),aV z.2 rfl,aW a=none,aX ZDa ?_,aX YL2 Yk,aX YF YSA,aX ZN rfl,aX ZU rfl,aX YW9 ?_,aX ZWb (fH (p6 YlU) ?_),aX YMs (fH aq ?_),aX YIL Yb8,aX bk ?_,aX dO ?_,aX dO gv,aZ.length≤1000,aa YQj ?_,aa (NN ..) ?_,aa (XX W) ?_,aa Y0H (aa (show k+6+YTs=k+Y3Z+7+YAg from(congrArg (λz=>k+6+(z+1)) ZP9).trans Ga) ZML),aa Y1T ?_,aa Y0D ?_,aa ZMe (aa ZMK rfl),aa Y3c ?_,aa ZN rfl,aa Y0c ?_,aa YmX ?_,aa Y32 q,aa F.3 ?_,aa aC ?_,aa aJ Y23,aa abf ?_,aa aq ?_,aa bI.jh (iy NH ZJS),aa builtinLookup_eq_fast ?_,aa bx rfl,aa cj ?_,aa e (aa (show k+6+YTs=k+YAg+7+Y3Z from Ga) ZMf),aa e (aa bk (iy Ad ZJQ)),aa e (ko _ aF),aa e Z3,aa e.1 rfl,aa ev b3,aa ex ?_,aa fB ?_,aa g3 ?_,aa he h,.obj,aa lp.2 ?_,aa mF ?_,aa q az,aa w.1 (aa w.2 ?_),aa z.2 rfl,aaF _,aar q aF,YAQ=some (t,ZD C (putAt fs x i)),ab fR=YXC,ab1 YZM,ab7 Y3G,abB g C l mh s env e s',abG g env c.ns r mh s s' ab,abT prog w,absurd Y5r ZZV,absurd aC Y03,absurd aM cS,absurd e Y03,absurd e.symm Y03,absurd h Yf,absurd q (no j k),absurd z.2 cS,absurd Z4 Y03,acc++F v,acc++[y],acc++pR,accN ZM5 ps s,accN YMD cB s,accN xJ l s,aci.trans (ays u ?_),ack Y0J m,acn _ ZL,acv ..,acw ..,acx ..,ad ..,ae.grow (s':=Y0w) ax rfl rfl,ae.off e h0 mN,Y2R K L d1,Y2l K L d1,ai (M:=M.erase a) YAV λb ah=>(ayt λe:b=a=>YCq (aV e ah)).mpr ZPW,ai (cA (oA p.2 r e) h),ai Y6s,ai _ _ _ r,ai b n,ai cs,ai fa,ai jU.2,ai ok,ai ok.2,ai yU e,ai λb ah=>ZPW,Y7R K L q h,aj Ycm (aj r.length YGf),aj (Jb F ..) (aj b.2 (congrArg _ Yxb)),aj YS9 YAe,aj (ai YiN) ?_,aj (axU) ?_,aj YF ZEA,aj YF YSU,aj YF Y2S,Y4 o,aj YF aE,aj (dE (λq=>by replace e:=Yg9;exact Y4t)) e,aj ZO (congrArg _ (gi 1 ..)),aj ZO ?_,aj Y0D (aj bg.length YGf),aj Y3c Y07,aj ZU ?_,aj (l9) aM,aj YNP ?_,aj aJ ?_,aj aN.2 iY.g,aj ah (DE hd (bW Z2d rfl)),aj av YAe,aj ax0 ?_,aj bg.length YDD,aj bo YEW,aj cj YW,aj e (aa q (dT Y3r (aV Y4u (aV q ?_)))),aj e (congrArg _ q.1),aj Ykw aE,aj h5 (dU dO (bW YBU rfl)),aj jy ?_,aj nz (dT (beq_false_of_ne (MC aA 3 rfl)) ?_),aj q.1.length (aj YG ?_),aj rU ?_,aj Z4 YDD,ak i q e,ak.get? b,alloc m (Y9 kc ms) Q,alloc m YC4 Q,ao _ _ _ _ ak,applyN most q YZp h,aq e,aq.elim λi aq=>aq.elim λm1 aq=>aq.elim λEE L=>?_,ar p q,assign x env,au (au Y7Y aE) Y2,au YKt az,au (c0 (iu 676 hd) c) ao,au (c0 Zbj u) bj,au Yk aD,au Yk i2.2,au Yk YWE,au (cx _ f) wR,au (dH (Oo _)) Z0,au (dX aE) Y2,au (dX this) (dH (x8 (ayv aD))),au Y1I hd,au Kx Y2,au Wg Y2,au Z.3 YSV,au ak av,au ak gK,au ao Y2,au av Y2,au az hz,au YAd YqI,au gY Y2,au i2.1 Y2,au jR Y2,au l1 Y2,.comp,au lc Y2,au mt.len YHW,au n4.4 he,au rX (au (gR az he) Y2),au s.2 ZEm,av.get? b,aw (bc rfl (aS ⟨aaL,?_⟩)),aw (bc rfl Y8t),ax5 d key,axY _ _,ay (0+i),ay (f a),ay (f i),ay Y9F.2,ay YMU,ay YVl,ay YHb.2,ay a.1,Y1E::Y4A,ay b.1,ay p.1,ay y.1,aya (NQ hd _),ayj ..,ayp _,az _ _ ak,az d acc m Z3,az d r m Z3,az▸af,a∈fs∧s2.heap.get? a=none,b H c Y4R,b.2 r m Q,b.drop j,b.keep k,b2 198 2,b2 198 3,b2 358 0,b2 358 1,b2 358 3,b2 487 0,b5 _ _ aA,b6.keep kt,YhE→YBF,b8 (Y4 a.1) (Y4 b.1),b8 YC9 (Y4 2)=false,b8 ZM (Y4 0)=false,b8 YCA (Y4 y.1),b8 ZZ Y8U=j0 vs ws,b8 Y3C (YI 1),b8 YCk ZFM,b8 YAh YCz,b8 Ykd Yke,b8 YVR Y3t,b8 a a=true,b::bs,b<s.heap.objs.size,b=D∨YD2∨wF b,Y8v::ZTz,bC bj,bD bj,bH cl Yzz,bh g H,bH cl (Ya YiD YJt es),bH cl (.op ZJ3 es),bH cl (.op o es),bI.filter _,bI.un λov fX bk tj JY=>Yj7,bJ.get? c=YB,bL (WM ..) kZ,bL (ayu aD) this,bL ZO Yk,bL Y1U (fU (DA Zf9) e),bL Y1U (fU fB aJ),bL Y1U e,bL Y3c w,bL cj (aQ Ol q),bL e ?_,bL fN (aQ YF w),bL iv (hX.len),bL lp.1 a3,bM YKD,bM Y6p,bM YWc.1,bM S.N,bN aR he,bN ck aC,bN e aJ,bN e q,bN fa ah,bO YAa,bR z.1▸z.2,Y3D=q.1→bS=q,YL3 YYs,bV 0,bV 3,bW YdJ ZBP,bW (ax2 (OD q)) rfl,bW aC Yg2,bW cj ?_,bZ d om bk,backToKw pos YmY,bb.2.keep kt,bc rfl ⟨aD,cf⟩,bd (bd (wpAny_field Z.1 rfl (x:=Y7) rfl (wpAny_pure (cb Y0c Y0K)))),bd Yhf,bd Yg,bd (wpAny_field Z.1 rfl (x:=Y1A) rfl ?_),bd (wpAny_field Z.1 rfl (x:=Y0 TI) rfl (bd (wpAny_seqItems Z.2 rfl ?_))),bd (wpAny_field aA hd (x:=YI i 0) rfl ?_),bd (wpAny_field aA hd (x:=Y75) rfl ?_),bd (wpAny_isInstance wm isSubtype_tuple_tuple (cb Y2s (bd (wpAny_tupleItemsOf HU rfl (bd (wpAny_tupleItemsOf wo rfl Y6H)))))),bd (wpAny_letGo Zl),bd (wpAny_pure YSp),bd (wpAny_pure YXs),bd (wpAny_rule (bd (wpAny_field Z.1 rfl (x:=Y0 c2) rfl (bd (wpAny_setField_rec Z.1 Y3G λaD wy qo=>?_))))),bd (wpAny_rule ?_),bd (wpAny_seqItems uF Ij ?_),bd (wpAny_specialOf dJ G9.lookup ?_),bd (wpAny_standAt (bd (wpAny_mono h (λuM s' h'=>wpAny_pure (v5 rfl h')) YrO))),behindInMarks op r,behindInMarks op y=false,beq_false_of_ne ck,beq_false_of_ne λq=>n ZIo,aU g k,beq_self_eq_true j,bf[k]?=Y06,bg.keep Y5j,bindL cN bs m n,bj v ZNI,bj y Y7a Y7Z,bk+n≤e+ey,bl.handled=none,bo _,bo.keep kt,Yhr=some Y66,bp λax=>Yqx,bp λax=>z _ λbl a7 e1 j hx f bx cw vw qY=>?_,bp λax=>z _ λbl a7 e1 kh eY f bx cw hE qY=>?_,bp λax=>YY9,bp λax=>z _ λbl a7 fr nq f bx M dO mR qY ln rH=>?_,bp λax=>z _ λbl a7 s' kh kj ba bx fA xj=>?_,bp λax=>z _ λd rest Cd aJ aC xi vk F2 xj=>?_,bp λax=>z _ λdone rest acc x0 c6 cT eY aJ aC ke R cz zx LM=>?_,bp λaz=>?_,bq.one (P:=ZkR) Zm Y2M,bs.any id,bs.lookup n,bubble p k (k - l),bubble_perm _ _ _,bx.trans xu,bx▸rfl,(by cases l <;> rfl),(by cases n <;> rfl),by exact Y4m,by exact aj (od l) ZJx,by exact bN e (aj ZeU ((Nat.mul_comm ..))),by first | rfl | decide +kernel | (unfold String.splitOn;simp +decide [ayF]),by have q:=eo w;replace q:=bL fN q;exact q,by have w:=eo aO;replace w:=ZGD;exact w,by heap_get,by refine Y7N;rfl,by refine aQ Z5Y (aT fe ?_);rfl,by refine YFt;rfl,by refine aT z.1 ?_;rfl,by refine Y2H;exact Y7U,by refine Y2H;exact au wl Y2,by refine Y2H;exact fF hlen Y2,by refine aj B3 ?_;exact YnL,by refine aj aJ Y7N;rfl,by refine YKr;exact aE,by refine ZEO;exact fZ ZWB,by refine ZEP;exact YnL,by refine aj z.1 Y7N;rfl,by refine dS e (bW bk ?_);rfl,by refine sC dO ?_;exact cf,by replace h:=Y7d;exact h,by replace h:=Yjc;exact h,by replace h:=YHG;exact h,by replace w:=aQ (q9 hd) w;exact(cu w).symm,by rfl,(by rw[e]at h';exact h'),by rw[g5,bt];exact vc aq,by rw[gy,az];rfl,by rw[gy,he];rfl,by rw[kJ,kJ];rfl,eO env c,by rw[nz,beq_self_eq_true];rfl,by rw[YoW,rf];rfl,by rw[←la];rfl,by show Yva;refine gz e ?_;rfl,by show YJQ _ _=_;refine YAe;rfl,by simp[af],by(refine aa r.jh (iy axS ZJS));exact YqN,bz z.1 z.2,b∈[n,a],b≠I→YBG,c cl,c+52*(d.map w).sum,c+52*Yad,c+52*YDM,c+52*w a,c+676*d.length,YT5≤799000,c+676*YDM,c+676*n,c+676*w,c.9 n (et af),c.cN.lookup n.1,Y3F==Y2w,Y3F==Y2x,c.ns[j]?,c0 Yk _,c0 Yk u,c0 (iu 52 zX) jW,c0 (iu 676 Yk) c,c0 (iu 676 zX) c,c0 bq _,c0 zX u,c3 236 221,c3 236 233,c3 358 331,c3 617 512,c3 617 517,c3 617 522,c3 617 527,c3 617 534,c3 617 562,c3 617 569,c4 z.1 e,c7.is_async==0,c8 YLP Y3t,c8 YGl Z1z=some Z1U,YiI=((hi L).lookup v).map ay,c8 es ec,c<P.length,cA Y15 q,cB.foldl YsF Yay,cB[i]'af,cB[j]?=some bS,cF=YI x t,cI r 3=Z2,cL ah,cL e,cN p.1=Y2x,cQ+1,YAY≤3,cU 665,x.2.2,cU 675,cU 96,cU f,cW aC.symm,cW he.symm,cY bx z.1,cZ (Qn:=jq) YSk,call YJY [x],call Yw [v],call YcC [v],call Y66 xs,callEnvC fd s.heap.objs.size f,canon Ykb x,canon YUc x,canon Y3R x,canon Y9E y,Y1r=canon S.f y,caps.map λj=>(r[j]?).getD none,caps[f5]?=Y0N,cb (eqIsQuiet_byValue _ rfl) Y1u,cb Y2s Yhi,cb Y2s Yg,cb (if_neg (show¬(!true)=true by decide)) YXs,cb (if_neg (show¬YxW from h8)) ?_,cb ZU ?_,cb Y4O ?_,cb vW YNf,cb vW ?_,cellOf env x.1,cells.lookup n,cf _ _ Y3z,cf aH rfl,cg cT bC YBS,cg l2 (cY bx bD),cg rV w7,cg rV zl,cg tP Ml,cg tP ip,cj.trans rfl,YTY=false,cl k t=false,codeAny_builtin Tn (kK (Ah Fq _) ?_),codeAny_builtin ayC (kK (Ah acm _) Yg),collect x,compareOp .In cF dF,compat YAh YCz,YAb=true,cond Y1S (y r) (x b),cond b P Q,congrArg YYt YGQ,congrArg (λz=>V.tup [ZE,z]) (ai ah),congrArg Ab (ai q),congrArg Ab Y7R,congrArg Dj k.1,congrArg Dj z.1,congrArg NW h,congrArg V.int q,congrArg _ Y1U,congrArg _ q,congrArg some ?_,congrArg some h,.builtin,congrArg ua z.1,contains dF cF,coversAll z.2 es.size&&z.1.fits (ZfB).size,cs.map g,ct.dict 3 [],cw.vt f2,cy.keep kt (rl Qa dv),cz _ _ YkD rfl,cz.trans ZfJ,cz.trans f4,cz.trans ff.iO,c≤900000,d cl,d++[v],d++z::rest,YTe++YUy,YTf+YGu≤n*YGu,d.length+(rest.length+1),d.length<n,d.length≤1,d.length≤18,d.map S.f,d.map f,d.map tW,d3 m bl a7,d6 (bc rfl ⟨Y1X,aP,Cg ps,?_⟩),d8 _ YCx,d9 (arm_assign_Tuple ..) ?_,d9 Yiq h,dD.1.keep,dD.1.trans,dE y6,dF=YI y u,dH (NJ _),dH (dw _ _ _),dH fN,dH q.symm,dI a 8=true,ZKc∧a≠Y35,dN bk rJ,dQ n,dR p YDU,Y7g=p.toList[i],dS Yhq h8,dS R.2 cS,dS e (fF (mI 5 h) Y2),dS q (fU Y4u b3),dT Y3r ?_,dU YCv c,dU L2 rfl,dV.Perm p,dV.trans pm,dW bO (hi YFQ),dW bO S.ed,dW kv Ynw,dX az,dX h,dZ p.1=dZ p.2,dd Y5K k,dd A (k+2),de g env ns bI ab s',by decide +kernel,de g env ns r aW s',dec_lt 0 _,decide (((tab i).getD jc).cps.toList<((tab j).getD jc).cps.toList),decide (Y6l<(d:Int)),decide (Y6l<(h2:Int)),decide (Y6l<YaY),decide (a<b),decide (j<n),decide (xs.length<bf.length),decide_eq_false (Nat.not_lt_of_gt h),decide_eq_true (ew hlen Y2),decide_eq_true Y3G,decide_eq_true rfl,df<S.N.length,dg.length≤t.length+m,dg∈([[]].flatMap λt=>fk nod c5 t a).flatMap λt=>A t b,dg∈YLJ,dictGet d key,dictOf xs ep,dictSet d key v,dk p ar,YjL c _ ar,dn Yf rfl z.1,done++[x],done++rest,dr a.2,dr b.2,dr h.2,dv.keep kt,dy (by rw[iE];exact ao),dy BR,dy aM,dy ak,dy av,dy dC,dy du,e p ar,e.1.isStr=true,e.1.symm,e.1=Y0Z∧aK h e.2 u,e.2.elim,e.frame=some L,e.refKey=false,e.resolve_left (p8 (Ag gD)),e.trans hz,e1++fr,e5 rfl ⟨_,_,_,aD,rfl,?_⟩,e7 ZH es,e::ai,e::l,e=Y0Q a b [] p,e=YBu l [op] [r] p,eA.map h4,eE Y13 YhW ZFD,eE Y13 Y4r Y3C,eE YLP Y3t Y8u,eE (ir L) ZM Y3C,eE Yq9 Y24 Y0h,eE es m.1 m.2=YD5,eF ZZ Y8U=m3 vs ws,eF Y3A Y1E=false,Y4 n,eF (kv b) Yma,eF (kv u) Y3t,eF a a=false,eG S [i],eH tr most,eH tr most a,eH tr most b Y8z.1,eH tr most p r.1,eH tr most x ZYG.1,eH true most YEt s,eI _ YFy,eI _ Y2t,eI _ aD,eI _ aM,eI _ aq,eI _ hz,eI _ z,eN xs,eP ah λl O O=>⟨l.1,l.2⟩,eQ Y2l,eQ fK.2,eR x.1 (N,x.2),eS Y2U n YG,eS [] 0 q,eS t N.length YG,eS t N.length Yq,eS t S.N.length p,YLX→∀q∈ps,eS t n q,eT (fold_same ..) cw,eT aF ar,eT ck fe,eU ak av,Y92→a9 h' e6 fX,Y92→d2 g.w h' e6 kq,eX.trans mY.2,eX.weaken YO6,eY _ ZdL,ef w k,ef w m.1,eh Y2R,eh fK.1,ej (fE aq),el (hD 0 rfl YJ6 rfl ?_),el (hD 0 rfl Y4X rfl ?_),elt H ft x,en (fo (aw (hD 0 rfl Y7j rfl ZLl))),en (xk (e5 rfl (ao ?_))),en (xk (e5 rfl (zw K F ar ?_))),env.builtins=builtinsNs,env.globals=mainGlobals,YU6∨Yjl,env.locals<a,env.scope.kind==Y5J,envX Y4N b,Yjq▸Y8g,eqIsQuiet n x,eq_of_beq jl.2,eq_of_beq q.1,eq_of_beq q.2,eq_of_beq qv,eq_of_beq this,if_neg q,er "__setitem__",er "items",es++[(ec,m)],YUA=YD5++ms,es.getD k (0,Y7),es.map wY,es.map YYl,Y4x≤18,es.size=us.length,es.toList.drop p,es.toList.take p,es=[o]→P,es[k]?=Y59,es[z.2]?,es▸uD.tup bg ev,et (i:=i) af,et aO,et aP,et ak,et vu,eu _ Yjx,eu _ Y5Z,eval (Y09 n pos) env,eval Tt env,eval it env,eval l env,eval oM env,evalPairs (pairTrees keys vs env pos),ew Nat.zero_lt_two av,exec st env,execs YfR env,ey≤n+hA,e▸ar,e▸k,f H c st,f _ _ ar rfl,f _ h.2 s.toks,f _ z.2 s.toks,f a=true→P,f b ah,YkA !=YkB,f.trans Y11,f1 _ _ aD rfl,f1 _ _ ar rfl,f1 _ _ hw rfl,f1.go H.6,f1.go H.9,f1.go L.5,f1.go z.1,f1.trans Y5R,f1.trans f2.iO,f2 _ (dO.symm▸YR7.1),f2 _ (dO.symm▸YR7.2.1),f2 _ _ kF rfl,f2.weak V8,f3.2.trans fz.2,f3.3.elim,f4.go aP,f7 m h k,f7 t.mask Y0Z k,fE tn,dw ..,fF (au Yk Yk) aG.1,fH YBU (aV dO ?_),fH Hv YgR,fH e (bW dK (aL ui (fH mF (aL yb YhO)))),fL Yr t,fL Yr t a,fL ZGM [] p,fU Z3 aM,fV YAY v=true,fV 3 v=true,YkM=true,fV n,fd.body=Y65 b,fd.body=Y65 body,fd.params.args.map (·.arg),fd.scope.names.lookup YtP=ZaX,ff _ _ ak rfl,fin (bd (wpAny_letGo (wpAny_pure ⟨_,rfl,po⟩))),findIn K Yw "__setattr__",fk Y2q,fk Y2q Y0r t c,fk Y2q p t c,fk Zhs p [] c,fld bo aD af aE (λQ' q=>bQ (aS q)) h,fm s.1,fp 1 _,fr _ _ aD rfl,fr _ _ aR bq,fr.any λp=>h6 oV.N P p.1 !=h6 oV.N P p.2,fr.trans f1,fu.4 p ar,fuel+1,fv ab B s ext,fv m B (N,P) ext,fv m B (YGS,P) ext,fv m B s ext,fz.3.elim,g.K.In g.h₀,g.K.In s.heap,g.K.lookup 692,g.K.lookup 697=YE4,g.h₀.get? I=none,Y99=none,g0 S.f x y,g0 S.f x0 df j=YUa,g4 YiO,g7 Ynq h,gH g (k+5) env c.ns r es mh λvs m=>Y9M∧vs=YRo,gH g k env c.ns r Y2E mh λvs m=>YXY,gH g k env ns r es mh Q,gJ ZT K rfl Y2 (el (hD 0 rfl Y5H rfl ?_)),gL _ _ M6 rfl,gM Y6N (min YJE YBl) (max YJE YBl),gN ab A R tr most cQ u c P S,gN ab bl R tr most kh u c r.1.2 a7,gN m A R tr most cQ u c P S,gQ (c4 (bw mh b YPG) e),gQ Y4G,gR c9.5 ZRl,gS h (aX ZDX Yb8),gS wX ?_,λO=>none,gV 5 Y24=true,gV c a=true,gV c u=true,gX w s.heap es.toList us,gX.y9.mp x,ga gr e1 g a1 a2 G,gens[depth+1]?=none,gens[depth]?=some YZN,gi Y3Z YAg,gi Y3Z ..,gi 1 q,gi b a,gk es ep t,gn e (aQ (show stN L t Y76=Yyv from rfl) h),gn e this,gn q (Aw (show(YZk:Z5b).1=C from rfl) z),go ae st bz q,go tr,gs _ _ (du _ _ aJ dn) dn,gs _ _ aC fI,gu Y0r=true,YLo∧ZPN∧YLR,gu Yq=true,gu z.2=true,gx N YLs,gx N YMj,gx N id,gx cK.N cK.f,gz YT2 (ae.list hm λxs ep aA bg=>?_),h A s aG ae aN,h ab f cw,h b YjY,h b _ Yc Y11,h b ah,h env he,h i YDU (JQ gK ck) (td gD),h i YMA,h i j gK q,h i v av,h pn p Ef,h v aO,h v b3,h' rfl,h'.IsTupleIter dM l1 (k+1),h'.IsTupleIter dt l2 (k+1),h'.get? d,h'.get? x=some YYL,h'.push YEJ,h.2 v vs acc mh q,Yl7 λa z=>z.elim λb z=>⟨_,Z3,ZLN⟩,h.4.step,h.IsList a Z1,h.IsListIter I a i,h.IsListIter it a i,h.IsStrIter I "str_ascii_iterator" Y5o t i,h.IsTuple a Z1,h.IsTupleIter I a i,h.IsTupleIter it a i,h.Ns a m,h.casesOn λl l' q=>⟨l,l',q⟩,h.casesOn λl q=>⟨l,q⟩,Y1L 0,h.elim Yrg,Y0b=some ⟨Y2h,none,Y45 xs n,eB⟩,Y4z=none,h.get? d,h.get? d5=some (Np B x C),h.push YE1,h0 _ Zj,h0 _ (YJ ⟨_,h⟩),h0 _ (YJ ⟨_,q.1⟩),h1 YOw.1.size led YOw.2.1,h1 es.size true t,h3 D,h3 W Y3Y,h4 a,h4 b,h7 ey _,h7 YLp _,h7 h 3,h9 lt,hC.cN.lookup n,YDM=(ps.map hF).sum,hL.iO.trans f4,hN k.1=true,hN n=true,YGv∧YII∧∀c∈x.2,c<i,hP aW A n f e,hP mh U n f e,hT ..,hZ o H c Y1v,hZ t H c Y1v,ha g A tgt I n weak v need wr St,hasDictIn K C,hc m YV4 Y2u,hc m k Y2u,hd d t Y2K,hd▸az,hd▸he,hf j aM,hf q.1 YTV,hl N P YLs,Y7l.1.trans,hm.trans f2,hp (Oh _ Y3G),hp (jK he),hp BP,hp ao,hq fQ,hq qE,hv l=true,hw rfl,h₀.get? b=YB,i6 S.f S.N.length c,i8 S.N S.f Y8d,i<E.N.length,i<as.length,i<es.toList.length,i<l.length,i<us.length,i<vals.length,i<xs.length,i=P.length,λO O O O=>rfl,i=S.N.length,iC oH,iC q,iL (q▸ah),Y7o - (i+k),ic λe=>absurd YAH Z48,ic λh=>q (af _ _ h),ie 1 YD6,ie 1 Y6S,ie kc ms,if j∈cs then YFd++Y8l else YFd,if_neg (dS (beq_builtin_none ..) h8),if_neg (show¬(aJ !=aJ)=true from λq=>bne_iff_ne.mp q rfl),if_neg aC,if_neg bo,if_neg fQ,if_neg il,if_neg n1,if_neg qE,if_pos YSr,if_pos YC,if_pos (show(!false)=true from rfl),if_pos aC,if_pos af,if_pos bo,if_pos c,if_pos ck,if_pos fQ,if_pos il,if_pos n1,if_pos qE,if_pos ⟨Z0,aM⟩,if_pos ⟨Z0,af⟩,ih→bP→Z5L,ih→bP→St→Bool,ih→bP→aI→Y67,inR n caps r,inv [] h,inv d0 h',inv us h,inv us s.heap,is.length≤3,isList bq,isNode v,isStar tgt=false,isSubtype Yw YA6,iu 4 mS.2,iz.type k8,iz.type YWj,i∈pend,YGz→j<n→lt YTm Y7g=false,i≤k,i≤vs.length,YAt=true,j1 YGX k=cond Y1z YNH Yte,j1 es m.1,j3 t false v r YIe,j6 (callEnvC fd L f) ZnL,j9 (us.map kv),YAu∧Y38=j,j<n→lt Y7g YTm=false,λO=>Q Y7,j<xs.length,jA.trans eX,jG s.1,jI a,jI n,jL e (mK bk (d9 Ad (kat_cons (yq ab 8 8 _ _ _ _ _ bD eg c.1 (ET bj) b6 tj ?_)))),jO ..,jW≤900000,jZ xs ep,jZ xs n,YAv→Yfm→Q Y3C ab,jp (Ag x.1),jr tr YQP,js g Y26 aH s2.heap,js g l m s2.heap,js g l mh s1.heap,ju h vs[i] Zcl,jw _ _ _,jw λb m=>Q (YK !b) m,jx bq,jx bq.1,jx q.1,jx YG,jx Y3i,jx Z4,jz P need K λv acc m N=>Qq g k env ns r t1 dD cy w2 dt elt ifs v acc m N,k (km ..).extBut,k I YhB _ Y0f,k _ _ gE,k b o q e,k+1+Ycd,k+1+(Y3Z+YAg),k+1+ZV,k+11,Y2V+ZV,YDX+2,Y6T+(YVK+1),Y6T+(YVL+1),k+22,k+23,Y7p+YVL,Y7p+YVK,k.2.length≤2,k3 Y4s YJ4,k3 Y4s YwM,k3 YSt YJ4,k3 YSt YwR,k<p.size,kB YWW x.2 [t],kE most q r.1,kE most q s,kI YXN,kK (show YVJ=YDY+1 from fO k 1 _▸fO (k+6) 1 _) ?_,kP g k env ns r m (isTrue y env Yk5) Q,kV aW A N,kV mh A.B N,kV mh A.B S.N,kX (S:=S),kas_descPart n nrem YMF,kat_nil Yl3,kat_no ?_,F.f rfl,kb m 1 YOv,keepIn K Yw,keepIn g.K YA=true,keeps_K aR,kept h o,key _ rfl,key a aD,kg D.1.1 b.2,kk m B tr most s c,kl z.1,km _ a _,km _ it _,kn YQV,kn hz,ko _ w.1,kp ⟨_,et z.1,rfl⟩,kp ⟨x,aq,rfl⟩,YHD=false,kv c ao,ky 2 Yf,kz (by rw[aq];exact YU3),l'.map gF,YAx∈cB,l.2.elim,l.any Yh=false,l.drop p,l.filterMap f,l.foldl st N,l.length - 1,l.length=n,l.length≤100,l.map gF,l.take p,l1.symm▸q,l2.symm▸q,l7 Zgr,l=[ay YVm,ay YVh],lA Yr,lA L,lD YjA af,lD fQ rZ,lF ⟨nN,rfl⟩,lI g YBD mh,lN _ _ GY,YMJ→(∀b o,ZFu→YBG)→Q Y2B Y0w,lX YAd Y2l,lX YAd b.3,lX lV.le Y2l,l[i]'h,late.map gw,late≠[],lb a m λO O c es=>c=1∧wW ZN6 m Q,letOwnedTupleGo tgt Y1B x,lg.getD j none,lt Y8y YjB=false,YDe=false,lt YjB Y8y,lt YB8 Yns,lt (p.getD 0 0) YB8,lt x y=true,ly.map bB,if_pos q,lz Yr Z6,lz Yr z.1,lz YhR Y6r,m cO=some (0,Y5 (L.map bO)),m fb=YXB,m ff=some (8,Y4b),m q=some (u,ZD CA sI),m.1∈Y1W,m3 a b=true,m4 ZZ Y8U=mq vs ws,m4 YAh YCz,m4 Ykd Yke,m8 w led h' a d0,m::es,YMO→Yfa,mH m y.1 y.2,mM xs n,mN e,mN YnG.2,mU _ YW,mU _ le,mY.3.elim,mZ g.K 697 rQ 1 Y0U=true,mZ g.K f ns np p=true,makesIn K C,max Y38 Za,me _ ae Y4E q,mem aM,mem e,mem.mp hz,methodCallForm (es.length+YZt) YSn ZGd=true,methodCallPos true o env apos pos=pure pos,mg (·=it) h,mh A.ae=some (35,Y9 2 X),mh A.ed=some (27,Y9 3 ZKs),mh A.iW=some (11,Y5 E),mh C=none∧Yka,mh D=none,ZUc∧YDG,mh I=none,Y0d=some (k8,Y5 [e]),Y0d=some c₀,Y6U=some (hI,Y5 dF),Y6V=some (u,YPv),mh sc=YpD,mh x=some (AG,Y5 a),mh y=some (ty,Y5 b),min Y38 Za,most<S.N.length,mq Y4A YfW,mq ZTW ZTM,mroOf Yw,ms.length≤15,ms.map wY,mu m i pt N,mu m i pt k,mu m i pt n,mz bO YV1,n - Y5Y=j,Y9Q - q≤i,n - m,dep p,n+1≤nrem,n.1==Y1l,n.filter _,n4 _ _ ak rfl,n5 g YMB A S w p,n8 ab R h tr most cQ aE,n8 m R A.h tr most cQ u,n8 m R h tr most cQ aE,n8 mh R A.h tr most cQ aE,n8 mh R h tr most cQ u,n9 most (cB.map Zjy) s,n<vs.length,n==Y1l,n==17||(n==21||(n==8||n==1)),n=vals.length - i,nE z.2 (ck A s1 aG z.1 Y2G),nJ bD pos,nK g tgt false s0 m0 Q,nK g tgt weak s0 m0 Q,nL Y8E,nO h,nP c7.target,nP g1.target,ZVN++ZVP,nP g2.target,nS lt p n,nX h hm,nameAt c i a,nameAt c i e,nameAt c j b,namesOf ts,newExc YJq [],ZVW >>= λe=>(raiseNew e:Y7G),newFunctionEnv scope env.globals YnE [] env.qual none Y7 (some env),nk p=false,noStar f6=true,noStar t5=true,noStar vs.1,noteFrame x env,npow h,nrem - 1,ns=n::nD,nw e,n≠"range",n≠"tuple",n≤p.size,n≤sizeLine,o.cls=Yw,o.data=YPa,o.dict=none,o.elim none f=Y6d,o.o.pre v m,o4 g f C n nm j,o5 a b,o5 x n=false,oA _ _ z,oF elt,oG g env ns s mh Q s',oN t.mask Y0Z n,oU a*oU b,oY cO ak,fM _ rfl,oY m.1.2 cf,o[i]?=Y5h,o[ZUu]?≠Y3K,oc (p.length_eq.trans e),oc h,od aE,od af,oe t.place j,of_decide_eq_true Y1q.1,of_decide_eq_true Y1q.2,of_decide_eq_true bC,of_decide_eq_true bS,of_decide_eq_true h,of_decide_eq_true qv,og Y4J,or_comm,ord.Perm es.toList,order.filterMap Y4Y,other ak q.1,ow g k env c.ns r mh tgt weak YLd λvals need m=>∀C,yH g k Y4N YJP YM2 Y5I tgt weak (λacc aH=>alloc aH Y4b Q) vals need m,ox a vs,oz _ _ z,oz p.2 r e,p 13=false,p 5=false,p hC body=true,p t=true,p x=true,p.1.1==n,p.1<S.N.length∧p.2<S.N.length∧S.f p.1=S.f p.2,p.2.2.elim Zmd λd=>⟨#[YWK,d]⟩,p.mem_iff.mp aD,p.mem_iff.mp aO,p0 cd 0,p0 cd d,p1 (hw (jI d)),p6 (aj fN YlU),p==n,p=run YYn (kas_sort xs.length)∧s'=YNw,pJ (N:=cB) (show x∈cB.zipIdx from YGd),pJ (tv e),pL.mp h,pN ..,pO D af,pO D z.1 a w.1,pQ _ _ M7 rfl,pT (r:=(_,[])) bZ,pV s.1 YUo q h,pa k,pairAt vs i,pf cM hE,pj m hm,pj m hm.1,place[f5]?,plainGet K C jc,plainId_quiet Fq _,plainId_quiet ayH _,plainOver K C,pre Y0O YNS=(YSb&&YWX),YWX=false,YWX=true→Q Y8N s,(S.N,P),propext (m.2 ..),propext Dh,propext Di,propext G6,propext decide_eq_true_iff,propext pL,propext z8,ps.map w,ps.zip xs,ps[(Y9o:Int).toNat]?,pure (Y6w Y8S),pure YNK,pure (ub r),putAt vs m i,putL [] d S.N,putL t Yix Y6s,putL t d S.N,putN [] b YMn.1,putN [] p S.N,Y1s=eR o YBB,putN t p S.N,putN t q YJM,pw hit,pw ji,pyHash x,pyIter YA,pyNext Y44,pyNext it,pz.3.step,p≠s.heap.objs.size,q hf.symm,q.1.fP bx,YBC YYs,q.2.2.elim,Y9T Y7I,q5 _ _ abp,qB as,qH w led h S us,qH w led h' a d0,qK (kv:=id) Y4T,qN y Y7a Y7Z,qR nod o n F t c,qT bO _,qa t f h ZOW YMh,qa t f h fuel Ynf,qa t f h fuel YMh,qa t f h n YXP,qb af,qb q,qf g h mh a o,qf g s'.heap YXe a o,qg aA BI s1.2,qg z.1 z.2 k,qh (c:=3) ZGX h,qh ao Y4F,qi YGX k=cond Y1z es (e::YoL),qi X YAS,qj ae Y6E h,qq b e,qr l l',qr vs ws,.fields,qx c t e=true,qx c t tgt=true,qz YfO br YBd t5=true,qz YfP br YBd f6=true,qz as,qz es H c vs.1,q▸h0,r.gj.elim λa q=>q.elim λitems q=>bI.gj.elim λb bS=>bS.elim λHT bS=>?_,r.gj.elim λa r=>r.elim λitems r=>jg r.1 ?_,r.keep YF1,r.set i Y2y,r.un λe e6 p nD aJ aC a b q=>?_,r.un λy bf bk a b=>?_,r.un λy bf e a b=>?_,r4 tr most d ZX,r4 tr most d s,r4 tr most ps s,r5 g k a,r9 L q Y2X,rA g env ns s0 m0 Qn Qr f s',rF.trans (congrArg some z),rK _ _ J9,rL.keep dC,rR nums mh Y4k,rR v m l,r[j]?=Y0e,range_all q,rawInt (Y3k+1),rawInt i,rb gK ck,rd (zc af).1,rd ak,refuseLoop_ref ..,ret l6,richCompare .Lt x y,rk YQY ?_,rk (X9 aA) ?_,rk Y3r ?_,rl ok q.2,roots _ _,roundN tr most ZX,roundN true most s,run lt (kas_asc p (f+1) n),run lt t,run_bind ..,rz FO br YBd [ret]=true,s'.gens=s2.gens,s'.heap.Ns C m,s'.os=s2.os,Y4Q≤13,YDx≤900000,s.TypeIs YA "set",s.TypeIs Y3T "zip",s.gens=#[],s.heap.IsTupleIter it l i,s.heap.get? Y1J=none,s.heap.get? C=none,s.heap.get? D=none,s.heap.get? J=YpO,s.heap.get? S,s.heap.get? h'.objs.size,YD vs,YX1=some (pH (YI f 0) i a es.size ep),s.heap.get? t=Y82,s.heap.objs.size+3,s.heap.push YAo,s.heap.push emptyDict,s.heap.push o,s.heap.update it YPK,s.toks+iT v,s0.heap.get? b=none,s1.heap.get? a,s1.heap.push YYK,s3.toks+1,sA bC,sD p,sG w vs,sH R s (! YAt),sH R s (YXm),sP g k env c.ns r mh xs Q,sb g k B tr most a,scope.names.lookup m,sep Z.2 aR Yf,show 2<64 by exact Y2,show YSL from h,show YTo=YTq from ZL2,show YTp=decide (0<n)from ZL2,show j<cB.length from aM,show k=YV4+d from iW,show v.eM false (sD ZOC)=true from h,show YEf i=YFc from ZN,size_eq b6 dv q,sk _,sm ak,sn "ORDERS",sn "_law_names",sn "classes",sn "find",sn "members",sn "merge",sn "put",some YPM,some (Y2O j d),some YF6,some Yw,some (Y0 e4),some YJm,some (Y0 lo),some YQ2,some YcB,some YQ4,some YcE,some Z21,some YQ9,some YcS,some YCB,some (YD [gh a,gh b]),some (0,Y5 ((jo ZX Y5D).map h4)),some Y8B,some (0,Y5 (gx N dZ)),some (0,Y5 YGo),some (0,Y5 (l.1.2.map h4)),some (0,Y5 (sl 4 YSZ)),S.f i,some (0,ZD 236 [Y74]),some (0,ZD 301 [Y74]),some (1,u),some (14,Y5 cs),some (25,Y5 W),some (4,Y9 1 YGl),some YZh,some Y4W,some (abv C dx T),some Y7V,some ZFL,some YAS,some Zk,some Y26,some (gU e6 ep),some (gh YF7),some (gh a),some (gh b),some YJG,some Z6,some (pS,Y5 Z8l),some (seqObj "list" #[] aJ),some YE1,some Y05,some Yov,some Yb1,some (tg,Y4b),some (u,o2),some (x,es),some (Y2a,YXt),some Y7,some [Y2a],some acL,some e.1,some fq,some h.objs.size,some n.1,some names,some nums,some r,some z,some z.1,some {cls:=Y4c,data:=Y45 #[]},some {cls:=Y4c,dict:=none,data:=Y45 gC ft,slots:=#[]},some Y5o,sp+1,sr Y0Z,st YGS x,st.1.imp,Zan λold he=>k I _ Zj he,Zb.1.elim,Zb.2.elim,st.2.elim,st.2.imp,st.trans YCT,st.trans w.2,st.trans z.2,st=Y5w [tg] x p,standAt dt.pos,strKind_is prog w _ _,strKind_is prog w _ u,st.2,su YHg,sub (λv aO=>bR (show v∈[YRe]from aO)) b3,sv YER,swapsWithSole [t] v p.line env=Yo8,sy (decide_eq_true_iff.trans ⟨λq=>uq.mpr (Pt bD a q),λq=>YWF▸a⟩),sz λx aq=>by rw[lh x aq];rfl,t.bind f,t.fits n=true,t.freeSlot h,t.length+YI9,t.mask+1,t.place.size=n,t.relaid Y9m wanted,t.slot YUU=Y2O,t.slot YUV,t1.keep kt (rl P9 b6),t9 0,t9 n,tC A x na,tC YNt S.N.length b,tD S [] i,tD S d c,tO W af,tO W bb,tQ mh m dN eA,tS cf Y4M,takerIn K C n,ts.findIdx? Yh=none,ts.length*oU q,ts.length=vs.length,tv h,two vs False λa b=>P a b m λz=>Q (YK z) m,two vs False λa b=>Q Y5v m,two vs False λa b=>a6 cl s Y5v ab Qn Qr,two vs False λa b=>s Y5v ab Qn Qr,typeIs_str _ _ _,typeIs_str s _ t,typeLookup_type ..,u+d.length,u.isInt=true,uI z λa b es w=>?_,uJ b Y5z,uN g k env ns r mh (ts.map Y1w) vs Q,uW ..,ud hd,un _ (YA8 oH),un i z,unsupported _,uo h items,upd YNT fb YIt,upd (upd m b1 Y5p) e2 Y5p,upd YXd fR Y4W,upd (upd m1 b1 Ytu) e2 Y5p,upd (upd mh b (0,Y5 [ay Y16,ay Y0t])) e2 (0,Y5 [ZFG,ZFF]),upd YXf fD Y4W,upd aH a (0,Y5 YOZ),upd aH b (YQO,Y0R),upd aH p (t,Y9 c (eE es b v)),upd aH p (t,Y5 (vs.set n v)),upd aH s.heap.objs.size (t,YPX),upd bF Ng YZa,λO=>nb,upd bF p (0,Y5 (a4 (aZ.map S.f))),upd eK e4 (7,Y5 Z9c),upd m a Yb2 b,upd m b YZd,upd m b (0,Y5 YBA),upd m b0 Ytt,upd m gg Y5p,upd m1 A.p YZg,upd m1 B.T (12,Y5 YCn),upd m1 b Y5p,upd m1 b0 (0,YPV),upd m1 e2 Y8B,upd m1 p (t,ZD C (putAt fs v i)),upd mh A.iW (11,Y5 Z3c),upd mh A.p YIs,upd mh B.L YIu,upd mh D YPF,upd mh a (t,Y5 (vs++[m])),upd mh a (t,Y5 (vs++dF)),upd mh a (t,Y5 (vs.eraseIdx YqC)),upd mh a (t,Y5 fX),upd mh a (t,YC4),upd mh a Yb2,upd mh a c b,upd mh b YIr,upd mh b YZe,upd mh b YuD,upd mh d (t,Y9 1 YD6),upd mh d (t,Y9 kc YD6),upd mh ff Y4W,upd mh s.heap.objs.size (t,YPV),us.filter (λu=>ZM2)++x::us.filter (λu=>! ZM2),us.length+1,us.length≤13,us.map Yjh,YXh++YXZ,us[i]'af,us[y]?≠YpM,u≤1000,v.eM false (sD V.isInt),Yq5=true,v.eM false f=true,v.isTup=true,v.mb 0 id,v.mb False f,v3 BR,v3 af,v3 li,v8 "list",v8 "set",v8 "tuple",v=Y8Q→YUO,vA ..,vD N P dZ late YEl,vF D.4.3,vK Y2R,vK Y2l,vS g C l (k+3) 388 [Y8T,YQ7] mh,vZ it h0 h',vZ it h0 s.heap,vZ it s.heap h',(bH cl e).1,vals.getD i Y7,YI9≤100,vk.trans pQ,vo.trans pP,vr m q t,vs++[u],vs.all p=true,vs.drop 1,vs.length≤63,vs=rest.map kv,vx ..,w _ λah oM cT eY xy=>?_,w b q,w k aR,w z hz,w.2.1.keep Y5j,w.2.2.elim,w.2.2.keep,w.2.2.mp,w.params.setOrder a ep,w9 i,wB b ah,wa 5,wants Q₁ E,wb ..,wb _ _▸YMR,wg (YY YSs),wj h YYh,wpAny Yu Y5K YD8 Y28 (C6 g C env l mh s1) s1,wpAny Yu A (compareOp .In cF YA4) R E s,wpAny Yu A (leaving env Y43) Q E s3,wpAny YR A (He Y44) Q E s,wpAny YR A (call YCD [Y75]) Q E s,wpAny YR A (f (x,y) r) Q' E s,wpAny YR A (f x r) Q' E s,wpAny YR A (forIn Yqj Y8N f) Q E s,wpAny YR A ZXP Q E s,wpAny YR A (setAddHashed a x Y0Z) Q E s,wpAny YR A (setNext a f i ep) Q E s,wpAny YR A setsByText Q E s,wpAny _ A.in1 (YHc >>= _) _ _ s,wpAny _ _ (He Yc8 >>= _) _ _ _,wpAny _ _ (ayb Y3T >>= _) _ _ _,wpAny _ _ (ZLI >>= _) _ _ s,wpAny _ _ (field Y44 0 >>= _) _ _ s,wpAny _ _ (field Y44 1 >>= _) _ _ s,wpAny _ _ (field Y3T 2 >>= _) _ _ _,wpAny _ _ (field Y3T 3 >>= _) _ _ _,wpAny _ _ (forIn (bT YBW) _ _) _ _ s,wpAny _ _ (forIn [((Yc8:Value),0),(YQ1,1)] _ _) _ _ _,wpAny _ _ (if YxW then _ else _) _ _ s,wpAny _ _ (isInstance Y0B Y2h >>= _) _ _ s,wpAny _ _ (seqItems? Y75 >>= _) _ _ s,wpAny_assign_Tuple bJ ZSP (by refine aL Y0D (bW w.1 ?_);rfl) rfl Yrp,wpAny_call_entry NP hit.typeIs ax8 ?_ (ax9 _),wpAny_holding YL4,wpAny_holding Yg,wpAny_madeBy_exc gE ?_,wpAny_mono (E:=lH) Yg Y3Q Y0E,wpAny_pure ZPh,wpAny_pure (v5 rfl h0),List St,wpAny_pure Zl,wpAny_pure Ze5,wpAny_pure ai,wpAny_pure q,wpAny_pure z,wpAny_pure ⟨_,rfl,YIi,YNg⟩,wpAny_pure ⟨_,rfl,wpAny_truthy_bool (wpAny_pure ((congrArg (λb=>Z72) z.1).mpr (h tk)))⟩,wpAny_pure ⟨rfl,EG⟩,wpAny_pyIter_tuple eW,ws.all sO=true,ws.length=is.length,ws.length=vs.length,ws.map V.int,wu p o m Q,wz s.heap l1 l2,x _ λes ep t c6 cT eY=>(λO bA=>bA es ep t (e.trans c6) cT (eY.keep k)),x b ah,x.1.1.isEmpty,x.1.length,x.1==o&&YqX,x.2.1.keep k,x.2.getD,Y5A E.f,x.2.trans,x.8 k c e,x.8 n c h,x.length+y.length≤1000001,x.length=y.length,x6 f6 cy,x7 ..,x=d.length,x=fY∧y=mP,x=Y06→P,xJ a s,xP C s.heap.objs.size,xR C s s' e,xS C l fs e s2 s4,xY ..,xZ N5 ?_,xo mh A S ZXL Q,xs++[v],xs.getD Y5t j,xs.getD i l6,xs.length=es.length,xs.toArray.zip xs.toArray,xs=e::e6,xs[f a]?,Y3w→j≤x,Y3w→x<j,xs[k]?=YQ,y.1.toks tk,y5.keep kt,y7 xs j p,y7 xs j q,yA c e,yL (x:=Y0l) af s0 (hf i af),yN g k env c r mh x Q,yW g.K H f ns np st=true,yY n=Y0N,yZ ..,yp h Y2,A.handled=none,z _ λW q0 xv rT f=>?_,z _ λbl a7 e1 kh f bx cw dO Gn e4=>?_,z _ λf as aJ Nf c1=>?_,z _ λf cw j cT xy=>?_,z _ λps aJ xv c1 ja cz=>?_,z _ λs' fl f cw hE BO=>?_,z.1.length≤100,z.1.toks,z.2.1.symm,Z3 v vs r m w,z.2.filterMap Y4Y,Y9d c7.2,z.3.imp λx q=>⟨q.1,m _ _ q.2⟩,z.elim (λz=>absurd (t8 (cA ao z.1)) YC) λz=>z.elim λxs z=>z.elim λn z=>absurd (t8 (cA ao ZJt)) YC,z.elim λd z=>⟨az m Z3,?_⟩,z.elim YZ2,z1 g C Y26 mh s2 e s',zF xr.r3,zI f4,zK N P f Wp d dZ,zQ p YQL (d+1),zQ p 7 3,za aA f6 cy,za aA f6 t1,zd 31 _,zj N x=YA9∧rS N x=N.length,zj N x=N∧rS N x=j,zm λq=>absurd (cx 34 (8*i)) Zb1,zm λq=>absurd (cx 51 (8*i)) Zb1,zm λq=>h (ayK Y0J (ab3 q)),zt D.1 aq bb fQ rZ,zt D.1 m.1 YHK YHL YHM,zw K F ar (aV aO.symm h),({A3 with scope:=relabel scope env}),({cK with e:=YiU}),{cls:=Yw,data:=YbR},{cls:=Y4c,data:=YcK},{cls:=YQF,data:=ZY #[Z0W,Y7,Y7]},{cls:=YQF,data:=ZY #[Y7,YI 40 s1.toks,Y7]},{cls:=Y2h,data:=Y45 #[v]},({s with drawn:=d}),({s with heap:=av,toks:=w1}),({s with heap:=ZZ4}),({s with heap:=s.heap.push (mM vs 0),toks:=t}),({s with heap:=s.heap.update a (l7 f),toks:=tk}),({s with heap:=s.heap.update d f,toks:=tk}),({s with toks:=ZZ8}),({s1 with heap:=s1.heap.push (mM xs 0)}),({s1 with heap:=s1.heap.push Yr5}),({s1 with heap:=ZZB,toks:=tk}),({s3 with heap:=h'}),¬ql I it b,¬yz z c2 dM dt c,α→KasT β,α→Ye,α→Nat,α→Value,λA s aG ae aN=>HM ZPU λO O O z=>m _ _ z.3,λM q=>(putN t q M).1,λO O O O O O O O O O=>d _,λO O O O O O O O=>nb,[v 1],λO O O O O=>false,λO O O O e3 O O O O=>call_plain e3,λO O O O=>False,λO O O h'=>h',λO O O u k=>u.at k,λO O a b=>a+b+2,λO O a b=>a∧b,λO O a=>a,λO O a=>a+1,λO O hm h=>Te hm h,λO O m Q=>Y37,λO O q=>q,λO O y=>y,λO O=>Y4X,λO O=>Lv,λO O=>O2,λO O=>Z0,λO O=>nW,λO O=>pw,λO O=>wx,λO O=>YZL,λO a=>a,λO bA=>bA A S Yy rfl H YcF rfl rfl,λO e=>YBw,λO e=>YCd,λO e=>e,λO e=>ZLf YYY,λO e=>e.elim YEN,λO h=>Y5z,λO h=>Y4o,λO q=>DN k q.1,λO q=>q.1,λO s' y=>oG.go YYD y,λO s' z=>z.imp λr z=>z.imp λm z=>⟨z.1,z.2,z.3,f _ _ z.4⟩,λO s2 w=>oG.go st.mm w,λO s2=>P x s2,λO vs m Q=>YXY,λO z=>aa z rfl,λO z=>z.1,λO z=>YYJ,λO:Y0j=>V.int 1,λO=>YJ6,λO=>Bool,λO=>Calls→jP,λO=>Calls→ry,λO=>YR2,λO=>Nat,λO=>Z9,λO=>Q8,λO=>V.isInt,λO=>V.isStr,λO=>Yez,λO=>Y6G,λO=>Z0,λO=>hw,λO=>YoT,λO=>YZL,λR C h=>?_,λT x=>T++[lz T x],λW z=>v5 (cg (o':=YC1) vd z.1) z.2,λW z=>⟨nw (f2.go ZNn) rfl,z.2⟩,gp Q,λY aC=>⟨X++Y,aj aC ZBu⟩,λa aD b ah e=>aq (bL YCp (bL e aD)),λa aD b ah=>?_,λa aD=>?_,λa b eK ak av f4=>⟨_,_,ak,_,_,av,λO=>aa4 _ _,?_⟩,λa b=>YTx,λa o b p=>some ⟨(a,o,b),p,rfl⟩,λa o e O O=>YmH,λa o e=>⟨o,YmH⟩,λa x=>Y83,λa=>[a]::Y8H λb=>Y1R,λaF=>Y0H▸h.2,λaH gm cK f2 kD hK i7 h5=>?_,λaH gm cK f2 kD hK i7 h5=>⟨?_,pM _ _ (λO bA=>bA gm cK Y7i Y9K hK Ylz ?_ ?_)⟩,λaH gm cK q1 f2 kD c9 h5=>?_,λaP=>absurd (c4 aP (e▸aR)) YIj,λab O q=>⟨Y7,rfl,YHg⟩,λab bl a7 e0=>h ab bl a7 _ e0,λab f cw=>?_,λacc m w=>?_,λb O q=>?_,λb aH ah f2=>?_,λb ab=>Q Y1x ab,λb ah=>S7 YDA rfl ah,λb ah=>YCp▸YhB,λb ah=>yB st (Ez _ b ah),λb ah=>Y4V,λb e=>YBw,λb e=>yo e,λb e=>⟨ae.fresh ZXx,AS ae ZXx⟩,λb h=>h,λb h=>Yph,λb jT=>Y4V,λb m=>Q (!b) m,λb o e=>Y8r,λb o e=>eu _ (gZ b o e),λb o e=>k b o Y8r,λb o n q=>k b o (λz=>n (bR z)) q,λb o nb e=>he b o nb e,λb q=>ct.noConfusion q,λb r=>x b&&y r,λb x=>x=Y1x,λb0 jT=>Y4V,λb6=>Z7x∧(∀i v,ZTI→ZFh)∧Q b6,λb=>!b.1,λb=>YhJ,λbD bC d4 hJ i1=>?_,(λbk he=>by have:=D.2 bk he;subst e;exact this),λc ao=>absurd ao cS,λc w=>?_,λc6 cT=>c6++cT,λc=>YPB,λc=>YRm,λc=>YVn,λcF s1 z=>z.elim λm1 z=>Y0g λx q=>IT q.1 q.2 λb q=>ZnT,λd i rest e acc m z N cf=>?_,λd j rest iW r m z jq e8=>?_,λd p rest e r m z jq e8=>?_,λd q rest e acc m z N cf=>?_,λd x rest e acc m z N pM=>?_,λd x rest e acc m z gr cf=>?_,y.1.2,λe a cl=>QZ e Y4j,λe es a h cl=>Q9 e es Y4j Yl1,λe f a b cl=>Q0 e f Y4j YG6,λe f a b cl=>Q2 e f Y4j YG6,λe f d a b c cl=>Q3 e f d Y4j YG6 ZIB,λe f d a b c cl=>Q6 e f d Y4j YG6 ZIB,λe he=>YJA Yrl Zib,λe m hm b=>?_,λe s'=>R Z0G s',λe2 d7=>⟨0,h e2 0 _ _ Yc (Y1L (cY d7 ?_)) ZNo⟩,λe=>YOk,λe=>YJ ⟨h.1,ew ao ak,λgr e1 g a1 a2 G=>?_⟩,λe=>YCd,λe=>YgZ,(λe=>{e with val:=v}),λeg d1=>?_,λf s' y=>rA.go YYD y,λf5 fY j5 hw O=>?_,(λfin s'=>match fin with | Y6w f=>Z74 | .again ft=>And (ft.quiet=true) (codeAny YR A ft R s')),λgC ab=>P vs gC ab,λgY BW=>Zmf,λh e=>(KH e).set,λh q aF=>Y6o (λe=>aa e h.1) ZhC,λh' cM=>k h' s.toks (FI cM),λh' d0 hW dV z=>wpAny_pure (fin h' d0 hW dV z),λh' gB=>?_,λh' ks hs=>?_,λh' kt=>(r.keep kt).append (d2.cons rfl (eV.keep kt) YL7 d2.nil),λh0 ak Z q=>eZ (aw (bc h0 (aw (bQ (aw (bc ak (aw (cst (aS (MT (aS (by refine oh (aaM ..) ?_;exact ai Z q)))))))))))),λh=>YY h.1,λh=>absurd h ZbH,λh=>ah (je h),λh=>bQ (aw (cst YgD)),λh=>congrArg V.str Y15,λh=>h.elim YEU,λhd k=>k.elim (λq=>YHf λO q=>vX (cA hd q)) λq=>q.elim λO q=>q.elim λO q=>vX (cA hd (congrArg ua q.1)),λhe=>YhY,λhm=>?_,λhm=>E7 hm YrI,λhm=>Ur (P:=λe=>YB9) hm Y0n,λhm=>j8 hm λx O O=>YqU,λhm=>j8 hm λx O O=>Y2b Zgc,λhm=>j8 hm λx O O=>Y2b λO z=>z.elim Zge,λi O=>QW i,λi a b=>absurd a (su b),λi af=>Qg af,λi j a b C af aM ao=>?_,λi j ak av aP=>?_,λi j gK aM=>?_,λi j=>g i=g j,λi n v ak av aP=>?_,λi p ar=>?_,λi s P st h=>YE5 λold he=>wpAny_pyIter_enum he h,λi s Q E st k=>T8 Y0f rfl k,λi v=>∃e,Yqm∧v=e.key,λi w=>?_,λi x h=>YCe,λi x h=>Y08,λi x j5 aq=>?_,λi x=>∃t,x=Y6z,λi=>(f i,ZQd),YY rfl,λi=>YI YlX,λi=>Y0 YlJ,λi=>YD [Y4p,YJk],λi=>f i==c,λi=>f i==i,λi=>YED,λj aM=>?_,λj bk=>V.noConfusion YiO,λj e=>?_,λj z=>?_,λj=>i==j,λk O=>YpV,λk aA=>?_,λk j h=>Y4o,λk=>(j,k),λl=>YtL,λl=>(⟨YA7,none,Y9 l Y94,#[]⟩:Obj),λl=>Expr.Tuple l c6 pos,λl=>Q l jj mh,λm e=>?_,λm1 CB qO f1 xu fg tL=>?_,λm7 k=>?_,λm=>ZAo,λm=>YHP,λmh=>∃t,Y3u,λn e=>YhC,λn e=>YWr,λn m a b c=>(λO bA=>bA n m a b c),λn s'=>∃i m acc,Ql g env ns r wr Y D s0 m0 vals St P n s' i m acc,λn x=>∃a,Y83∧HJ h a n,λn x=>∃t s,YBP∧x=YJo,λn=>bindName env n,λn=>n==Y3b,λn=>rfl,λo O O a b=>YD [ZE,a,b],λo O a=>YD [ZE,a],λo a p=>some ⟨(o,a),p,rfl⟩,λo e es a h cl=>QY cl o e es Y4j Yl1,λo e=>k I o rfl e,λo e=>k it o Y61 e,λo e=>YWr,λo es h cl=>QX cl o es Yl1,λo i=>(AL x).elim false λy=>ZQT&&hZ i H c Zi,λo z=>z.1,(λo' z=>by replace z:=aQ q z;cases z),λo=>YQC,λo=>YYL,λp O ai=>p.1::p.2::ai,λp ar=>?_,λp ar=>by refine aQ Y0k ?_;exact YVQ,λp h=>Y4o,λp s2 z=>z.elim YEU,λp z=>⟨ko _ z.1,z.2⟩,λq aF xM=>?_,λq aF=>?_,λq aF=>aa Y0H (aa (show k+6+dep Y76=k+7+Y3Z from fO (k+6) Y3Z 1) ZDm),λq aF=>ah n6 q ZCs,λq aF=>Ygm,λq=>(q,YVF),λq=>YBo,λq=>YY (Yua id ZlG),bB p,λq=>YJb,λq=>FE YGA,λq=>by replace e:=aQ aD Y5V;exact Y4t,λq=>YmS,λq=>n (YJ Z0Q),λq=>nb Y9x,λq=>nb YJc,λqt Ji Bi=>?_,λr a=>YIo,λr a=>(YOT,r.2||YOU),λr m z=>YZO,λr=>rfl,λs as t o c ifs e a b d cl=>Q4 s as t o c ifs e Y4j YG6 ZKD,λs as t u bs w o c e a b d cl=>Q5 s as t u bs w o c e Y4j YG6 ZKD,λs4 xs eb mT bg=>?_,λs=>YW,λt a b p=>some ⟨(t,a,b),p,rfl⟩,λt aZ=>kB YWW aZ [t],λt aZ=>kB Z9g aZ [t],λt aZ=>kB [YkR] aZ [t],λt bq=>by show Yjg=true;exact aX bq Yb8,λt bq=>by show Yjg=true;refine aT bq ?_;rfl,λt h=>by show(no t)=false;rfl,λt h=>by show(YXO==1)=false;refine YSB;rfl,λt vs h q=>f a t vs rfl h q,λt=>YBr≤1000001,λt=>hv Y5k=true,λt=>hv [Y3Y,Y24]=true,λv aO acc m gr aD hm cf=>?_,λv aO acc m gr aD hm pM=>?_,λv c e=>(T v c e).2,λv vs r m z=>?_,λv:V=>Y2z,λv=>(rowsOf S p Y2z).map λt=>h4 (Y2z,t),λv=>[F v],λv=>[V.tup [Y3Y,v]],λv=>[v],λv=>ay (ZlF Y2z),λv=>bO (canon S.f (S.N.getD Y2z YZf)),λvals need aH=>∃P:Y1O,YeJ∧jz P need Y87 (mV t BY.o.weak YM1 Ywh YEY),λvs aH=>Q (x::vs) aH,λvs aH=>o.o.ij cl v vs aH Q,λvs m=>vs.length=es.length∧Q vs m,λvs=>YFV,λw ab hw O cw f=>?_,λw ab hw zu=>q _ _ ⟨w,rfl,hw⟩ zu,λw=>some (V.ref w),λws e=>by rw[e.1];rfl,λx O O=>Y2b Zge,λx c=>YFN=Y0M,λx dg bq=>?_,λx o e q=>YBj e,λx q=>?_,λx s2 bg a2 eX wC=>?_,λx y r Q' s' aq=>Yhe,λx=>Yz9 none λn=>Zab,λx=>cond (decide (x.1=YQB)) (some [l]) none,λx=>do ZVd;theTreesLotGoes x,λx=>noStar x.1&&decide (ZeJ≤1000001),λx=>x.1,λx=>x=Y7,wpAny_pure ?_,λxs q=>⟨YWg kt ZYd,Y9T kt⟩,λxs s2 y=>?_,λy bb=>absurd bb cS,λy=>YQx,λy=>YTr,λy=>zU Yqe,λz e=>o8 (c4 z e),λz w=>⟨ZTF,w.2⟩,λz=>Y0 z.1,λz=>Y0 z.2,λz=>V.str Z34,λz=>absurd z e,λz=>ay Y6g,λz=>Yjv,λz=>YV6,λz=>o8 z.1,λz=>some (V.ref z),λ{g H k env c r mh x Q}K L ao h=>YS8.1,λ{tr most s}=>iF rfl (Ds _).symm,∀I s1,Ue prog w A s a es I s1→Q Y1B s1,∀L,ZLg→¬envX env L,∀Q':Yj,Q' Y7V mh→Zd r mh Q',∀Q,Q cN s→wpAny YR A (keyKind' xs.toArray) Q E s,∀R,YY5→Z75,∀a o,YUk,∀a s',Q a s'→Q' a s',∀ab,Y0G→Q YDC ab,∀ab,Y0G→Q ZSq ab,∀acc m,P [] acc m→Y3I∧YdT,∀b aW L,YCc=some (0,Y5 Y8m)→L.Nodup→(∀j,YVH↔j<n∧f j=f a)→Y7K,∀b aW,YCc=some (0,Y5 ((jo ZX q).map h4))→Y7K,∀b aW,YCc=some (0,Y5 ZAI)→Y7K,∀b c,YjT→eF b c=true→eF a c=true,∀b o,YUZ→Y9X,∀b o,YYR→YN4,∀b ob,b≠x→Y4z=YpK→Yl5=YpK,∀b,YKw→a=b,∀b,Y5W→YWv=Y04,∀b,YN6→Yn8,∀b,YN6→Y6Y,∀b,YpT→strOk b=true→Ymu→a=b∨YjT∨YjU=true,∀c o,YTc→c≠c2→Yiu→c≠dt→YN5,∀c o,YTc→Yiu→YN5,∀c,(nod c).length≤13,∀c,Yit↔∃k,k∈x.2∧S.f k=c,∀e s',E e s'→E' e s',∀e,α e,∀i h,Yev→ZUX,∀i j(a b:V)C,YIB=Y0l→vs[j]?=Y6d→C YD1 s→wpAny YR A (keyLt' cN Zeh (xs.getD j l6)) C Y28 s,∀i,Y2r→R i (f i),∀i,Y2I→YFa→YZq≤300000,∀i,Y2I→YFa→mh YJx=some (Y77,Y5 (a4 YFc)),∀i,Y2I→a7.f i=Za,∀i,i<l→ZTu,∀m r,C1 m r→YCR,∀m,YFK→Y3I,∀n,Y7f→Yj9,∀o,YUk,∀p t,nums=Y0V→mh p=some (t,Y5 Y4k)→Yjf,∀p∈s.2,p.1<Y4Q∧p.2<Y4Q,∀r m,Y68→YH4∧YKd,λO=>rfl,∀r m,Y68→YH4∧Y4C,∀r m,Y68→Y3I∧YCR,∀r m,Y68→Y3I∧Y4C,∀r m,YKH→Q' r m,∀s',R () s' YXg,∀t c,YWO→∃x,Yqn∧hf q.1 x=t,∀t c,t∈fk nod YG [] c↔YWO,∀t,YAk→YMi,∀t,pU q.1 YDw t→Zd5,∀v vs r m,Y7F→Y3I∧sQ g k env ns r tgt weak v λb6=>jk g k env ns b6 m YD8 YKG Qr,∀v,YjS,∀v,Y9c↔v∈vs,∀x y,ZWS→p y=true→compat x y=true,∀x,Y2F→YS4,∀x,YkT=YDq,∀x,foldedSetIterable it env x=YDq,∀x,m≠YD x,∀x,ZWS→dI x n=true,∀z,(z=Y8d∨z=YCS)→S.f z=z∧z<S.N.length,∀{M:ZC},Ydb,∀{g H k env c r mh e es Q},ZG→ZI→YMf→gH g k env c.ns r es mh (λvs m=>o.ij ZH vs m Q)→YK3,∃aW,II g env ns s mh Qn Qr f s' aW,∃as x p,tgt=Yzs,∃c:Nat,And (YHy=some YZA) (And ((YZA:Str).cps.all (·<128)=true) (And (acF YZA=false) ((!(acG signs YZA 0 signs.length 1).isEmpty)=false))),∃es ep t,YAp=Y6b,∃f,Y5b,∃i t,z=Y6z,∃j,YHQ=j+1,∃k,And (Yy1 k e.key=true) (e.hash=Yal k),∃old,IsEnum h I it Y9o old,∃p loose rn pq,TopRead p loose rn pq g.h₀,∃t,e.key=Y4 p t,∃vs,YI7,∃x r,a=YD Yqc,∃x,Y3w∧Y2F,∃xs,Z88∧Y0z,∃y bf n,h.get? p=some (mM YcD n),∃y:Nat,t.slot ZNy=Y71 y∧Zcc,⟨#[YWK]⟩,⟨0,F2⟩,⟨0,Y3o⟩,⟨0,ZW⟩,⟨0,m,acc,rfl,cs,aN,h0,h,Z0⟩,⟨0,zx⟩,⟨8,Y3o⟩,⟨8,forL ?_⟩,⟨?_,?_⟩,⟨?_,ZJV⟩,⟨E,G.4,xc⟩,⟨L.4.1.dq f1 rfl rfl rfl rfl,YKA,L.4.3⟩,⟨N,f,[],Y9h,[],0⟩,⟨[Yw,v],[]⟩,⟨[],L,rfl,rfl,h0⟩,⟨[a],[]⟩,⟨_,Z.1,rfl⟩,⟨_,_,B.1,_,rfl,_,_,Y4I,YNR,_,Lf ar,rfl,?_⟩,⟨_,_,H.1,trivial⟩,⟨_,_,Z.2,?_⟩,⟨_,_,_,B.4⟩,⟨_,_,hK.1,trivial⟩,⟨_,aA⟩,⟨rfl,rfl⟩,⟨_,aq,rfl⟩,⟨_,dy (lt i z.1)⟩,⟨_,Y2o,rfl⟩,⟨_,he⟩,⟨_,hm,rfl⟩,⟨_,rfl,Z0⟩,⟨_,rfl,h⟩,⟨_,tn,rfl⟩,⟨a,b,c,Y3U,rfl⟩,⟨aA,aE,aR⟩,⟨Y07,?_⟩,⟨bZ,YBc,YW⟩,⟨bj,hz⟩,⟨by refine bW q ?_;rfl,_,rfl⟩,⟨YT2▸Y9j,λb cM=>⟨_,(N6 (cA cM YT2))▸aA,rfl⟩⟩,⟨YAc,rest,ZHn,e.2,h⟩,⟨Y2,Y2⟩,⟨e o q.1,q.2⟩,⟨eP h.1 ZhL,eP h.2 ZhL⟩,⟨f,h⟩,⟨fd.scope.names,ns⟩,⟨h',g,d,tk,os⟩,⟨h',g,d,u4,os⟩,⟨h,rfl⟩,⟨ZQ6,g,d,t+1,os⟩,⟨hj,G.5,Lo⟩,⟨m.1,m.2.trans ZJy⟩,⟨m1,z.1,z.2,_,YFr,ck⟩,⟨m1,z.1,z.2,q⟩,⟨YHQ - 1,(x8 (acj hd)).symm⟩,⟨rfl,Y61⟩,⟨rfl,bk⟩,⟨rfl,YBZ,Y4T,YW,YW⟩,⟨tg,f1 _ _ ah rfl⟩,⟨trivial,z⟩,⟨YI8,YI8⟩,⟨x,YJ ⟨y,rfl⟩⟩,⟨xO,vL,vM⟩,⟨xs,[]⟩,⟨z.1,Zav,z.3⟩,⟨YrM,ZgO,λO o e=>⟨o,e⟩,Y3U⟩,⟨Zh3,Zh4⟩,⟨Y9i,Y9i⟩,⟨YZ6,YZ6⟩,⟨Y6k,ZAx⟩,⟨Yt6,vC,lB⟩⟩
noncomputable def x:=1
def hv(vs:Y3):Bool:=vs.casesOn true λh t=>h.casesOn false Y29 (λO=>t.casesOn true λx r=>r.casesOn x.O0 Y0U) Y29 Y29 Y29 Y29
noncomputable abbrev mM (xs:Yn) (n:Nat):Obj:=⟨Y2h,none,Z1t,#[]⟩
noncomputable abbrev jZ (xs:Yn) (n:Nat):Obj:=⟨Y4c,none,Z1t,#[]⟩
noncomputable abbrev gU (xs:Z8) (n:Nat):Obj:=⟨YA7,none,Y9 Z1 n,#[]⟩
noncomputable abbrev yl (C d:Nat):Obj:=⟨Yw,YNI,.plain,#[]⟩
def TupAt(h:Heap)(a:Nat)(xs:Yn):Y1:=∃n,Y0b=some ZUH
def HJ(h:Heap)(a:Nat)(n:Nat):Y1:=∃t1 cy t3,Y0b=some ⟨YQE,none,ZY #[YI 0 t1,YI n cy,YI 1 t3],#[]⟩
def O1(h:Heap)(vs:Y3)(ai:YR2)(x:Value):Y1:=Y7m∧∃a items,Y83∧Yet∧ai items
def O2(ay:Yez)(a4:YR2)(xs:Yn):Y1:=∃y bf,xs=YBW∧YAS∧a4 bf
def aK(h:Heap)(x:Value)(v:V):Y1:=V.rec (motive_1:=Zgq) (motive_2:=Zgk)
 Zkz Zhg Ziy ZjV ZhA
 ZjU Z5e YsW ZgG v x
def a9(h:Heap)(xs:Yn)(vs:Y3):Y1:=V.rec_1 (motive_1:=Zgq) (motive_2:=Zgk)
 Zkz Zhg Ziy ZjV ZhA
 ZjU Z5e YsW ZgG vs xs
def iz(h:Heap)(x:Value)(vs:Y3):Y1:=∃a items,Y83∧Yet∧Yfc
variable{h:Heap}
theorem aK.O3:aK h Y7 Y7:=rfl
theorem aK.ofBool(b:Bool):aK h Y1x Y1x:=rfl
theorem aK.ofInt(i:Int)(t:Tok):aK h Y6z Y3S:=⟨t,rfl⟩
theorem aK.oj(a:Nat):aK h YA YA:=rfl
theorem aK.ofStr{n:Nat}{s:Str}(e:YBP)(t:Tok):aK h YJo ZM:=⟨t,s,e,rfl⟩
theorem a9.nil:a9 h [] []:=rfl
variable{vs:Y3}{bf:Yn}
theorem a9.cons{y:Value}{v:V}(a:ZBA)(b:ZAX):a9 h YBW Y0O:=⟨y,bf,rfl,a,b⟩
variable{x:Value}
theorem iz.HK(r:YV9)(k:Y7m):ZB8:=⟨k,r⟩
theorem aK.gj(r:ZB8):YV9:=r.2
theorem aK.ac6:∀{v:V},aK h Y7 v→v=Y7:=λ{v}=>v.casesOn Zm YEN ZgS YrR
 YEN YYY ZgR
theorem aK.int_is{i:Int}{t:Tok}:∀{v:V},aK h Y6z v→v=Y3S:=λ{v}=>v.casesOn YIi YEN (λO e=>e.elim λO e=>hn e λa O=>aa a rfl) YrR
 YEN YYY ZgR
theorem aK.O4{p:Nat}{C:Y5Q}(ak:C Y0V)(av:∀n,HJ h p n→C YJe)(aP:∀vs items,Y7m→TupAt h p items→Yfc→C ZZ):∀{v:V},aK h Y0V v→C v:=λ{v}=>
 v.casesOn YIi YEN ZgS YrR
 (λO e=>hn e λa=>aV a ak) (λO e=>e.elim λO e=>hn e.1 λa=>av _ (aa a e.2)) (λO e=>ZLf λO q=>q.elim λO q=>hn q.1 λa=>aP _ _ e.1 (aa a YG) Yq)
variable{xs:Yn}
theorem a9.un{v:V}{P:Y1}(r:a9 h xs Y0O)(f:∀y bf,xs=YBW→ZBA→ZAX→P):P:=r.elim λy q=>q.elim λbf q=>f y bf q.1 YG Yq
theorem a9.jh(r:a9 h xs []):YNk:=r
def uo(h:Heap)(xs:Yn):Y1:=xs≠Z9G∧∀i t p,xs=[Y6z,Y0V]→Zmb
def kept(h:Heap)(o:Obj):Y1:=(o.cls=YQE∧Ysw)∨∃xs n,o=ZUH∧uo h xs
def eU(h h':Heap):Y1:=∀a o,YDJ→ZT5→Y6O=YB
theorem HL(h:Heap)(y:Nat)(bf:Yn):uo h YcD:=⟨λe=>hn YaN,λO O O e=>hn YaN⟩
variable{h':Heap}
theorem eU.of(k:ZlP):Y2T:=λa o e O=>YmH
theorem eU.refl(h:Heap):eU h h:=.of YEM
theorem uo.keep(k:Y2T)(x:uo h xs):uo h' xs:=⟨x.1,λi t p e=>(x.2 i t p e).elim λy q=>q.elim λbf q=>q.elim λn q=>
 ⟨y,bf,n,k _ _ q (YJ ⟨_,_,rfl,HL h y bf⟩)⟩⟩
theorem eU.trans{ak av aP:Heap}(x:ZMW)(y:eU av aP):eU ak aP:=λa o e t=>y a o (x a o e t) (t.imp id λt=>t.elim λxs t=>t.elim λn t=>⟨xs,n,t.1,t.2.keep x⟩)
theorem rl{items:Yn}(k:Y7m)(r:Yfc):Zbn:=by
 refine⟨Y5E,λi t p e=>?_⟩
 ·cases vs with
  |nil=>exact Yga
  |cons v vs=>
   refine ZYD;have aO:=aK.ac6 (ZOk.1▸a);exact vV (aO▸k:hv (Y7::vs)=true)
 ·cases vs with
  |nil=>exact Yga
  |cons v vs=>
   refine ZYD;have aJ:=ZOk;replace k:hv (Y3S::vs)=true:=(aK.int_is (aJ.1▸a))▸k;replace b:a9 h [Y0V] vs:=aJ.2▸b
   cases vs with
   |nil=>exact absurd b.jh Y03
   |cons u vs=>
    refine b.un λd1 O5 aC a2 e2=>?_;have c1:=g4 aC
    cases vs with
    |cons bC wk=>exact(aa c1.2 e2:a9 h [] (bC::wk)).un λO O q O O=>absurd q.symm Y03
    |nil=>
     refine aK.O4 (C:=λv=>V.O0 v=true→Zmb) nb (λn O=>nb) (λws ym O k8 mc k=>?_) (aa c1.1 a2) k
     cases ws with
     |nil=>exact nb k
     |cons a ws=>
      refine mc.un λhx ac7 qe eb O=>?_
      cases a with
      |tup us=>exact eb.gj.elim λb z=>z.elim λO z=>k8.elim λn k8=>⟨b,ac7,n,k8.trans (by(exact gS qe (aa z.1 rfl)))⟩
      |_=>exact nb k
theorem TupAt.keep(k:Y2T){items:Yn}(t:Yet)(o:Zbn):TupAt h' a items:=t.imp λn e=>k _ _ e (YJ ⟨_,_,rfl,o⟩)
theorem aK.ac8(k:Y2T)(v:V):ZmE:=V.rec (motive_1:=λv=>ZmE) (motive_2:=λvs=>∀xs,Y0z→ZAc)
 ZgQ YEM YEM YEM YEM (λO O e=>e.imp λO q=>⟨q.1,YMq λt1 q=>q.imp λcy q=>q.imp λt3 q=>k _ _ q (YY ⟨rfl,_,rfl⟩)⟩)
 (λvs ai x e=>⟨e.1,e.2.imp λa q=>q.imp λym q=>⟨q.1,q.2.1.keep k (rl e.1 Yq),ai _ Yq⟩⟩) ZgQ (λO O dM dt O e=>e.imp λy q=>q.imp λbf q=>⟨q.1,dM _ YG,dt _ Yq⟩) v
theorem aK.keep(k:Y2T){v:V}(r:Y2F):YS4:=aK.ac8 k v x r
theorem a9.keep(k:Y2T){xs:Yn}(r:Y0z):ZAc:=by
 induction vs generalizing xs with
 |nil=>exact r
 |cons v vs ai=>exact r.un λy bf e a b=>aa e (a9.cons (a.keep k) YSN)
theorem a9.length{xs:Yn}(r:Y0z):Yqi:=by
 induction vs generalizing xs with
 |nil=>exact Yio
 |cons v vs ai=>exact r.un λy bf e O q=>aa e ZJq
variable{ws:Y3}
theorem a9.append{xs:Yn}(r:Y0z)(q:ZAY):a9 h Yqg (vs++ws):=by
 induction vs generalizing xs with
 |nil=>exact ZCg
 |cons v vs ai=>exact r.un λy bf e a b=>e▸a9.cons a YSN
theorem a9.get{xs:Yn}(r:Y0z){i:Nat}{v:V}(e:YIC):ZmZ:=by
 induction vs generalizing xs i with
 |nil=>exact Ykc
 |cons u vs ai=>
  refine YMv
  cases i with
  |zero=>exact⟨y,YgO,Y4G▸a⟩
  |succ i=>exact aa aJ (ai b e)
theorem a9.drop{xs:Yn}(r:Y0z)(n:Nat):a9 h (xs.drop n) (vs.drop n):=by
 induction vs generalizing xs n with
 |nil=>exact Y32▸ZHT
 |cons u vs ai=>
  refine YMv
  cases n with
  |zero=>exact r
  |succ n=>exact aJ▸ZDj
theorem a9.take{xs:Yn}(r:Y0z)(n:Nat):a9 h (xs.take n) (vs.take n):=by
 induction vs generalizing xs n with
 |nil=>exact aa Y32 (ZHT)
 |cons u vs ai=>
  refine YMv
  cases n with
  |zero=>rfl
  |succ n=>exact aJ▸a9.cons a ZDj
theorem a9.set{xs:Yn}(r:Y0z)(i:Nat){v:V}(q:Y2F):a9 h (xs.set i x) (vs.set i v):=by
 induction vs generalizing xs i with
 |nil=>exact YSH
 |cons u vs ai=>
  refine YMv
  cases i with
  |zero=>exact aa aJ (a9.cons q b)
  |succ i=>exact aJ▸ZAh
def V.isInt(v:V):Bool:=v.mb false Y29
def V.isStr(v:V):Bool:=v.onStr false Y29
def sD(p:Y3n)(vs:Y3):Bool:=vs.casesOn false λa r=>a.isStr&&r.all p
def isNode(v:V):Bool:=Zce
def fV(n:Nat):Y3n:=n.rec Y1k λO p v=>Yq5
def gV(c:Nat)(v:V):Bool:=c.casesOn false λc=>c.casesOn v.isStr λc=>c.casesOn v.isInt λc=>c.casesOn ZRi λc=>c.casesOn YkM λc=>c.casesOn (v.eM false λvs=>vs.all isNode) Y1k
def ef(w:World)(v:V):Int:=V.rec (motive_1:=λO=>Int) (motive_2:=λO=>Y8Y) 0 Y86 (λi=>hashInt i) (λn=>YlN) Y86 Y86
 (λO ai=>reduceHash (xW ai)) [] (λO O a b=>a::b) v
inductive ct where
 |list (vs:Y3) |dict (c:Nat) (es:YCN) |obj (C:Nat) (vs:Y3) |own (a:Nat) |fix (vs:Y3)
def ct.DL(o:ct):Bool:=o.casesOn Y1k Y0P Y0P Y1k Y29
abbrev ag:=Nat→Option Y1D
def upd(mh:ag)(a:Nat)(c:Y1D):ag:=λb=>if b=a then Y0M else Y6U
theorem bw(mh:ag)(a:Nat)(c:Y1D):upd mh a c a=Y0M:=Y0c
variable{mh:ag}
theorem dE{b:Nat}{c:Y1D}(h:Y5W):ZcO=Y6U:=Ylo
structure G where
 prog:Program
 w:World
 K:Frag
 h₀:Heap
 os:OsState
 yn:Nat→YH
def d2(w:World)(h:Heap)(xs:Z8)(es:YCN):Y1:=List.rec (motive:=λO=>Z5I) YsW
 (λm O ai xs=>∃e r,xs=e::r∧YLT∧YFq∧YS3∧Y6D) es xs
def ib(h:Heap)(ns:YH)(xs:Z8)(vs:Y3):Y1:=List.rec (motive:=λO=>YH→Z5I) (λO xs=>YNk)
 (λv O ai ns xs=>∃e r n nD,ZVg∧xs=e::r∧Ysu∧Yfs∧ai nD r) vs ns xs
variable{w:World}
theorem d2.un{xs:Z8}{m:Y69}{es:YCN}{P:Y1}(r:d2 w h xs ZUE)(f:∀e e6,Zek→YLT→YFq→YS3→d2 w h e6 es→P):P:=
 r.elim λe r=>r.elim λe6 r=>f e e6 r.1 YWj Y9V.1 YWk.1 YWk.2
theorem d2.cons{e:DictEntry}{xs:Z8}{m:Y69}{es:YCN}(ak:YLT)(av:YFq)(aP:YS3)(r:Y4w):d2 w h YjR ZUE:=⟨e,xs,rfl,ak,av,aP,r⟩
variable{ns:YH}
theorem ib.un{xs:Z8}{v:V}{P:Y1}(r:ib h ns xs Y0O)(f:∀e e6 n nD,ZVg→Zek→Ysu→Yfs→ib h nD e6 vs→P):P:=
 r.elim λe r=>r.elim λe6 r=>r.elim λn r=>r.elim λnD r=>f e e6 n nD r.1 YWj Y9V.1 YWk.1 YWk.2
theorem ib.cons{n:Str}{e:DictEntry}{xs:Z8}{v:V}(ak:Ysu)(av:Yfs)(r:YDO):ib h (n::ns) YjR Y0O:=⟨e,xs,n,ns,rfl,rfl,ak,av,r⟩
theorem d2.keep(k:Y2T){xs:Z8}{es:YCN}(r:Y4w):d2 w h' xs es:=by
 induction es generalizing xs with
 |nil=>exact r
 |cons m es ai=>exact r.un λe e6 aJ a b c d=>aa aJ (d2.cons a ZFY (c.keep k) Ygp)
theorem ib.keep(k:Y2T){ns:YH}{xs:Z8}(r:YDO):ib h' ns xs vs:=by
 induction vs generalizing xs ns with
 |nil=>exact r
 |cons v vs ai=>exact r.un λe e6 n nD aJ aC a b c=>aa aJ (aC▸ib.cons a ZFY (ai c))
def qf(g:G)(h:Heap)(mh:ag)(a:Nat)(o:ct):Y1:=o.casesOn
 (λvs=>∃xs ep,Y0b=Y82∧Y0z)
 (λc es=>∃xs ep,Y0b=Y9a∧d2 g.w h xs es∧YEe∧∀e∈es,Ykl)
 (λC vs=>∃d t,Y0b=YpG∧Y6V=YpE∧∃xs ep,YUl∧ib h YGh xs vs)
 (λO=>∃xs ep,Y0b=Y9a) λvs=>∃xs,ZPq∧Y0z
abbrev a5(g:G)(mh:ag)(s:Shared):Y1:=iG ZlY (∀b o,YUZ→∀x,Y6U=YQ→x.2.DL=true) (∀a t o,Yn6→qf g s.heap mh a o) ZYs (s.os=g.os)
abbrev Step(X:Yo)(s:Shared)(mh:ag)(s':Shared)(aW:ag):Y1:=hr (∀a o,YWy→Y9O→¬X a→YWu=YB) (∀a,Y9O→ZCH∨YDy) (∀a o,YWy→∃o',YWu=YXJ) Yjd
abbrev cX:Yo:=Y3x
theorem DM{o:Obj}{n:String}(ao:YW4)(ak:ZVj)(av:ZVi):YNx:=λk=>k.elim (λe=>av (t8 (cA ao e.1))) λk=>k.elim λxs k=>k.elim λn k=>ak (t8 (cA ao ZJs))
theorem O6(xs:Z8)(n:Nat):¬kept h (gU xs n):=Z3N
theorem Az(xs:Yn)(n:Nat):¬kept h ZSA:=Z3N
theorem ac9(C d:Nat):¬kept h YNq:=λk=>k.elim (λe=>hn e.1) λk=>k.elim λxs k=>k.elim λn k=>hn ZJs
variable{g:G}
theorem qf.here{o:ct}(x:ZXo):∃q,Y0b=YpL∧¬kept h q:=by
 cases o with
 |list vs=>exact x.elim λxs x=>x.elim λn x=>⟨_,x.1,Az xs n⟩
 |fix vs=>exact x.elim λxs x=>x.1.imp λo z=>⟨z.1,DM Z4 YC YC⟩
 |dict c es=>exact x.elim λxs x=>x.elim λn x=>⟨_,x.1,O6 xs n⟩
 |obj C vs=>exact x.elim λd x=>x.elim λt x=>⟨_,x.1,ac9 C d⟩
 |own b=>exact x.elim λxs x=>x.elim λn x=>⟨_,x,O6 xs n⟩
variable{aW:ag}
theorem qf.keep{o:ct}(x:ZXo)(k:Y2T)(aD:Y6O=Y0b)(hd:∀d t,Y6V=YpE→ZPk=ZQ4∧aW d=Y6V):qf g h' aW a o:=by
 cases o with
 |list vs=>exact x.imp λxs x=>x.imp λn x=>⟨Yfn,YqW k⟩
 |fix vs=>exact x.imp λxs x=>⟨x.1.imp λo z=>⟨aD.trans z.1,z.2⟩,YqW k⟩
 |dict c es=>exact x.imp λxs x=>x.imp λn x=>⟨Yfn,ZeL,ZJ⟩
 |obj C vs=>exact x.imp λd x=>x.imp λt x=>⟨Yfn,ZQZ.2.trans Y2K,x.2.2.imp λxs q=>q.imp λn q=>⟨ZQZ.1.trans q.1,Y9T k⟩⟩
 |own b=>exact x.imp λxs x=>x.imp λn x=>aD.trans x
theorem Step.refl{X:Yo}:Step X s mh s mh:=Znf
variable{s':Shared}
theorem Step.out{X:Yo}(st:YFg){o:Obj}(e:YWy)(hm:Y9O):ZCH:=(Zb a hm).elim id λq=>g7 e q
variable{s1:Shared}{s3:Shared}{m1:ag}{s2:Shared}{aH:ag}
theorem Step.trans{X:Yo}{bF:ag}(x:Step X s1 m1 s2 aH)(y:Step X s2 aH s3 bF):Step X s1 m1 s3 bF:=
 ⟨λa o e hm aq=>y.1 a o (x.1 a o e hm aq) (x.out e hm) aq,
  λa e=>(x.2 a e).elim (λq=>(y.2 a q).imp id λq=>we λo aA=>(x.3 a o aA).elim λo' av=>g7 av q) YJ,
  λa o e=>(x.3 a o e).elim λo' h=>y.3 a o' h,
  x.4.trans y.4⟩
variable{Y:Yo}
theorem Step.weaken{X:Yo}(x:YFg)(h:∀a,X a→Y a):Step Y s mh s' aW:=⟨λa o e hm aq=>x.1 a o e hm λq=>aq (h a q),x.2,x.3,x.4⟩
theorem Step.any{X:Yo}(x:Yem):YFg:=x.weaken Y31
abbrev O7(g:G)(X:Yo)(s:Shared)(mh:ag)(R:YBY)(a:α)(s':Shared)(aW:ag):Y1:=jd YfX YFg (R a s' aW)
abbrev hy(g:G)(X:Yo)(s:Shared)(mh:ag)(R:YBY)(a:α)(s':Shared):Y1:=∃aW,Z5f
abbrev lH:Y8:=Y28
abbrev WP(g:G)(A:Around)(t:Y7G)(Q:Y9e)(s:Shared):Y1:=wpAny Yu A t Q lH s
abbrev fW(g:G)(A:Around)(X:Yo)(s:Shared)(mh:ag)(t:Y7G)(R:YBY):Y1:=WP g A t YUx s
theorem WP.mono{t:Y7G}{Q Q':Y9e}(h:WP g A t Q s)(k:ZlQ):WP g A t Q' s:=wpAny_mono h k Y3Q
theorem hy.go{X:Yo}{R:YBY}(st:Z7p){a:α}(h:hy g X s1 m1 R a s2):hy g X s mh R a s2:=h.imp λm z=>Zne
theorem nE{X:Yo}{R:YBY}{t:Y7G}(st:Z7p)(h:fW g A X s1 m1 t R):WP g A t YUx s1:=h.mono λO O z=>z.go st
theorem HM{X:Yo}{R:YBY}{t:Y7G}{sE:YBY}(h:fW g A X s mh t R)(k:∀a s' aW,Z5f→sE a s' aW):fW g A X s mh t sE:=h.mono λa s' z=>z.imp λm z=>⟨z.1,z.2,k a s' m z⟩
theorem a5.toks(ae:YU)(t:Nat):a5 g mh YrA:=⟨Y5T,Y7P,Y7Q,YFw,YFx⟩
theorem Step.toks{X:Yo}(t:Nat):Step X s mh YrA mh:=Znf
theorem a5.here{c:Y1D}(ae:YU)(e:Yn7):∃o,YWy∧YrD:=(Y7Q a c.1 c.2 e).here
theorem a5.fresh(ae:YU)(e:YDy):Y9O:=we λc h=>(ae.here h).elim λo q=>g7 q.1 e
variable{d:Nat}
theorem a5.ada{c:Y1D}(ae:YU)(e:Y6V=Y0M)(az:YDy):d≠a:=λq=>YBf λO z=>g7 z.1 (q▸az)
theorem a5.off{b:Nat}{o:Obj}{x:Y1D}(ae:YU)(e:YUZ)(h:Y0d=YQ)(mN:x.2.DL=false):Y5W:=λq=>vV (cA mN (Y7P b o e x YHg))
theorem hT(h:Heap):h.get? h.objs.size=none:=we λo q=>t9 _ YkH
theorem yo(e:h.objs.size≤a):Y0b=none:=we λo q=>ye e YkH
abbrev hU(h h':Heap):Y1:=ZlP
theorem DN(k:hU h h'){o:Obj}(e:YDJ):Y6O=Y0b:=(k a o e).trans e.symm
theorem a5.grow(ae:YU)(k:Y7k)(cR:Y56)(aA:Y4P):Y4B:=
 ⟨Zhb,Y7P,λa t o e=>(Y7Q a t o e).keep YPh YZz λd u e=>⟨YZz,rfl⟩,YTQ,YRz⟩
theorem Step.grow{X:Yo}(k:Y7k):Step X s mh s' mh:=⟨Zh8,ZgO,Zh9,YPh⟩
variable{t:Nat}
theorem a5.new{o:ct}(ae:YU)(k:Y7k)(az:YDy)(cR:Y56)(aA:Y4P)(h:ZXp):ZAJ:=
 ⟨Zhb,
  λb o e x aq=>Y7P b o e x (cA (dE λq=>g7 (q▸Y8r) az) aq),
  λb u p e=>by
  by_cases q:b=a
  ·subst q;have:=ZOv;exact this.2▸h
  ·have e:=YiM;exact YvL YPh YZz λd om bk=>⟨(ae.here bk).elim ZgV,dE (ae.ada bk az)⟩,
  YTQ,
  YRz⟩
theorem Step.new{X:Yo}{c:Y1D}(k:Y7k)(az:YDy):Step X s mh s' Ypx:=⟨Zh8,λb e=>by
  by_cases q:b=a
  ·exact YJ ZD3
  ·exact YY (YBj e),Zh9,YPh⟩
theorem qg{o:Obj}(aA:YDJ)(kN:YNx)(k:∀b,Y5W→Yl5=Y4z):Y2T:=λb o' e t=>(k b λq=>kN (c4 aA ZCE▸t)).trans e
theorem a5.change{HN o:ct}(ae:YU)(h0:Y0d=some (t,HN))(k:Zlc)(cR:Y56)(aA:Y4P)(adb:∀b,HN≠.own b)(mN:HN.DL=false)(h:ZXp):ZAJ:=
 ⟨λb o e=>(k b ZDc).trans Y8r,
  λb o e x aq=>Y7P b o e x (cA (dE ZDc) aq),
  λb u p e=>by
  by_cases q:b=a
  ·subst q;have:=ZOv;exact aV this.2 h
  ·have e:=YiM;have bZ:∀d om,Y6V=some (om,.own b)→d≠a:=λd om bk z=>adb b (gQ (c4 h0 (aV z bk))).2;exact YvM λO z=>YvL ZXr (k b q) λd om bk=>⟨k d ZGc,dE ZGc⟩,
  YTQ,
  YRz⟩
theorem Step.change{X:Yo}{c₀:Y1D}{sF:ag}(ae:YU)(h0:ZUg)(k:Zlc)(h:∃o,YWu=YB)(hm:∀b,YB1→sF b=none):Step X s mh s' sF:=
 ⟨λb o e ah O=>(k b λq=>absurd (cA ah ZY7) YZ5).trans e,
  λb e=>YY (hm b e),
  λb o e=>by
  by_cases q:b=a
  ·exact YgS
  ·exact⟨o,(k b q).trans e⟩,
  YvM λO z=>ZXr⟩
theorem HO{c₀ c:Y1D}(h0:ZUg):∀b,YB1→ZcO=none:=λb e=>(dE λq=>absurd (cA e ZY7) YZ5).trans e
variable{ep:Nat}{fX:Y3}
theorem ade{X:Yo}{e6:Yn}(ae:YU)(e:Y3u)(hs:YDf)(aA:Y6O=some (jZ e6 ep))(bo:ZMX)(tk:Nat){R:YCU}(h:R () Y0w ZcL):YlV:=
 have kt:Y92:=YBf YrT
 ⟨_,ae.change (o:=Y5 fX) (s':=Y0w) e Y1H rfl rfl Zhe rfl ⟨e6,ep,aA,bo kt⟩,Z7s,h⟩
variable{e6:Z8}
theorem adf{X:Yo}{c:Nat}{es kq:YCN}(ae:YU)(e:YVi)(hs:YDf)(aA:Y6O=ZaF)(bo:ZMY)(bZ:(kq.map Yh).Nodup)(aR:∀e∈kq,Ykl)(tk:Nat){R:YCU}(h:R () Y0w (upd mh a (t,YbN))):YlV:=
 ⟨_,ae.change (o:=YbN) (s':=Y0w) e Y1H rfl rfl Zhe rfl ⟨e6,ep,aA,bo (YBf YrT:Y92),bZ,aR⟩,Z7s,h⟩
variable{C:Nat}
theorem adg{X:Yo}{u:Nat}(ae:YU)(e:YHO)(af:Y0u=YpG)(hd:ZUi)(hs:mE d s.heap h')(aA:ZPk=ZaF)(bo:Y92→ib h' YGh e6 fX)(tk:Nat){R:YCU}(h:R () Y0w (upd mh a (t,Ybf))):YlV:=by
 have kt:Y92:=(ae.here hd).elim YrT;have ad:a≠d:=λq=>ct.noConfusion (gQ (c4 e (Yw3 hd))).2;refine⟨_,⟨λb o x=>(Y1H b (ae.off x hd rfl)).trans (Y5T b o x),λb o x y bb=>Y7P b o x y (cA (dE (ae.off x e rfl)) bb),
  λb om p x=>?_,YFw,YFx⟩,Step.change (s':=Y0w) ae hd Y1H Zmz Z4K,h⟩
 by_cases q:b=a
 ·subst q;have:=(gQ (c4 (bw mh b (t,Ybf)) x)).2;exact aV this ((⟨d,u,(Y1H b ad).trans af,(dE (q6 ad)).trans hd,e6,ep,aA,bo kt⟩:qf g h' _ b Ybf))
 ·have x:=cA Y7e x;by_cases ck:b=d
  ·subst ck;have:=(gQ (c4 hd x)).2;exact aV this ((⟨e6,ep,aA⟩:qf g h' _ b YPv))
  ·exact(Y7Q b om p x).keep kt (Y1H b ck) λeJ v fY=>by
    have dn:eJ≠d:=λz=>q (ct.noConfusion (gQ (c4 fY (Yw4 hd))).2 id);have fI:eJ≠a:=λz=>ct.noConfusion (gQ (c4 e ((congrArg mh z.symm).trans fY))).2;exact⟨Y1H eJ dn,dE fI⟩
theorem adh:(HI.map er).Nodup:=ZL
theorem AA{n m:Nat}{s:Str}(a:YBP)(b:YXW=some s):n=m:=(xX ((jJ a).elim Y6i) adh).mp (a.trans b.symm)
def b8(v:V):Y3n:=V.rec (motive_1:=YYc) (motive_2:=YYb) (λb=>b.casesOn true Y1k Y1k Y1k Y1k Y1k Y1k)
 (λx b=>b.Ay false λy=>YXz) (λi b=>b.mb false ZjB) (λn b=>b.onStr false Ys6) (λn b=>b.oi false Ys6)
 (λn b=>b.casesOn false Y1k Y1k Y1k Y1k Ys6 Y1k) YYX Ys4 (λO O x y l=>l.casesOn false Zhf) v
def j0(vs:Y3):Y5L:=vs.rec Ys4 λa O ai l=>l.casesOn false λb r=>Y1S&&Y6D
theorem DO(vs ws:Y3):ZFm:=by
 suffices h:∀ws,ZFm from h ws
 induction vs with
 |nil=>exact Zm
 |cons a vs ai=>exact λws=>ws.casesOn rfl λb r=>congrArg (Y1S&&·) Y6D
theorem adi(a:V):Zlb:=V.rec (motive_1:=λa=>Zlb) (motive_2:=λa=>∀b,ZRs→a=b)
 (λb=>b.casesOn Zm Zc Zc Zc Zc Zc Zc)
 (λx b=>b.casesOn nb (λy e=>congrArg V.bool Y96) Zc Zc Zc Zc Zc)
 (λx b=>b.casesOn nb Zc (λy e=>congrArg V.int Y96) Zc Zc Zc Zc)
 (λx b=>b.casesOn nb Zc Zc (λy e=>congrArg V.str Y96) Zc Zc Zc)
 (λx b=>b.casesOn nb Zc Zc Zc (λy e=>congrArg V.ref Y96) Zc Zc)
 (λx b=>b.casesOn nb Zc Zc Zc Zc (λy e=>congrArg V.kM Y96) Zc)
 (λvs ai b=>b.casesOn nb Zc Zc Zc Zc Zc λws e=>congrArg V.tup (ai ws (cA (DO vs ws) e)))
 (λb=>b.casesOn Zm YIb) (λx xs ak av b=>b.casesOn nb λy bf e=>(ak y ZIv.1)▸(av bf ZIv.2)▸rfl) a
theorem iI(a:V):ZFs:=V.rec (motive_1:=λa=>ZFs) (motive_2:=λa=>j0 a a=true) rfl YOA YOA YOA YOA YOA
 (λvs ai=>(DO vs vs).trans ai) rfl (λO O a b=>lF ⟨a,b⟩) a
theorem oo{a b:V}(h:YKw):a=b:=adi a b h
theorem uq{a b:V}:YKw↔a=b:=⟨oo,λe=>ZC9⟩
theorem ic{a b:V}(h:YCl):Y1S=false:=HA λq=>h YWF
theorem O8(a b:V):Y1S=b8 b a:=sy (uq.trans (eq_comm.trans uq.symm))
theorem DP{a b:Y3}:ZRs↔a=b:=eT Z3O (aj (propext uq) (⟨λe=>V.noConfusion e id,ZiD⟩))
def pre(a:Y3):Y5L:=a.rec Y29 λx O ai l=>l.casesOn true λy r=>YSc&&Y6D
theorem O9(n m:Nat):(n+1==m+1)=(n==m):=sy (beq_iff_eq.trans (Nat.succ_inj.trans beq_iff_eq.symm))
theorem adj(a b:Y3):(pre a b&&a.length==b.length)=YAt:=by
 induction a generalizing b with
 |nil=>cases b <;> rfl
 |cons x a ai=>
  cases b with
  |nil=>rfl
  |cons y b=>exact(Bool.and_assoc _ _ _).trans (congrArg (YSc&&·) ((congrArg (pre a b&&·) Z5g).trans YSN))
def dI(v:V):Z9:=V.rec (motive_1:=Zgm) (motive_2:=Zgm) Y1k Y0P Y0U Y0U Y0P Y0P (λO ai n=>n.casesOn false ai) Y29 (λO O x y n=>x n&&y n) v
def md(vs:Y3)(n:Nat):Bool:=vs.rec true λv O ai=>dI v n&&ai
theorem mO(vs:Y3)(n:Nat):dI ZZ (n+1)=md vs n:=by
 induction vs with
 |nil=>rfl
 |cons a vs ai=>exact congrArg (dI a n&&·) ai
def compat(v:V):Y3n:=V.rec (motive_1:=YYc) (motive_2:=YYb) Y1k Y0P Zgo Zgp Y0P Y0P YYX Y29 (λO O x y l=>l.casesOn true Zhf) v
def DQ(vs:Y3):Y5L:=vs.rec Y29 λv O ai l=>l.casesOn true λb r=>compat v b&&Y6D
theorem DR(vs ws:Y3):compat ZZ Y8U=Z3Q:=by
 induction vs generalizing ws with
 |nil=>rfl
 |cons a vs ai=>exact ws.casesOn rfl λb r=>congrArg (YAb&&·) Y6D
def iT(v:V):Nat:=V.rec (motive_1:=Zgl) (motive_2:=Zgl) 1 Y5m Y5m Y5m Y5m Y5m (λO n=>n+1) 0 YrL v
def HP(vs:Y3):Nat:=vs.rec 0 λv O n=>iT v+n
theorem adk(vs:Y3):iT ZZ=HP vs+1:=by
 induction vs with
 |nil=>rfl
 |cons a vs ai=>exact(congrArg Y3l (congrArg (iT a+·) (oc ai)):_)
def sG(w:World)(vs:Y3):Y8Y:=vs.map Yjh
theorem adl(w:World)(vs:Y3):ef w ZZ=reduceHash Yqf:=by
 refine congrArg (λl=>reduceHash (xW l)) ?_
 induction vs with
 |nil=>rfl
 |cons a vs ai=>exact congrArg (ef w a::·) ai
variable{e:Nat}{k:Nat}
theorem yp{w c:Nat}(h:a+c*(k+1)+d<e)(hw:w≤c):a+w+c*k+d<e:=fF (h7 (aj ZO (aX (gi w ..) (c0 (c0 hw _) a))) d) h
theorem DS{x:Nat}(h:a+k+d<e)(aq:x≤d):a+x<e:=Nat.lt_of_le_of_lt (gR (cx a k) aq) h
theorem bD{m c:Nat}(h:ZA6<c):a+1+2*m<c:=yp (d:=0) h Y2
theorem bC{m c:Nat}(h:a+2*m<c):a<c:=fF Yk h
theorem iz.type(t:Yeu):s.TypeIs YA "tuple":=t.elim λn e=>Yt3
abbrev DT(prog:Program)(w:World)(E:Y8)(v:V):Y1:=∀(n:Nat)(A:Around)(s:Shared)(x:Value)(Q:YdL),Y7f→YQQ→Y2k→
  Q YU1 Zfl→Zdb
abbrev DU(prog:Program)(w:World)(E:Y8)(vs:Y3):Y1:=∀(n:Nat)(A:Around)(f:Value→YCG→Sem Z44)(s:Shared)(xs:Yn)(acc:YCG)(Q:YCG→YP),
  (∀x r(Q':Z44→YP)s,wpAny YR A ZXP (λbJ s'=>Q' (.yield (r.push bJ)) s') E s→ZdZ)→
  YDh→YQQ→Y39→Q (acc++Yyn) {s with toks:=s.toks+HP vs}→wpAny YR A (forIn xs acc f) Q E s
variable{prog:Program}
theorem adm{E:Y8}(vs:Y3)(ai:Z3T):DT prog w E ZZ:=by
 intro n A s x Q d bj r h
 cases n with
 |zero=>exact YHT
 |succ n=>
 refine ZY9;have dJ:=ZRn;refine YoP λk aA=>bd (wpAny_cRoomFor_or (YJ ZFx) ZGu);show wpAny _ _ (if(some (Value.builtin "tuple.__hash__")==some l6)=true then _ else _) Q E s;refine cb ZRC ZGu;show wpAny _ _ (callSpecialIfBoundUnlessNone? YA "__hash__" _ >>= _) Q E s;refine bd (wpAny_callSpecialIfBoundUnlessNone?_slot dJ G9 (wpAny_call_entry G9 dJ F.entry_tuple_hash ?_ (F.args_tuple_hash_1 _)));show wpAny _ _ (Builtin.Tuple.tupleItemsOf YA >>= _) _ _ s;refine bd (wpAny_tupleItemsOf aA rfl (bd (Aq NF (ai n _ _ _ _ _ _ (λx r Q' s' aq=>bd (wpAny_mono aq (λO O y=>by first | exact YXs | exact ZGq) ZgD)) YMS ZFy Y9V ?_))));show wpAny _ _ (retInt (xW _)) _ _ _;refine wpAny_ret_mkInt ?_;replace h:=OO (adk ..) (aQ (adl ..) h);refine aa axP (aa abP ?_);dsimp only [reduceHash]at h;show wpAny _ _ (if YwC then _ else _) Q E _;by_cases bo:YwC
 ·(replace h:=aQ ZRP h;refine cb ZRP ?_)
  exact Y1u
 ·(replace h:=aQ ZRF h;refine cb ZRF ?_)
  exact Yhh
theorem adn{E:Y8}(v:V)(vs:Y3)(ak:Z3S)(av:Z3T):DU prog w E Y0O:=by
 intro n A f s xs acc Q hf d bj r h;refine r.un λy bf e a b=>dG d λbD bC=>iy e (cb Y4O (bd (hf _ _ _ _ (ak n A s y _ bD bj a (av n A f Zfl bf _ Q hf bC bj b ?_)))));have aJ:(acc.push YU1)++Yyn=acc++(sG w Y0O).toArray:=by
  show _=acc++(YU1::ZZF).toArray;rw[←axM];simp
 refine ZEA;show Q _ {s with toks:=ZZ8+HP vs};exact dS ZO h
theorem Pa{E:Y8}{v:V}:Z3S:=V.rec (motive_1:=DT prog w E) (motive_2:=DU prog w E) YrJ Y9f
 (λi n A s x Q d bj r h=>r.elim λt e=>aa e (wpAny_pyHash_int h)) (λi n A s x Q d bj r h=>r.elim λt e=>e.elim λy e=>aa e.2 (wpAny_pyHash_str ((congrArg Ys8 ZLd:hashStr w y=_)▸h)))
 Y9f Y9f adm (λn A f s xs acc Q hf d bj r h=>by
  exact iy r.jh (cb vW (wpAny_pure ((axQ (xs:=acc))▸h)))) adn v
abbrev DV(prog:Program)(w:World)(E:Y8)(v:V):Y1:=∀(n:Nat)(A:Around)(s:Shared)(x:Value)(Q:Y1n),Y7f→Y2k→Q true s→wpAny YR A ZMu Q E s
abbrev DW(prog:Program)(w:World)(E:Y8)(vs:Y3):Y1:=∀(n:Nat)(A:Around)(f:Value→YRH→Sem Z45)(s:Shared)(xs:Yn)(Q:YRH→YP),
  (∀x r(Q':Z45→YP)s,wpAny YR A ZMu (λb s'=>Y6F∧YeZ) E s→ZdZ)→
  YDh→Y39→Q Y8N s→wpAny YR A (forIn xs Y8N f) Q E s
theorem ado{E:Y8}(vs:Y3)(ai:Z3V):DV prog w E ZZ:=by
 intro n A s x Q d r h
 cases n with
 |zero=>exact YHT
 |succ n=>
 refine ZY9;have dJ:=ZRn;refine YoP ZjD;unfold eqIsQuiet;refine bd (wpAny_specialOf dJ abQ.lookup ?_);show wpAny _ _ (isInstance YA Y2h >>= _) _ _ s;refine bd (wpAny_isInstance dJ isSubtype_tuple_tuple ZJL);show wpAny _ _ (forIn (bT items) _ _) _ _ s;refine Aq NF (ai n _ _ _ _ _ (λx r Q' s' aq=>Yhe) YMS Y9V Y1u)
 (refine aa y.1 YTX)
 exact wpAny_pure y.2
theorem adp{E:Y8}(v:V)(vs:Y3)(ak:Z3U)(av:Z3V):DW prog w E Y0O:=by
 intro n A f s xs Q hf d r h;exact r.un λy bf e a b=>dG d λbD bC=>iy e (cb Y4O (bd (hf _ _ _ _ (ak n A s y _ bD a ⟨rfl,av n A f s bf Q hf bC b h⟩))))
theorem HQ{E:Y8}{v:V}:Z3U:=V.rec (motive_1:=DV prog w E) (motive_2:=DW prog w E) YrJ Y9f
 (λi n A s x Q d r h=>r.elim λt e=>jg e ZJK) (λi n A s x Q d r h=>r.elim λt e=>e.elim λy e=>jg e.2 ZJK)
 Y9f Y9f ado (λn A f s xs Q hf d r h=>iy r.jh (cb vW Y1u)) adp v
theorem V.str_inj{n m:Nat}(h:Yew=V.str m):n=m:=YRd
noncomputable instance:DecidableEq V:=λa b=>if h:YKw then isTrue (oo h)else isFalse λe=>h ZC9
theorem adq(a b:V):decide (a=b)=Y1S:=sy (decide_eq_true_iff.trans uq.symm)
theorem HR{n m:Nat}{s t:Str}(a:YBP)(b:YXW=YNJ):decide (s=t)=b8 ZM Z23:=by
 by_cases q:n=m
 ·subst q;(refine aa (c4 a b) (aL Y3r ?_));exact ZLD
 ·exact aL (ic λe=>q YAH) (decide_eq_false λe=>q (AA a (aa e b)))
abbrev HS(v:V):Y1:=∀(h:Heap)(u:V)(n m:Nat)(x:Value),Y7f→YTk→Y2F→ZB9→v=u
abbrev Pb(vs:Y3):Y1:=∀(h:Heap)(us:Y3)(n m:Nat)(xs:Yn),YDh→Yn1→Y0z→ZAa→vs=us
theorem ads(vs:Y3)(ai:Pb vs):HS ZZ:=by
 intro h u n m x d eJ r bI;refine r.gj.elim λa r=>r.elim λitems r=>aK.O4 (C:=λu=>YTk→V.tup vs=u) nb YIb (λus ym O t q eJ=>?_) (aV r.1 bI) eJ
 cases n with
 |zero=>exact YHT
 |succ n=>
 cases m with
 |zero=>exact YVv
 |succ m=>
 have e:items=ym:=YoP λdC ak=>t.elim λdu av=>by
  have:=congrArg ua (c4 ak av);exact congrArg abR (abS this).1
 exact congrArg V.tup (ai h us n m items YMS Ymx Y9V (aa e q))
theorem aK.inj{v:V}:HS v:=V.rec (motive_1:=HS) (motive_2:=Pb) YrJ Y9f
 (λi h u n m x d eJ r bI=>r.elim λt e=>(aK.int_is (aV e bI:aK h Y6z u)).symm)
 (λk h u n m x d eJ r bI=>r.elim λt e=>e.elim λs e=>by
  cases u with
  |str oq=>exact bI.elim λdg bk=>bk.elim λs' bk=>congrArg V.str (AA e.1 ((axR (cA e.2 bk.2)).1▸bk.1))
  |int j=>exact bI.elim λdg bk=>hn (cA e.2 bk)
  |tup us=>exact bI.gj.elim λa q=>q.elim λym q=>hn (cA e.2 q.1)
  |_=>exact YVv)
 Y9f Y9f ads
 (λh us n m xs d eJ r bI=>us.casesOn (motive:=λus=>ZAa→[]=us) Zm (λu us bI=>bI.un λy bf e O O=>Yga) bI)
 (λv vs ak av h us n m xs d eJ r bI=>r.un λy bf e a b=>by
  cases us with
  |nil=>exact absurd (cA e bI.jh) Y03
  |cons u us=>
   refine bI.un λmP AB bk jf kO=>?_;have aC:=g4 (cA e bk);exact dG d λbD bC=>dG eJ λeg d1=>aT (ak h u n m y bD eg a (aa YAM jf)) (congrArg _ (av h us n m bf bC d1 b (aa YAN kO)))) v
abbrev DX(prog:Program)(w:World)(E:Y8)(v:V):Y1:=∀(u:V)(n m:Nat)(A:Around)(s:Shared)(x y:Value)(Q:Y1n),Y7f→YTk→YGP→YQQ→Y2k→Yfx→
  Q YSb s→wpAny YR A Yjr Q E s
abbrev DY(prog:Program)(w:World)(E:Y8)(vs:Y3):Y1:=∀(us:Y3)(n m:Nat)(A:Around)(F:Fin)(f:Z8U)(s:Shared)(xs bf:Yn)(Q:Z5n),
  (∀x y r(Q':Z46)s,wpAny YR A Yjr (λb s'=>if Y6F then YeZ else Q' (Y6w Yyr) s') E s→ZdY)→
  YDh→Yn1→DQ vs us=true→YQQ→Y39→ZAe→
  ZWz→(ZWy→Q Yyr s)→Zda
theorem adt{E:Y8}(vs:Y3)(ai:Z3X):DX prog w E ZZ:=by
 intro u n m A s x y Q d eJ c bj r bI h
 cases u with
 |tup us=>
  cases n with
  |zero=>exact YHT
  |succ n=>
  cases m with
  |zero=>exact YVv
  |succ m=>
  refine ZY8;have AD:=YM5;have wm:=YVA;refine YBC λDZ HU=>YL3 λadu wo=>ix q.1 (jg Y3D YXr);show wpAny _ _ (if YxU then _ else _) Q E s;by_cases wq:YxU
  ·refine cb (if_pos wq) ?_;replace h:=aQ Y3r (eT (aK.inj s.heap _ _ _ _ d eJ r (bS.1.trans (cA (eq_of_beq wq) YHe)▸bI)) h);exact Yhh
  ·refine cb (if_neg wq) (bd (wpAny_richCompare_same_room (op:=.Eq) AD wm abQ (wpAny_call_entry abQ AD F.entry_tuple_eq ?_ (F.args_tuple_eq_2 _ _)) ZFx));show Zdq;refine ZGn;have aE:(items.toArray.size==HT.toArray.size)=(vs.length==us.length):=bW Ac (bW Ac (aT YMp (congrArg _ YhZ)));have ar:=adj vs us;replace ar:=aL Z3O ar;refine ai us n m _ (Y6w (YS Y1A)) _ _ _ _ _ Zkt YMS Ymx (DR vs us▸c) ZFy Yq YAU YO8 YO8
   ·cases b with
    |true=>exact ZJN
    |false=>exact cb ZRM ZGq
   ·refine Ze6;replace ar:=bL Zec ZMU;exact aa (aE.trans ar) h
   ·refine Ze6;replace ar:=aQ (NG ..) ZMU;exact aa ar h
 |_=>exact Y9R
theorem adv{E:Y8}(v:V)(vs:Y3)(ak:Z3W)(av:Z3X):DY prog w E Y0O:=by
 intro us n m A F f s xs bf Q hf d eJ c bj r bI h h';refine ZYE
 cases us with
 |nil=>(refine ZCm);exact YqN
 |cons u us=>
  refine bI.un λmP AB bk jf kO=>dG d λbD bC=>dG eJ λeg d1=>dG c λdD w2=>?_
  (refine ZCr)
  refine bd (hf _ _ _ _ _ (ak u n m A s _ _ _ bD eg dD bj a jf ?_));have ar:ZWx:=rfl
  (rw[ar]at h;rw[ar]at h')
  cases q:YSb with
  |true=>(rw[q,xY]at h;rw[q,xY]at h');exact aa Y0c (av us n m A F f s _ _ Q hf bC d1 w2 bj b kO h h')
  |false=>rw[q,NG]at h';exact aa Y2s Zdy
theorem yq{E:Y8}{v:V}:Z3W:=V.rec (motive_1:=DX prog w E) (motive_2:=DY prog w E) Zfz YIX
 (λi u n m A s x y Q d eJ c bj r bI h=>r.elim λt e=>by
  cases u with
  |int j=>exact bI.elim λdg bk=>aa e (bk▸wpAny_eqBool_int h)
  |_=>exact Y9R)
 (λi u n m A s x y Q d eJ c bj r bI h=>r.elim λt e=>e.elim λz e=>by
  cases u with
  |str j=>exact bI.elim λdg bk=>bk.elim λk9 bk=>aa e.2 (bk.2▸wpAny_eqBool_str (HR e.1 bk.1▸h))
  |_=>exact Y9R)
 YIX YIX adt (λus n m A F f s xs bf Q hf d eJ c bj r bI h h'=>ZI7) adv v
theorem kds_all{p:Y3n}{n:Nat}(ar:ZmI)(vs:Y3)(h:Zd7):YDh:=by
 induction vs with
 |nil=>rfl
 |cons v vs ai=>exact have h:=Y1q;lF ⟨ar v h.1,YSO⟩
theorem Pc{p:Y3n}(ar:ZmD)(vs ws:Y3)(h:Zd7)(h':ws.all p=true):Z3Q=true:=by
 induction vs generalizing ws with
 |nil=>rfl
 |cons v vs ai=>
  cases ws with
  |nil=>rfl
  |cons w ws=>exact have h:=Y1q;have h':=cL h';lF ⟨ar v w h.1 h'.1,ai ws h.2 h'.2⟩
theorem V.kr{v:V}(h:YEB):∃n,v=ZM:=by cases v with | str n=>exact YtA | _=>exact Y0L
theorem V.jM{v:V}(h:YEA):∃n,v=Y8Q:=by cases v with | int n=>exact YtA | _=>exact Y0L
theorem V.ph{v:V}{f:Y5L}(h:Zcg):∃vs,YI7∧f vs=true:=by cases v with | tup vs=>exact⟨vs,rfl,h⟩ | _=>exact Y0L
theorem HV{p:Y3n}(h:sD p vs=true):∃n r,vs=ZM::r∧r.all p=true:=by
 cases vs with
 |nil=>exact Y0L
 |cons a r=>exact have h:=Y1q;(V.kr h.1).elim λn e=>⟨n,r,YAm,h.2⟩
theorem HW{p:Y3n}{n:Nat}(ar:ZmI)(v:V)(h:Zcf):Yj9:=
 YOX λvs e=>YuS λk q=>q.elim λr q=>aT e.1 (aj Ymw (aT q.1 (kds_all ar r q.2)))
theorem HX{p:Y3n}(ar:ZmD)(v u:V)(h:Zcf)(h':u.eM false ZZE=true):YGP:=
 YOX λvs e=>YuS λk q=>q.elim λr q=>Yuv λus bk=>(HV bk.2).elim λoq bS=>bS.elim λbI bS=>aT e.1 (aX bk.1 (aj Z3R (aT q.1 (aX Y3D (Pc ar r bI q.2 Y1p)))))
theorem HY(n:Nat)(v:V)(h:YEA):Y7f:=YOW ZgP
theorem Pd(v u:V)(h:YEA)(h':Zbe):YGP:=YOW λO e=>aa e h'
theorem adw(n:Nat):∀v,YGe→Y7f:=by
 induction n with
 |zero=>exact Zc
 |succ n ai=>exact HW ai
theorem adx(n:Nat):∀v u,YGe→fV n u=true→YGP:=by
 induction n with
 |zero=>exact YIb
 |succ n ai=>exact HX ai
theorem D0(v:V):Zlv:=V.rec (motive_1:=λv=>Zlv) (motive_2:=λvs=>∀n,YDh→md vs (n+1)=true) YBZ Y4T Y4T Y4T Y4T Y4T
 (λvs ai n=>n.casesOn nb λn h=>(mO vs (n+1)).symm▸ai n (mO vs n▸h)) YBZ (λO O a b n h=>have h:=Y1q;lF ⟨a n h.1,b n h.2⟩) v
theorem Pe{v:V}{n m:Nat}(l:YB5)(h:Y7f):dI v m=true:=l.rec h λO ai=>D0 v _ ai
theorem Pf{P:Y1}{c:Nat}{v:V}(h:YLm)(ak:c=1→YEB→P)(av:c=2→YEA→P)(aP:YQN→P):P:=by
 cases c with
 |zero=>exact Y0L
 |succ c=>
 cases c with
 |zero=>exact ak rfl h
 |succ c=>
 clear ak
 cases c with
 |zero=>exact av rfl h
 |succ c=>exact aP (fp 3 c)
theorem qh{c:Nat}{v:V}(ao:YQN)(h:YLm):YTl∧ZmX∧∀u,ZP3→YGP:=by
 have T:∀{v:V}{f:Y5L},Zcg→ZmX:=λh=>(V.ph h).imp ZgW
 cases c with
 |zero=>exact Ygc
 |succ c=>
 cases c with
 |zero=>exact Ygc
 |succ c=>
 cases c with
 |zero=>exact Ygc
 |succ c=>
 cases c with
 |zero=>exact⟨Pe Y0J (HW Z4L v h),T h,λu=>HX Pd v u h⟩
 |succ c=>
 cases c with
 |zero=>exact⟨adw 8 v h,T h,λu=>adx 8 v u h⟩
 |succ c=>
 clear ao
 cases c with
 |zero=>
  refine YOX λvs q=>⟨Pe (n:=2) Y2 ?_,⟨vs,q.1⟩,λu h'=>Yuv λus bS=>?_⟩
  ·exact aT q.1 (aj Ymw (kds_all (HW Z4L) vs q.2))
  ·exact aT q.1 (aX Y3D (aj Z3R (Pc (HX Pd) vs us q.2 Y1p)))
 |succ c=>exact Y0L
def HZ(prog:Program)(w:World)(c:Nat)(ao:YQN):HeapKind prog w V where
 is:=λh v a=>YLm∧aK h YA v
 hash:=Yjh
 draws:=iT
 room:=λA=>Y3V
 inj:=λx y=>aK.inj _ _ 8 8 _ (qh ao x.1).1 (qh ao y.1).1 x.2 y.2
 keeps:=λx aA hd hs=>⟨x.1,YqW λa o e t=>(Y1H a λq=>by
  subst q;have e:=congrArg ua (c4 aA e);exact t.elim (λz=>YIP λvs z=>vX (cA hd (e.trans z))) λz=>z.elim λxs z=>z.elim λn z=>vX (cA hd (e.trans ZK1))).trans e⟩
 pyHash:=λbj aR h=>Pa 8 _ _ _ _ YyL YLj aR.2 h
 eqBool:=λbj aq bb h=>yq _ 8 8 _ _ _ _ _ ZXt.1 (qh ao Y7Z).1 (ZXt.2.2 _ Y7Z) YLj Y6E Y7a (adq _ _▸h)
 quiet:=λaR h=>HQ 8 _ _ _ _ YyL aR.2 h
abbrev dm:=YCN
def j1(es:dm)(k:V):Y0X:=es.rec none λe O ai=>cond Y1z YNH (ai.map Y3l)
def c8(es:dm)(k:V):Yp:=es.rec none λe O ai=>cond Y1z YpI ai
def eE(es:dm)(k v:V):dm:=es.rec [YJG] λe es ai=>cond Y1z Ywe ZLn
def qi(es:dm)(k:V):dm:=es.rec [] λe es ai=>cond Y1z es ZLn
theorem ady{f:YIV}{o:Y7E}(h:o.map f=none):o=none:=Option.map_eq_none_iff.mp h
variable{es:dm}
theorem ur{k:V}(h:Y9I=none):k∉Y1W∧YiK=none∧∀v,YTw=es++[YJG]:=by
 induction es with
 |nil=>exact⟨cS,rfl,Zm⟩
 |cons e es ai=>
  have hd:ZRt:=rfl;have av:YiF:=rfl;have aP:ZmB:=Zm;replace h:=aQ hd h
  cases q:Y1z with
  |true=>replace h:=YGn;exact cW h
  |false=>
   replace h:=YGn;have ai:=ai (ady h);refine⟨λm=>(dz m).elim (λz=>h8 (cA q (uq.mpr z.symm))) Y7R,?_,λv=>?_⟩
   ·exact aj av (dT q YCi.1)
   ·exact aj YS9 (dT q (congrArg YaH (YCi.2 v)))
theorem uu{k:V}{i:Nat}(h:Y9I=some i):∃v,YD7=ZaJ∧YiK=Ym∧(∀u,eE es k u=es.modify i λe=>(e.1,u))∧YoL=YUB:=by
 induction es generalizing i with
 |nil=>exact Y08
 |cons e es ai=>
  have hd:ZRt:=rfl;have av:YiF:=rfl;have aP:ZmB:=Zm;have da:ZXu:=rfl;replace h:=aQ hd h
  cases q:Y1z with
  |true=>
   replace h:=YGn;have af:0=i:=Y4u;subst af;exact⟨e.2,congrArg some (iF YWF rfl),by refine ZED;rfl,λu=>by refine ZDu;rfl,by refine aj da YAe;rfl⟩
  |false=>
   replace h:=YGn;refine YZi λj aM=>(ai aM.1).elim λv z=>⟨v,?_⟩
   have H0:j+1=i:=aM.2;clear h;subst H0;exact⟨z.1,by refine ZED;exact Z4,λu=>by refine ZDu;exact congrArg YaH (YYA u),aj da (dT q (congrArg YaH YYB))⟩
theorem adz(i:Nat)(v:V)(h:YEe):(Yws).Nodup:=by
 have e:Yws=Y1W:=by
  clear h
  induction es generalizing i with
  |nil=>cases i <;> rfl
  |cons e es ai=>cases i with
   |zero=>rfl
   |succ i=>exact congrArg (e.1::·) (ai i)
 exact aV e.symm h
theorem adA(i:Nat)(h:YEe):((es.eraseIdx i).map Yh).Nodup:=axT ((List.eraseIdx_sublist es i).map _) h
theorem adB{k v:V}(h:YEe)(az:k∉Y1W):((es++[YJG]).map Yh).Nodup:=by
 exact aL dK (xZ xU (⟨h,Y7t,λa aD b ah e=>az ((e.trans YCp:a=k)▸aD)⟩))
theorem d2.length{xs:Z8}(r:Y4w):Zei:=by
 induction es generalizing xs with
 |nil=>exact Yio
 |cons m es ai=>exact r.un λe e6 aJ O O O d=>aa aJ (congrArg Ab Ygp)
theorem d2.get{xs:Z8}(r:Y4w){i:Nat}{m:Y69}(q:YD7=Y2y):∃e,Yqm∧YLT∧YFq∧YS3:=by
 induction es generalizing xs i with
 |nil=>exact g7 q xV
 |cons m0 es ai=>
  refine YWm
  cases i with
  |zero=>exact⟨e,YgO,YCv▸⟨a,b,c⟩⟩
  |succ i=>exact aa aJ (ai d q)
theorem d2.append{xs bf:Z8}{fs:dm}(r:Y4w)(q:d2 w h bf fs):d2 w h Yqg (es++fs):=by
 induction es generalizing xs with
 |nil=>exact ZCg
 |cons m es ai=>exact r.un λe e6 aJ a b c d=>aa aJ (d2.cons a b c Ygp)
theorem d2.modify{xs:Z8}(r:Y4w){v:V}(q:Y2F)(i:Nat):d2 w h (xs.modify i λe=>{e with val:=x}) (es.modify i ZiB):=by
 induction es generalizing xs i with
 |nil=>exact Y32▸(by cases i <;> rfl)
 |cons m es ai=>
  refine YWm
  cases i with
  |zero=>exact aa aJ (d2.cons a b q d)
  |succ i=>exact ZB3
theorem d2.eraseIdx{xs:Z8}(r:Y4w)(i:Nat):d2 w h YNj YUB:=by
 induction es generalizing xs i with
 |nil=>exact YyR
 |cons m es ai=>
  refine YWm
  cases i with
  |zero=>exact aa aJ d
  |succ i=>exact ZB3
theorem d2.findIdx{xs:Z8}(r:Y4w){k:V}{p:DictEntry→Bool}(ar:∀e m,m∈es→YFq→p e=YhH):xs.findIdx? p=Y9I:=by
 induction es generalizing xs with
 |nil=>exact YSH
 |cons m es ai=>
  refine YWm
  (refine aX aJ ZDw;refine aa (ar e m b3 b) (dU (ai d λe m hm=>ar e m (eI _ hm)) ?_))
  show _=cond YhH YNH Yte
  cases YhH <;> rfl
theorem d2.mem{w:World}{h:Heap}{xs:Z8}{es:dm}(r:Y4w){e:DictEntry}(he:e∈xs):∃m,m∈es∧YLT∧YFq:=by
 induction es generalizing xs with
 |nil=>exact absurd (aV Y32 he) cS
 |cons m es ai=>
  exact r.un λbk e6 aJ a b c d=>(dz (aV aJ he)).elim (λz=>⟨m,b3,(congrArg DictEntry.hash z).trans a,aX z b⟩) λz=>(ai d z).imp λm q=>⟨eI _ q.1,q.2⟩
abbrev ie(c:Nat)(es:dm):Y1:=hR (YEe) (∀e∈es,Ykl)
theorem D1{c:Nat}{v:V}(h:YLm):YTl:=Pf h (λO h=>YZs ZgP) (λO h=>HY 8 v h) λq=>(qh q h).1
variable{key:Value}
theorem adC{E:Y8}{xs:Z8}{k:V}(ao:k.isStr=true)(pj:∀e∈es,ZLc)(aA:Y9Y)(r:YTi)(eV:YKi){Q:YRI}(h:YRP):YXq:=by
 refine(V.kr ao).elim Ys7;subst e;refine eV.elim λt q=>q.elim Zkr;have aq:ef w ZM=Yal x:=congrArg Ys8 q.1;refine jg aq (ix q.2 ?_);refine wpAny_dictFind_of (knd:=YHU) (k:=x) (strKind_is prog w _ t) aA rfl Yrj ?_
 ·refine YyN λm hm=>(V.kr ZWr).elim λj aM=>(ZBT:ZBF).elim λu z=>z.elim λy z=>⟨y,aa z.2 Zaz,ZQf ?_⟩
  refine aX aM ?_;exact congrArg Ys8 z.1
 ·rw[axV,r.findIdx (k:=ZM) Zi8]
  ·exact h
  ·refine(V.kr ZWq).elim λj aM=>(aM▸b:ZBF).elim λu z=>ZfG;refine aX z.2 (aj (axW Zaz ..) (dS aM (aL (O8 ..) ?_)));exact HR q.1 z.1
theorem adD{E:Y8}{xs:Z8}{k:V}(ao:k.isInt=true)(pj:∀e∈es,e.1.isInt=true)(aA:Y9Y)(r:YTi)(eV:YKi){Q:YRI}(h:YRP):YXq:=by
 refine(V.jM ao).elim Ys7;subst e;refine eV.elim YsJ;refine ix q ?_;have H2:∀(i:Int)(t:Tok),(abT prog w).is i Y6z=true:=λi t=>intKind_is prog w i t;refine Y0K;intro ayV ayW;refine wpAny_dictFind_of (knd:=ZDE) (k:=n) (H2 _ t) aA rfl Yrj ?_
 ·exact YyN λm hm=>(V.jM ZWr).elim λj aM=>(ZBT:ZBE).elim λu z=>⟨j,aa z Z4H,ZQf (aa aM rfl)⟩
 ·rw[axV,r.findIdx (k:=Y8Q) Zi8]
  ·exact h
  ·refine(V.jM ZWq).elim λj aM=>(aM▸b:ZBE).elim λu z=>?_;refine aX z (aj (axW Z4H ..) (dS aM ?_));exact sy ((decide_eq_true_iff.trans eq_comm).trans (beq_iff_eq (a:=j) (b:=n)).symm)
theorem adE{E:Y8}{c:Nat}{xs:Z8}{k:V}(q:YQN)(ao:Ykm)(D:YDP)(aA:Y9Y)(r:YTi)(eV:YKi)(bj:Y3V){Q:YRI}(h:YRP):
  YXq:=by
 have isRef:∀{v:V}{x:Value},YLm→Y2k→∃a,Y83:=λaO bg=>(qh q aO).2.1.elim λvs e=>(aV e bg:aK s.heap _ ZZ).gj.imp λa z=>z.elim Zgd;have adF:∃l:List (V×Addr×Value),xs=l.map (entryOfKey Z4M)∧YDa=Y1W∧∀x∈l,(HZ prog w c q).is s.heap x.1 Y2K:=by
  have pj:=D.2;clear D aA h
  induction es generalizing xs with
  |nil=>exact⟨[],Y32,rfl,ZgU⟩
  |cons m es ai=>
   refine r.un λe e6 aJ ak av aP bI=>?_;have Pg:=pj m b3;refine(ai bI λx aq=>pj x ZMF).elim λl z=>(isRef Pg av).elim λb ah=>⟨(m.1,b,e.val)::l,?_,congrArg (m.1::·) Z4,YOH⟩
   ·refine aj aJ (aL mF (aX z.1 (congrArg (·::l.map _) ?_)));show(⟨e.hash,e.key,e.val⟩:DictEntry)=_;refine dT ak (aT ah ?_);rfl
   ·exact YJ9 (λz=>z▸⟨Pg,aV ah av⟩) (Z3 x)
 refine(isRef ao eV).elim Zh4;subst aD;refine adF.elim λl z=>?_;have at_:∀{j:Nat}{m:Y69},es[j]?=Y2y→∃p,l[j]?=some (m.1,p):=λ{j m}aM=>by
  have:YOz[j]?=some m.1:=by rw[Z4,gy,aM];rfl
  replace this:=aQ (gy) this;exact(Al this).elim λp ar=>⟨p.2,aV Y7T Y8s⟩
 have wt:(YDa).Nodup:=Zf9▸D.1;refine wpAny_dictFind_heap (knd:=Z4M) (k:=k) bj ⟨ao,eV⟩ aA rfl (z.1) Z3 wt (λuv=>?_) λj p aM=>?_
 ·cases y:Y9I with
  |none=>exact y▸h
  |some i=>exact YzC λv aO=>YvS λp ar=>absurd ar (uv i p)
 ·have aJ:YOz[j]?=Y6e:=by rw[gy,aM];rfl
  cases y:Y9I with
  |none=>
   have:=et (Z4▸aJ);exact absurd this (ur y).1
  |some i=>
   refine YzC λv aO=>YvS λdV ar=>?_;have aC:YOz[i]?=Y6e:=by rw[gy,ar];rfl
   have af:j=i:=(xX ((jJ aJ).elim Y6i) wt).mp (aJ.trans aC.symm);exact aa af (y▸h)
theorem D2{E:Y8}{c:Nat}{xs:Z8}{k:V}{Q:YRI}(ao:Ykm)(D:YDP)(aA:Y9Y)(r:YTi)(eV:YKi)(bj:Y3V)(h:YRP):
  YXq:=
 Pf ao (λe q=>adC q Zhm aA r eV h) (λe q=>adD q Zhm aA r eV h) λq=>adE q ao D aA r eV bj h
theorem yr{E:Y8}{c:Nat}{k:V}{Q:YdL}(ao:Ykm)(eV:YKi)(bj:Y3V)(h:Q ZMc {s with toks:=s.toks+iT k}):wpAny YR A (pyHash key) Q E s:=
 Pa 8 _ _ _ _ (D1 ao) YLj eV h
abbrev dd(A:Around)(k:Nat):Y1:=jd (A.depth+2*k+2<1000) (A.units+20*k+60<9900) Zf
theorem d4(h:YfS):a+60<9900:=DS h YW
theorem dd.D3(r:Z5):A.units+60<cLine:=d4 r.2
theorem dd.ot(r:Z5):Yck:=fF (dH (dw A.units 1 20)) (fF (c0 (show 1+20≤60 by exact Y2) _) r.D3)
theorem dd.adG(r:Z5):Y3V:=fF (c0 (show 20≤60 by exact Y2) _) r.D3
variable{j:Nat}
theorem dd.le(r:Z5)(h:YmG):dd A j:=⟨fF (h7 (c0 (iu 2 h) _) 2) r.1,fF (h7 (c0 (iu 20 h) _) 60) r.2,r.3⟩
theorem fZ{n:Nat}(h:YB4):ZVl:=Nat.le_trans h YSu
theorem fit{n:Nat}(h:YB4):Y0q<YQM:=Z4N
def V.iU{α:YKM}(v:V)(d:α)(f:YeB):α:=v.mb d λz=>Int.casesOn z f YIc
def gp(Q:Yj)(v:Value)(s:Shared)(mh:ag):Y1:=∃m,Y3X∧YAC
def adH(Q:Ys)(v:Yn)(s:Shared)(mh:ag):Y1:=∃m,a9 s.heap v m∧YAC
abbrev uw(Q:Y6)(_:Unit)(_:Shared)(mh:ag):Y1:=Q mh
inductive D4(m:ag)(a:Nat)(o:ct)(Q:Yj):Y1
 |mk (t:Nat) (h:YeQ):Z3L
variable{m:ag}{Q:Yj}
theorem D4.elim{o:ct}{P:Y1}(h:Z3L)(f:∀t,YeQ→P):P:=h.casesOn f
def alloc(mh:ag)(o:ct)(Q:Yj):Y1:=∀a,Y9O→D4 mh a o Q
inductive wu(p:Y1)(o:Yp)(m:ag)(Q:Yj):Y1
 |mk (l:p) (v:V) (h:o=Ym) (q:Y37):ZeE
abbrev ux(p:Y1)(v:V)(m:ag)(Q:Yj):Y1:=hR p Y37
abbrev D5(p dV:Y1)(v:V)(m:ag)(Q:Yj):Y1:=jd p dV Y37
abbrev D6(p dV D7:Y1)(v:V)(m:ag)(Q:Yj):Y1:=hr p dV D7 Y37
abbrev uy(p:Y1)(b:Bool)(Q:YFE):Y1:=hR p (Q b)
theorem wu.un{p:Y1}{o:Yp}(h:ZeE):p∧∃v,o=Ym∧Y37:=h.casesOn λl v h q=>⟨l,v,h,q⟩
theorem ux.un{p:Y1}{v:V}(h:ux p v m Q):p∧Y37:=ZPz
variable{dV:Y1}
theorem D5.un{p:Y1}{v:V}(h:D5 p dV v m Q):p∧dV∧Y37:=ZPy
theorem D6.un{p D7:Y1}{v:V}(h:D6 p dV D7 v m Q):p∧dV∧D7∧Y37:=h.casesOn λl l' adI q=>⟨l,l',adI,q⟩
theorem uy.un{p:Y1}{b:Bool}{Q:YFE}(h:uy p b Q):p∧Q b:=ZPz
theorem me{X:Yo}{v:Value}{m:V}(t:Nat)(ae:YU)(bz:Y3X)(h:YAC):hy g X s mh Zh v YrA:=⟨mh,ae.toks t,Step.toks t,m,bz,h⟩
theorem qj{X:Yo}{v:Value}{m:V}(ae:YU)(bz:Y3X)(h:YAC):hy g X s mh Zh v s:=⟨mh,ae,Yy,m,bz,h⟩
theorem adJ{X:Yo}{v:Value}{m:V}(ae:YU)(b5:Y7k)(cR:Y56)(aA:Y4P)(bz:ZBB)(h:YAC):hy g X s mh Zh v s':=⟨mh,ae.grow b5 cR aA,.grow b5,m,bz,h⟩
theorem hH(h:Heap)(o:Obj):hU h (h.push o):=λO O e=>eu o e
variable{ms:Y3}
theorem D8{X:Yo}{vs:Yn}(ae:YU)(r:ZAf)(h:alloc mh Yba Q):hy g X s mh Zh Y2B Yr7:=
 (h _ YKo).elim λu q=>⟨_,ae.new (o:=Yba) (s':=Yr7) Y51 Y1f rfl rfl ⟨vs,0,ZW,ZYA⟩,Step.new (s':=Yr7) Y51 Y1f,_,Y7M,q⟩
theorem D9{X:Yo}{vs:Yn}(ae:YU)(r:ZAf)(ok:hv ms=true)(h:Q (YD ms) mh):hy g X s mh Zh Y2B Zfi:=
 adJ (s':=Zfi) ae Y51 rfl rfl (iz.HK ⟨_,_,rfl,Zmg,ZYA⟩ ok) h
theorem a5.list{P:Y1}(ae:YU)(h:Y0d=some (t,Yba))(f:∀xs ep,YWx→ZAg→P):P:=YvJ λxs z=>z.elim λep z=>f xs ep z.1 z.2
theorem a5.dict{c:Nat}{P:Y1}(ae:YU)(h:YVi)(f:∀xs ep,Y0u=Y9a→Yiz→YDP→P):P:=YvJ λxs z=>z.elim λep z=>f xs ep z.1 Z4 ⟨YYA,YYB⟩
theorem isList(e:YWx):s.heap.IsList a Z1:=⟨_,e,rfl,ep,rfl⟩
theorem ou(e:YWx):s.TypeIs YA "list":=Yt3
theorem mf{xs:Z8}(e:Y0u=Y9a):s.TypeIs YA "dict":=Yt3
theorem Ea{o o':Obj}{f:Z5j}(aA:YDJ)(hf:f o=o')(adK:o'.isFreed=false):(h.update a f).get? a=YXJ:=hf▸q7 f aA (aa hf adK)
theorem pk(e:Y3w):YEa=YQ:=YPA e
theorem eN(xs:Yn):Yvk:=Ac
variable{cF:Value}{dF:Value}
theorem adL{X:Yo}{a b:Y3}(ae:YU)(cG:ZBC)(cP:ZBD)(hz:a.length+b.length≤1000001)(ok:hv YfR=true)(h:Q (YD YfR) mh):fW g A X s mh (binaryOp .Add cF dF) Zh:=by
 refine cG.gj.elim λx q=>q.elim λxs q=>cP.gj.elim λy bS=>bS.elim λbf bS=>?_;have ex:∀{z:Addr}{zs:Yn}{Q':Y1n}{E:Y8},TupAt s.heap z zs→Q' true s→wpAny Yu A.in1 (Builtin.Tuple.tupleIsExact Y3T) Q' E s:=λhz aF=>by
  exact bd (wpAny_typeOf (iz.type hz) YIF)
 refine YBC λn adM=>YL3 λey adN=>aT q.1 (aX Y3D (wpAny_binaryOp_concat YM5 YVA noFill_tuple_add PySem.seq_tuple_add (wpAny_call_entry F.slot_tuple_add YM5 F.entry_tuple_add ?_ (F.args_tuple_add_2 _ _))));show wpAny _ _ (isInstance YA4 Y2h >>= _) _ _ s;refine bd (wpAny_isInstance YVA isSubtype_tuple_tuple ZJM);intro adO adP ayX;refine bd (wpAny_tupleItemsOf adM rfl (bd (wpAny_tupleItemsOf adN rfl ?_)));have nil:∀{zs:Yn}{vs:Y3},(bT zs).isEmpty=true→a9 s.heap zs vs→vs=[]:=λe r=>p5 (cA r.length (cA (eN _) (Array.isEmpty_iff_size_eq_zero.mp e)));by_cases ak:Yvj=true
 ·refine cb Yls ?_;have e:=nil ak Yq;subst e;exact bd (ex YSm (bd (wpAny_rule (bd (wpAny_pure (wpAny_pure ⟨_,rfl,qj ae (aV Y3D cP) h⟩))))))
 ·refine cb Ylk ?_;by_cases av:(bT bf).isEmpty=true
  ·refine cb Ylt ?_;have e:=nil av YAU;clear cP;subst e;replace h:=bN Y1U h;exact bd (ex YG (bd (wpAny_rule (bd (wpAny_pure (wpAny_pure ⟨_,rfl,qj ae (aV q.1 cG) h⟩))))))
  ·refine cb Yll ?_;have e:Z1++Y6G=bT Yqg:=YgX;refine Yg;intro Ph Pj adQ;refine bd (wpAny_newObj_type ?_ ?_)
   ·exact aa e (wpAny_pure ⟨_,rfl,D9 (t:=s.toks) ae (q.2.2.append YAU) ok h⟩)
   ·show(Z1++Y6G).size≤sizeLine;exact aX e (aj Y0D (aj cj (aT YMp (aX YhZ YDD))))
theorem Pk{l:Addr}(e:h.get? l=Y82):IsL h l Z1 ep:=e
variable{k8:Nat}
theorem adR{X:Yo}{b hI:Nat}{cF dF:Y3}(ae:YU)(aD:Y0d=some (k8,Y5 cF))(ah:ZUh)(hz:cF.length+dF.length≤1000001)(h:alloc mh (Y5 (cF++dF)) Q):fW g A X s mh (binaryOp .Add YA Y0B) Zh:=
 ae.list aD λxs n aq bg=>ae.list ah λbf k bb gA=>P.add_list (Pk aq) (Pk bb) (aa YgX (D8 (t:=s.toks) ae (bg.append gA) h)) (aX Y0D (aX Y0D (aT bg.length (aX gA.length YDD))))
theorem adS(v:Value)(n:Nat)(acc:Y1N):Hc Zhp acc (sl n #[v])=acc++bT Yos:=by
 induction n generalizing acc with
 |zero=>exact(axQ).symm
 |succ n ai=>exact aX axX (aj NI (aj Ygn (HB (by simp[axX]))))
theorem a9.replicate{v:Value}{m:V}(r:ZB6)(n:Nat):a9 h Yos (sl n m):=by
 induction n with
 |zero=>exact rfl
 |succ n ai=>exact a9.cons r ai
theorem adT{X:Yo}{n:Int}{e:V}{tk:Tok}(ae:YU)(aD:ZUf)(az:Y2W)(h0:0≤n)(h:alloc mh (Y5 (sl n.toNat e)) Q):fW g A X s mh (binaryOp YPN YA YbX) Zh:=by
 refine ae.list aD λxs k aq bg=>bg.un λv vs aJ b6 dv=>?_;have aC:xs=[v]:=aj aJ (congrArg _ dv.jh);subst aC;have ak:1*n.toNat≤1000:=(NJ _).symm▸Int.toNat_le.mpr az;have fx:Builtin.List.listFitsIndex n=true:=lF ⟨decide_eq_true (NK (b:=0) YC h0),decide_eq_true (Hb az YC)⟩;refine wpAny_binaryOp_repeat_ref (T:="list") (U:="int") YC YWG (λs'=>typeIs_int s' _ tk) noFill_list_mul F.fills_int_mul F.slot_int_rmul repeat_list F.slot_int_index.lookup
  (call_meets F.slot_int_rmul (typeIs_int s _ tk) F.entry_int_rmul (F.args_int_rmul_2 _ _) (int___rmul___int_list _ tk a Yhb k)
   ⟨aq,rfl,YWG,call_meets F.slot_list_mul YWG F.entry_list_mul (F.args_list_mul_2 _ _)
    (AutoListH.list___mul___list_int_3 a Yhb k n tk (λh=>nb (fx.trans h.symm)) (sm (au (m:=1000) ak Y2)) (λh=>absurd ZWD (sm (fZ (au ak Y2)))))
    ⟨aq,?_⟩⟩)
 have e:Hc Zhp #[] (sl (if(bT [v]).isEmpty=true then 0 else n.toNat) Yhb)=bT (sl n.toNat v):=(adS v n.toNat #[]).trans axP;exact aa e (D8 (t:=s.toks) ae (a9.replicate b6 n.toNat) h)
theorem adU{X:Yo}{n:Nat}{e:V}{tk:Tok}(ae:YU)(aD:ZUf)(az:Y2W)(h:alloc mh (Y5 (sl n e)) Q):fW g A X s mh (binaryOp YPN YA (YI Y0q tk)) Zh:=
 adT ae aD (Dk.mpr az) Yq8 h
theorem adV{X:Yo}{v:Value}{m:V}{t:Tok}(ae:YU)(r:ZBG)(hz:Y2Z)(e:YIB=Y2y)(h:YAC):fW g A X s mh (getItem v (YI Y3k t)) Zh:=by
 refine r.gj.elim λa q=>q.elim λxs q=>(q.2.2.get e).elim YOH;have aE:ZQy:=(jJ Y4F).elim Y6i;refine aT q.1 (getItem_tuple (items:=Z1) ZXX (NK (b:=0) YC YXk) (fit (au (h9 (YMp▸aE)) hz)) (j:=i) ?_ YWV ZXw);unfold seqIndex?;refine ZCa;have:¬Y3k<0:=Int.not_lt.mpr YXk;simp[this,aE]
theorem adW{X:Yo}{m:V}{tk:Tok}(ae:YU)(e:Y3u)(hz:Y2Z)(ig:YIB=Y2y)(h:YAC):fW g A X s mh (getItem YA Z0V) Zh:=
 ae.list e λxs ep aA bg=>(bg.get ig).elim λx aq=>wpAny_getItem_list (items:=Z1) YDS YXk (fit (au (h9 ((jJ ig).elim Y6i)) hz)) YWV ZXw
theorem Pl{f:Z2h}{bf:Y1N}(e:f Z1=bf):l7 f ZS9=⟨Y4c,none,Y45 bf (if bf.size==Y2N then ep else Y94),#[]⟩:=ZCB
theorem AE{X:Yo}{tk:Nat}{e6:Yn}{f:Z2h}{R:YCU}(ae:YU)(e:Y3u)(aA:YWx)(hf:f Z1=bT e6)(bo:∀h',ZMX)(h:R () Zfj ZcL):hy g X s mh R () Zfj:=
 ade ae e YMI (Ea (o':=jZ e6 (if(bT e6).size==Y2N then ep else Y94)) aA (Pl hf) rfl) ZH9 tk h
theorem hy.re{X:Yo}{R:YBY}{sE:β→Y3W}{a:α}{b:β}(h:hy g X s mh R a s')(f:∀m,Yjd→R a s' m→sE b s' m):hy g X s mh sE b s':=h.imp λm z=>⟨z.1,z.2,f m YIO z.3⟩
theorem adX{X:Yo}{v:Value}{m:V}(ae:YU)(e:Y3u)(hz:YXn)(bz:Y3X)(h:Q Y7 ZcI):fW g A X s mh (call YPS [YA,v]) Zh:=
 ae.list e λxs ep aA bg=>call_meets abV YDp F.entry_list_append ZFA (axZ a Z1 ep v ZE5)
  ⟨aA,(AE (R:=λO O ab=>ab=ZcI) (tk:=s.toks) ae e aA YgY (λh' kt=>Yvn (a9.cons YL7 a9.nil)) rfl).re ZhH⟩
theorem adY{X:Yo}{dF:Y3}{b hI:Nat}(ae:YU)(e:Y3u)(cM:ZUh)(hz:vs.length+dF.length≤1000000)(h:Q Y7 ZcJ):fW g A X s mh (call (ZK "list.extend") [YA,Y0B]) Zh:=
 ae.list e λxs ep aA bg=>ae.list cM λbf adZ wo gA=>
 have aE:Y2N+YOc≤sizeLine:=by rw[eN,eN,bg.length,gA.length];exact YGf
 call_meets F.slot_list_extend YDp F.entry_list_extend (F.args_list_extend_2 _ _)
  (AutoSeq1.list_extend_list_list_0 a Z1 ep b Y6G adZ (λh=>absurd ZWA (sm aE)) (aj Y0D (aj bg.length (fZ (au Yk ZTE)))) (kn aE))
  ⟨aA,wo,(AE (R:=λO O ab=>ab=ZcJ) (tk:=s.toks) (f:=(·++Y6G)) ae e aA YgX (λh' kt=>Yvn (gA.keep kt)) rfl).re ZhH⟩
theorem a9.eraseIdx{xs:Yn}(r:Y0z)(i:Nat):a9 h YNj (vs.eraseIdx i):=by
 induction vs generalizing xs i with
 |nil=>exact YSH
 |cons u vs ai=>
  refine YMv
  cases i with
  |zero=>exact aa aJ b
  |succ i=>exact aa aJ ZAh
theorem Pm(xs:Yn)(i:Nat):Yvi:=by
 refine ZEE
 split
 ·exact ax1 ..
 ·rename_i q;exact ZGZ
theorem ad0{X:Yo}{m:V}(ae:YU)(e:Y3u)(hz:YXn)(aE:vs[YqC]?=Y2y)(h:Q m ZcK):fW g A X s mh (call Z03 Y8j) Zh:=
 ae.list e λxs ep aA bg=>(bg.get aE).elim λx aq=>by
  have fa:Y2N - 1=YqC:=congrArg (· - 1) (YJB bg.length);refine call_meets NL YDp F.entry_list_pop (F.args_list_pop_1 _) (MeetsSeq.list_pop_last a Z1 ep x (aa fa YWV) ZE5)
   ⟨aA,(AE (R:=λO O ab=>ab=ZcK) (tk:=s.toks) ae e aA Z6V (λh' kt=>fa▸Yvo _) rfl).re λab kt q=>⟨m,Ygx,YHg⟩⟩
theorem ad1{X:Yo}{m:V}{tk:Tok}(ae:YU)(e:Y0d=some (t,Y5 (m::vs)))(hz:vs.length≤999999)(h:Q m ZcM):fW g A X s mh (call Z03 [YA,YI 0 tk]) Zh:=
 ae.list e λxs ep aA bg=>(bg.get (i:=0) rfl).elim λx aq=>
  call_meets NL YDp F.entry_list_pop (F.args_list_pop_2 _ _) (MeetsSeq.list_pop_at a Z1 ep 0 tk 0 x YC (PyProof.Rows.seqIndex?_zero (aL Y0D (aL bg.length Y3G))) YWV (aj Y0D (aj bg.length (fZ (kn (dX hz))))))
   ⟨aA,(AE (R:=λO O ab=>ab=ZcM) (tk:=s.toks) ae e aA Z6V (λh' kt=>Yvo 0) rfl).re λab kt q=>⟨m,Ygx,YgS⟩⟩
theorem ad2{X:Yo}{v:Value}{m:V}{Q:Y6}{n:Int}{tk:Tok}(ae:YU)(e:Y3u)(ad3:n<YQM)(h0:0≤n)(af:n.toNat<vs.length)(bz:Y3X)(h:Q (upd mh a (t,Y5 (vs.set n.toNat m)))):fW g A X s mh (setItem YA YbX v) YE8:=
 ae.list e λxs ep aA bg=>by
  have aM:n.toNat<xs.length:=aa bg.length af;refine Yg;intro ayY ayZ ay0;refine wpAny_holding (bd (wpAny_sequenceKey YDp YC (bd (wpAny_callSpecial?_slot (name:=ZN1) YDp F.slot_list_setitem (wpAny_call_entry F.slot_list_setitem YDp F.entry_list_setitem ?_ (F.args_list_setitem_3 _ _ _))))));show wpAny _ _ (Builtin.List.listSubscript? YbX >>= _) _ _ s;refine Yg;intro ay1 ay2 ay3;refine bd (wpAny_listSubscript_int (fitsIndex_of h0 ad3) ?_);clear af;obtain⟨j,rfl⟩:=ax3 h0;show wpAny _ _ ((seqItemAt a j >>= λr=>pure (r.map (j,·))) >>= _) _ _ s;refine bd (bd (wpAny_seqItemAt aA rfl (wpAny_pure (aa (pk (dy (show ZS1 from aM))) ?_))));show wpAny _ _ (setSeqItemAt a j v >>= _) _ _ s;refine Yg;intro ay4 ay5 ay6;exact bd (wpAny_setSeqItemAt aA rfl (wpAny_pure ⟨Y7,rfl,wpAny_pure (AE (R:=YE8) (tk:=s.toks) ae e aA (List.setIfInBounds_toArray ..) (λh' kt=>(bg.keep kt).set _ YL7) h)⟩))
theorem ad4{X:Yo}{v:Value}{m:V}{Q:Y6}{tk:Tok}(ae:YU)(e:Y3u)(hz:Y2Z)(af:Y7n)(bz:Y3X)(h:Q (upd mh a (t,Y5 (vs.set i m)))):fW g A X s mh (setItem YA Z0V v) YE8:=
 ad2 ae e (fit (au YUp hz)) YXk af bz h
theorem Eb{xs:Z8}{x:DictEntry}(e:Y3w):YEa=YQ:=YPA e
theorem AF(xs:Z8):Yvk:=Ac
variable{ec:V}
theorem H3{c:Nat}{Q:Y5M}{xs:Z8}(ao:Y9A)(D:YDP)(aA:Y9Y)(r:Yiz)(eV:YAO)(bj:Y3V)(h0:ZIm=none→Q none Y84)(ak:∀v m,YiJ→Y3X→Q Ym Y84):WP g A ZLI Q s:=by
 refine wpAny_holding (bd (yr ao eV bj (bd (D2 (s:=Y84) ao D aA r eV bj ?_))))
 cases z:YM7 with
 |none=>exact wpAny_pure (h0 YNU.2.1)
 |some i=>
  exact Yb5 λm hm=>YyM λe he=>bd (wpAny_dictEntries (s:=Y84) aA rfl (aa Yd7 (wpAny_pure (ak e.val m Y7l.1 YlP.2))))
theorem Ec{X:Yo}{c:Nat}{kq:dm}{xs:Z8}{Pn tk:Nat}{f:Z5j}{R:YCU}(ae:YU)(e:YB2)(aA:Y9Y)(hf:f YLl=gU e6 Pn)(bo:∀h',ZMY)(D:ie c kq)(h:R () Zfk (upd mh d (t,YbN))):hy g X s mh R () Zfk:=
 adf ae e YMI (Ea aA hf rfl) ZH9 D.1 D.2 tk h
theorem ie.mod{c:Nat}{m:V}{i:Nat}(D:YDP):ie c (es.modify i λe=>(e.1,m)):=by
 refine⟨adz i m D.1,?_⟩;have aR:=D.2;clear D
 induction es generalizing i with
 |nil=>cases i <;> exact aR
 |cons e es ai=>cases i with
  |zero=>exact λx aq=>YJ9 (λz=>z▸ZBo) λz=>aR x ZMH
  |succ i=>exact λx aq=>YJ9 (λz=>aa z ZBo) λz=>ai (λy bb=>aR y YjZ) x z
theorem ie.snoc{c:Nat}{m:V}(D:YDP)(ao:Y9A)(z:YM7=none):ie c ZN3:=⟨adB D.1 YNU.1,λe he=>(iw he).elim (D.2 e) λq=>YGA▸ao⟩
theorem ie.erase{c:Nat}(i:Nat)(D:YDP):ie c YUB:=⟨adA i D.1,λe he=>D.2 e (List.mem_of_mem_eraseIdx he)⟩
theorem ad5{xs:Z8}{v:Value}:Obj.mapDict (·.modify i ZiF) YLl=gU (xs.modify i ZiF) ep:=
 congrArg (λl=>(⟨YA7,none,Y9 l ep,#[]⟩:Obj)) (List.modify_toArray ..)
theorem map_push{xs:Z8}{e:DictEntry}:Hd (YrG e) YLl=gU (xs++[e]) Y94:=congrArg ZjH YgY
theorem Po(xs:Z8)(i:Nat):Yvi:=by
 refine ZEE
 split
 ·exact ax1 ..
 ·rename_i q;exact ZGZ
theorem ad6{xs:Z8}:Hd YzW YLl=gU YNj Y94:=congrArg ZjH (Po xs i)
theorem Pp{xs:Z8}(r:Yiz)(hz:Y6M):Yvl:=ZDs
theorem d2.nil:d2 w h [] []:=rfl
theorem ad7{X:Yo}{c:Nat}{m:V}{v:Value}{R:YCU}(ae:YU)(e:YB2)(ao:Y9A)(eV:YAO)(bz:Y3X)(bj:Y3V)(hz:Y6M)(h:Zm5):WP g A (dictSetHashed d key (ef g.w ec) v) YUx s:=by
 refine ae.dict e λxs ep aA r D=>Yg;intro ay7 ay8 ay9;refine wpAny_holding (bd (D2 ao D aA r eV bj ?_));clear bj
 cases z:YM7 with
 |some i=>
  exact Yb5 λaza hm=>bd (wpAny_rule (bd (wpAny_updateDict aA rfl (wpAny_point (Ec (tk:=s.toks) ae e aA ad5 (λh' kt=>(r.keep kt).modify YL7 i) D.mod ((Y7l.2.1 m▸h) _))))))
 |none=>
  refine Yg;intro azb azc azd;exact bd (wpAny_rule (wpAny_updateDictKeys aA rfl (Ec (tk:=s.toks) ae e aA map_push ZiS Z3J ((YNU.2.2 m▸h) _)) (Pp r hz)))
theorem H4{X:Yo}{c:Nat}{m:V}{v:Value}{R:YCU}(ae:YU)(e:YB2)(ao:Y9A)(eV:YAO)(bz:Y3X)(bj:Y3V)(hz:Y6M)(h:Zm5):WP g A ZLK YUx s:=by
 exact wpAny_holding (bd (yr ao eV bj ((ad7 (ae.toks YHk) e ao eV bz bj hz h).mono λO O z=>z.go (Step.toks YHk))))
theorem ad8{X:Yo}{c:Nat}{m:V}(ae:YU)(aG:Z5)(e:YB2)(ao:Y9A)(eV:YAO)(cR:YiJ)(h:YAC):fW g A X s mh (getItem Y33 key) Zh:=
 ae.dict e λxs ep aA r D=>by
  refine Y0K;intro aze azf;refine wpAny_holding (bd (wpAny_sequenceKey Y54 YC (bd (wpAny_callSpecial?_slot (name:=er "__getitem__") Y54 slot_dict_getitem (wpAny_call_entry slot_dict_getitem Y54 entry_dict_getitem ?_ (args_dict_getitem _ _))))));show Zdi;refine Yg;intro ad9 aea aeb;exact bd (H3 ao D aA r eV aG.ot (λq=>absurd (cA q cR) YZ5) λx ab q bz=>wpAny_pure ⟨x,rfl,wpAny_pure (me _ ae bz ((c4 q cR)▸h))⟩)
theorem aec{X:Yo}{c:Nat}{m:V}{v:Value}{Q:Y6}(ae:YU)(aG:Z5)(e:YB2)(ao:Y9A)(eV:YAO)(bz:Y3X)(hz:Y6M)(h:Q YXg):fW g A X s mh (setItem Y33 key v) YE8:=
 ae.dict e λxs ep aA r D=>by
  refine wpAny_holding (bd (wpAny_sequenceKey Y54 YC (bd (wpAny_callSpecial?_slot (name:=ZN1) Y54 slot_dict_setitem (wpAny_call_entry slot_dict_setitem Y54 entry_dict_setitem ?_ (args_dict_setitem _ _ _))))));show wpAny _ _ (Builtin.Dict.notOrdered "__setitem__" ⟨YfA,[]⟩ >>= _) _ _ s;refine Yhf;show wpAny _ _ (ZLK >>= _) _ _ s;refine Y0K;intro aed aee;exact bd ((H4 (R:=YE8) ae e ao eV bz aG.ot hz λO=>h).mono λO O z=>wpAny_pure ⟨Y7,rfl,Ze5⟩)
theorem a5.ys{x:Nat}{c:Y1D}(ae:YU)(lo:YEV)(e:mh x=Y0M)(mN:c.2.DL=false:=by rfl):(x==sysModules)=false:=
 beq_false_of_ne λq=>lo.elim λo aA=>ae.off aA e mN q.symm
theorem aef{X:Yo}{c:Nat}{m:V}{v:Value}(lo:YEV)(ae:YU)(aG:Z5)(e:YB2)(ao:Y9A)(eV:YAO)(bz:Y3X)(h:Q ((c8 es ec).getD m) mh):
  fW g A X s mh (call (ZK "dict.get") YfA) Zh:=
 ae.dict e λxs ep aA r D=>by
  refine wpAny_call_entry F.slot_dict_get Y54 F.entry_dict_get ?_ (F.args_dict_get_3 _ _ _);show Zdi;refine bd (H3 ao D aA r eV aG.ot YBa λx ab q H5=>wpAny_pure ⟨x,rfl,me _ ae H5 ZHr⟩);show wpAny _ _ (Builtin.Dict.missed d key >>= _) _ _ _;exact bd (wpAny_missed_other Ygk (wpAny_pure ⟨v,rfl,me _ ae bz ZHr⟩))
theorem aeg{X:Yo}{c:Nat}{m:V}{v:Value}(lo:YEV)(ae:YU)(aG:Z5)(e:YB2)(hz:Y6M)(ao:Y9A)(eV:YAO)(bz:Y3X)(h:(c8 es ec).elim (Q m YXg) YsO):fW g A X s mh (call (ZK "dict.setdefault") YfA) Zh:=
 ae.dict e λxs ep aA r D=>by
  refine wpAny_call_entry ax4 Y54 F.entry_dict_setdefault ZGh (F.args_dict_setdefault_3 _ _ _);show wpAny _ _ (pure (d,key,Ym)) _ _ s;refine Zl;show wpAny _ _ (if Yj5=true then _ else(dictSetDefault d key v >>= _)) _ _ s;refine cb (if_neg (dS Ygk h8)) (bd Y0K);intro azg azh;refine wpAny_holding (bd (yr ao eV aG.ot (bd (D2 (s:=Y84) ao D aA r eV aG.ot ?_))))
  cases z:YM7 with
  |some i=>
   refine YzD;replace h:=lG Y7l.1 h;exact bd (wpAny_dictEntries (s:=Y84) aA rfl (iy Yd7 (bd (wpAny_rule (wpAny_pure (wpAny_pure ⟨_,rfl,me _ ae YlP.2 h⟩))))))
  |none=>
   have q:=YNU
   (replace h:=lG YG h;rw[Yq m]at h)
   exact bd (wpAny_rule (bd (wpAny_updateDictKeys (s:=Y84) aA rfl (wpAny_pure (wpAny_pure ⟨_,rfl,(Ec (R:=λO O ab=>ab=upd mh d (t,Y9 c ZN3)) (tk:=YHk) ae e aA map_push
    ZiS Z3J rfl).re λab kt q=>⟨m,YL7,YHg⟩⟩)) (Pp (s:=s) r hz))))
theorem aeh{X:Yo}{c:Nat}{m:V}(ae:YU)(aG:Z5)(e:YB2)(hz:Y6M)(ao:Y9A)(eV:YAO)(cR:YiJ)(h:Q m (upd mh d (t,Y9 c (qi es ec)))):
  fW g A X s mh (call (ZK "dict.pop") [Y33,key]) Zh:=
 ae.dict e λxs ep aA r D=>by
  refine wpAny_call_entry F.slot_dict_pop Y54 F.entry_dict_pop Yg (F.args_dict_pop_2 _ _);intro azi azj azk;refine ZGh;show wpAny _ _ (pure (d,key,none)) _ _ s;refine Zl
  cases z:YM7 with
  |none=>exact absurd (YNU.2.1.symm.trans cR) YZ5
  |some i=>
   refine YzD;have em:=c4 Y7l.1 cR;subst em;rw[Y7l.2.2]at h;have ne:Yvj=false:=by
    cases xs with
    |nil=>exact cW he.1.symm
    |cons x l=>rfl
   have tk:WP g A.in1 ZF9 (λr s'=>r=ZaZ∧s'=Yr9) s:=by
    refine wpAny_holding (bd (yr ao eV aG.ot (bd (D2 (s:=Y84) ao D aA r eV aG.ot (iy z Y0K)))));intro aei aej;refine bd (wpAny_dictEntries (s:=Y84) aA rfl (iy Yd7 ?_));exact bd (wpAny_updateDictKeys (s:=Y84) aA rfl (wpAny_pure Zn) ZDs
     (aX (Po ..) (aj Ycm (aj Ycm (dS r.length (kn (aV r.length (List.length_eraseIdx_le xs i):(xs.eraseIdx i).length≤es.length)))))))
   have fin:∀{α:Y4i}{f:Z5m→Y7G}{P:Y9e},WP g A.in1 (f ZaZ) P Yr9→
     WP g A.in1 (ZF9 >>= f) P s:=λh=>bd (tk.mono λr s' bo=>jg Y4s (aL YGD h))
   have po:hy g X s mh Zh fq.val Yr9:=
    (Ec (R:=λO O ab=>ab=upd mh d (t,Y9 c YUB)) (tk:=YHk) ae e aA ad6 (λh' kt=>(r.keep kt).eraseIdx i) (D.erase i) rfl).re λEd kt q=>⟨_,YlP.2.keep kt,YgS⟩
   dsimp only
   cases keyPart key with
   |some _=>
    exact bd (wpAny_pure (cb Y2s ZOI))
   |none=>
    refine bd (wpAny_dictEntries aA rfl YGC)
    (refine aa ne YTX)
    exact ZOI
def V.isBool(v:V):Bool:=v.Ay false Y29
def j2(a b:V):Bool:=ZAB||(dI a 8&&(dI b 8&&YAb))
theorem V.Ee{v:V}(h:v.isBool=true):∃n,v=YK n:=by cases v with | bool n=>exact YtA | _=>exact Y0L
theorem Pq{a b:V}{P:Y1}(h:Ym6)(ak:∀x y,a=YJX→b=YPR→P)(av:ZKc→dI b 8=true→ZJl→P):P:=
 Y8M (λq=>have q:=YAX;(V.Ee q.1).elim λx e=>(V.Ee q.2).elim λy bk=>ak x y e bk) λq=>have q:=YAX;have bS:=cL q.2;av q.1 Y3D Y1p
theorem aek{a b:Bool}{E:Y8}{P:Y1n}(h:P YKe s):wpAny YR A (eqBool (YK a) Y1x) P E s:=by
 refine YXr
 cases a <;> cases b <;> first | exact Yhh | exact Y1u | (exact bd (eq_bool (wpAny_truthy_bool h)))
theorem Pr{a b:V}{P:Y1n}{E:Y8}(he:Ym6)(bj:Y3V)(cG:YS5)(cP:YS6)(h:P Y1S s):wpAny YR A (eqBool cF dF) P E s:=
 Pq he (λx y e bk=>by subst e bk;exact aa (cG:cF=YJX) ((cP:dF=YPR)▸aek h)) λd eJ c=>yq _ 8 8 _ _ _ _ _ d eJ c YLj cG cP h
theorem Pt{a b:V}{v:Value}(he:Ym6)(cG:aK h v a)(cP:aK h v b):a=b:=
 Pq he (λx y e bk=>by subst e bk;exact congrArg V.bool (ax6 (cA (cG:v=YJX) cP))) λd eJ O=>aK.inj _ _ _ _ _ d eJ cG cP
open Classical in
theorem Pu{x:V}{xs:Yn}(he:YXl)(r:Y0z):(xs.any λy=>decide (aK h y x))=YXm:=by
 induction vs generalizing xs with
 |nil=>refine aT r.jh ?_;rfl
 |cons m vs ai=>
  refine r.un λy bf e a b=>dG he λbD bC=>aT e (aL Ae (aj Ae (aX (ai bC b) (congrArg (·||YXm) Zb5))))
open Classical in
theorem Pw{x:V}{Px:Value}{xs:Yn}(bj:Y3V)(he:YXl)(r:Y39)(bg:aK s.heap Px x)(y:Value)(bb:y∈Z1):SeqAt.EqAt A s y Px YTr:=by
 have bb:y∈xs:=Dv bb
 induction vs generalizing xs with
 |nil=>exact absurd (aV r.jh bb) cS
 |cons m vs ai=>
  refine r.un λz zs e a b=>dG he λbD bC=>(dz (aV e bb)).elim YBa λq=>ai bC b (List.mem_toArray.mpr q) q;subst q;have:YTr=b8 m x:=Zb5;exact aL this (λprog w E Q aF=>Pr bD bj a bg aF)
theorem range_all{a b:Y3}(h:Y7J):(di a.length).all YYr=YAt:=by
 refine sy (NC.trans (Iff.trans ⟨λq=>NM λj=>?_,λq j O=>decide_eq_true (congrArg (λl:Y3=>l[j]?) q)⟩ DP.symm));rcases Nat.lt_or_ge j a.length with aM | aM
 ·exact of_decide_eq_true (q j (og aM))
 ·exact aj (p6 aM) ((p6 (aV h aM)).symm)
theorem H6{a b:Y3}(bj:Y3V)(he:YOY)(aE:Y7J)(bg:a9 s.heap xs a)(gA:a9 s.heap bf b)(j:Nat)(ak:j<Y2N)(av:j<YOc):SeqAt.EqAt A s Z1[j] Y6G[j] YGV:=by
 have uz:ZS1:=aa ZMI ak;have mQ:j<bf.length:=aa (eN bf) av;have dC:=bg.length▸uz;have du:=gA.length▸mQ;refine(bg.get ZLZ).elim λx aq=>(gA.get ZLa).elim YOI;have ex:Z1[j]=x:=(ax7 ak).trans (c4 (dy uz) Y4F);have fy:Y6G[j]=y:=(ax7 av).trans (c4 (dy mQ) Y7Z);have hm:(a[j],b[j])∈a.zip b:=et (i:=j) (List.getElem?_zip_eq_some.mpr ⟨dy _,dy _⟩);have aF:YGV=b8 a[j] b[j]:=sy (decide_eq_true_iff.trans (by refine aT ZLZ (aX ZLa (aj (Option.some.injEq ..) ?_));exact uq.symm));exact d9 ex (aj fy (aL aF (λprog w E Q q=>Pr (ju he _ hm) bj Y6E Y7a q)))
theorem dd.bD(r:Z5):A.units<cLine:=fF Yk r.D3
theorem Py{a b:Y3}(h:¬Y7J):YAt=false:=HA λq=>h (congrArg l5 (DP.mp q))
theorem H7(r:Y0z)(hz:Y2Z):Yvl:=aj Y0D (aj r.length YDD)
theorem Pz{a b:Y3}(r:ZAZ)(bI:ZAW)(q:¬Y7J):(Y2N !=YOc)=true:=bne_iff_ne.mpr λe=>q ((cA r.length (cA ZMI e)).trans ((eN bf).trans bI.length))
theorem size_eq{a b:Y3}(r:ZAZ)(bI:ZAW)(q:Y7J):Y2N=YOc:=YJB (r.length.trans (q.trans (cA bI.length (eN bf).symm)))
abbrev sH(R:Y8)(s:Shared)(b:Bool):Y1:=∀tk,Z72
variable{y:Nat}
theorem ael{R:Y8}{x AG ty:Nat}{a b:Y3}{E:Y8}(ae:YU)(aG:Z5)(aD:ZUk)(ah:ZUl)(he:ZAC)(h:sH R s YAt):
  wpAny Yu A (compareOp .Eq Y1m YA4) R E s:=
 ae.list aD λxs n ak b6=>ae.list ah λbf m av dv=>by
  by_cases q:Y7J
  ·refine SeqAt.eq_listAt (e:=YYr) YM3 YV7 ZZU aG.bD Z4I ?_
   (refine aa Y0D (aa b6.length (aX ZYR ?_)))
   exact YDI
  ·exact SeqAt.eq_list_lengthsAt YM3 YV7 Z6a aG.bD (Py q▸YDI)
theorem aem{R:Y8}{x AG ty:Nat}{a b:Y3}{E:Y8}(ae:YU)(aG:Z5)(aD:ZUk)(ah:ZUl)(he:ZAC)(h:ZZG):
  wpAny Yu A (compareOp YJV Y1m YA4) R E s:=
 ae.list aD λxs n ak b6=>ae.list ah λbf m av dv=>by
  by_cases q:Y7J
  ·refine SeqAt.RcNeAt.lists (e:=YYr) YM3 YV7 ZZU aG.bD Z4I _ _ _ _ ?_
   (refine aa Y0D (aa b6.length (dU ZYR ?_)))
   exact YDI
  ·exact SeqAt.RcNeAt.lists_lengths YM3 YV7 Z6a aG.bD _ _ _ _ (by have:=YDI;replace this:=k7 (Py q) this;exact this)
theorem aen{R:Y8}{a b:Y3}{E:Y8}(aG:Z5)(cG:ZBC)(cP:ZBD)(aE:Y7J)(he:YOY)(h:ZZG):wpAny Yu A (compareOp YJV cF dF) R E s:=by
 refine cG.gj.elim λx q=>q.elim λxs q=>cP.gj.elim λy bS=>bS.elim λbf bS=>ix q.1 (jg Y3D (SeqAt.RcNeAt.tuples (e:=YYr) ZXX ZGV aG.bD (H6 aG.ot he aE Yq YAU) _ _ _ _ ?_))
 (refine aV ((size_eq Yq YAU aE)) (aa (abX ..) (aa Y3E (dU Z2x (aa Y0D (aa YMp (dU (range_all aE) ?_)))))))
 exact YDI
theorem aeo{R:Y8}{x:V}{E:Y8}(aG:Z5)(cG:Yfv)(cP:aK s.heap dF ZZ)(he:YXl)(h:ZZH):wpAny Yu A ZJj R E s:=by
 classical
 exact cP.gj.elim λy bS=>bS.elim λbf bS=>jg Y3D (SeqAt.in_tupleAt Zl5 ZGV (Pw aG.ot he YAU cG) (aX List.any_toArray (aa (Pu he YAU) YDI)))
theorem PA{R:Y8}{x:V}{E:Y8}(ae:YU)(aG:Z5)(cG:Yfv)(ah:mh y=Y1h)(he:YXl)(h:ZZH):ZdU:=by
 classical
 exact ae.list ah λxs n ak bg=>SeqAt.in_listAt Zl5 YM3 (Pw aG.ot he bg cG) (aX List.any_toArray (aa (Pu he bg) YDI))
theorem PB{R:Y8}{x:V}{c:Nat}{E:Y8}(lo:YEV)(ae:YU)(aG:Z5)(cG:Yfv)(ah:mh y=Y3h)(ao:YUf)(h:sH R s Yvv):ZdU:=
 ae.dict ah λxs ep aA r D=>by
  show wpAny _ _ (do return abY (←contains YA4 cF)) _ E s;refine bd (wpAny_holding (bd (wpAny_specialOf Y54 slot_dict_contains.lookup ?_)));show wpAny _ _ (if(some (Value.builtin "dict.__contains__")==some l6)=true then _ else _) _ E s;refine cb ZRC Y0K;intro azl azm;refine bd (wpAny_callSpecialUnlessNone?_slot (name:=er "__contains__") Y54 slot_dict_contains
   (wpAny_call_entry slot_dict_contains Y54 entry_dict_contains ?_ (args_dict_contains _ _)))
  show wpAny _ _ (dictGet y cF >>= _) _ _ s;refine Yg;intro azn azo azp;refine bd (wpAny_mono (H3 (Q:=λo s'=>o.isSome=Yvv∧∃tk,s'=YIS) ao D aA r cG aG.ot (λq=>ZnE) λv m q O=>ZnE) (λo s' z=>YIP λtk e=>?_) Y0E);subst e
  cases o with
  |none=>
   show wpAny _ _ (Builtin.Dict.pendingKey? y cF >>= _) _ _ _;refine Y0K;intro azq azr;exact bd (wpAny_pendingKey_other (ae.ys lo ah) Ze7)
  |some v=>exact Ze7
theorem H8{R:Y8}{E:Y8}(h:wpAny Yu A ZJj YsN E s):wpAny Yu A (compareOp YPO cF dF) R E s:=by
 have h:wpAny Yu A (ZK2 >>= λb=>pure (abY b)) YsN E s:=h;show wpAny Yu A (ZK2 >>= λb=>pure (abY (!b))) R E s;intro pn p Ef;have:=ZPe
 (rw[NN]at this;refine ZCW)
 exact abZ _ pn _ (λb dV s' ah=>ah.elim λkO q=>(ax6 q.1).symm▸q.2) (λO O O x=>x) p s this
theorem H9{R:Y8}{b:Bool}(h:sH R s (!b)):sH YsN s b:=λtk=>⟨b,rfl,h tk⟩
abbrev bG:=List Yp
variable{r:bG}
theorem Eg{m v:V}(h:ZYB[j]?=Y0e):(j=i∧v=m)∨(j≠i∧ZYQ):=by
 rw[List.getElem?_set]at h;by_cases q:i=j
 ·rw[ZU]at h;by_cases l:i<r.length
  ·rw[if_pos l]at h;exact YY ⟨q.symm,(cu Y4u).symm⟩
  ·rw[if_neg l]at h;exact Y08
 ·rw[ZN]at h;exact YJ ⟨λe=>q e.symm,h⟩
abbrev de(g:G)(env:Env)(ns:YH)(r:bG)(mh:ag)(s:Shared):Y1:=yd Yjo ZMo ZMn ns.Nodup (∃m,s.heap.Ns env.locals m∧∀(i:Nat)(n:Str)(v:V),Y6X→YBF→YU6→∃x,m n=YQ∧Y2k) (mh env.locals=none∧g.h₀.get? env.locals=none) (∀(i:Nat)(n:Str)(v:V),Y6X→YBF→Yjl→∃c x,YLY∧s.heap.IsCell c YQ∧Y2k) (∀n c,YLY→(mh c=none∧g.h₀.get? c=none)∧∃v,s.heap.IsCell c v) (∀n ey c,YLY→env.cells.lookup ey=Y0M→n=ey)
def nF(env:Env)(a:Nat):Y1:=ZAk∨∃n,YU4
def envX(env:Env)(a:Nat):Y1:=ZAk∨∃n,YU5∧YU4∧ZMq
variable{env:Env}
theorem yt(h:Yjp):YMZ:=h.imp id λq=>q.imp λn q=>YG
def Stores(env:Env)(n:Str):Y1:=YU6∨YU5∧∃c,YLY∧env.locals<c
theorem AH{a:Addr}{m:YAG}(n:ZPx)(e:Zlw):h'.Ns a m:=n.imp λo q=>q.imp λes q=>q.imp λep q=>ZnI
theorem uA{a:Addr}{v:Y0F}(n:h.IsCell a v)(e:Zlw):h'.IsCell a v:=n.imp λo q=>ZnI
theorem AI{a:Addr}{m:YAG}(n:ZPx):∃o es ep,YDJ∧YW5:=n.imp λo q=>q.imp λes q=>q.imp λep q=>⟨q.1,YG⟩
theorem de.step{X:Yo}(x:Y1d)(st:YFg)(h0:∀a,YMZ→¬X a):ZL1:=
 ⟨x.1,
  x.2,
  x.3,
  x.4,
  Yqa λm q=>⟨AH q.1 λo e=>Y0f _ _ e YXx ZQ7,λi n v ak av aP=>Yaq λy z=>⟨z.1,Y9d Y5j⟩⟩,
  YXw λm q=>(AI q.1).elim λo q=>q.elim λO q=>q.elim λO q=>⟨st.out q.1 YXx,x.6.2⟩,
  λi n v ak av aP=>YzL λc q=>q.imp λy q=>⟨q.1,uA YG λo e=>Y0f _ _ e (x.8 _ _ q.1).1.1 ZQ9,YDt Y5j⟩,
  λn c h=>have q:=ZeQ;⟨⟨YHf λv z=>z.elim λo z=>st.out z.1 YWf,q.1.2⟩,YMq λv z=>uA z λo e=>Y0f _ _ e YWf ZQ8⟩,
  x.9⟩
theorem de.ez(x:Y1d)(st:Yem):ZL1:=x.step st λO O h=>h.elim
theorem de.Ia{bI:bG}(x:Y1d)(h:∀(i:Nat)(v:V),bI[i]?=Y0e→YBF):de g env ns bI mh s:=
 ⟨x.1,x.2,x.3,x.4,Yqa λm q=>⟨q.1,λi n v ak av=>q.2 i n v ak ZPd⟩,x.6,λi n v ak av=>x.7 i n v ak ZPd,x.8,x.9⟩
theorem PC{X:Yo}{tk:Nat}{PD:Obj}(ae:YU)(aq:X a)(hm:Y9O∧g.h₀.get? a=none)(aA:Y0u=some PD)(kN:¬kept s.heap PD)(hs:YDf)(hex:∃o',Y6O=YXJ):
  ZAK∧Step X s mh Y0w mh:=by
 have kt:Y92:=qg aA kN Y1H;have ne:∀b c,Yn9→Y5W:=λb c e q=>g7 e (Yw3 hm.1);refine⟨⟨λb o e=>(Y1H b λq=>g7 e (Ya8 Y7l)).trans Y8r,Y7P,λb t c e=>YvK kt (Y1H b (ne b _ e)) λd u z=>⟨Y1H d (ne d _ z),rfl⟩,YFw,YFx⟩,
  λb o e ah uB=>(Y1H b λq=>uB (aa q aq)).trans e,ZhS,λb o e=>?_,kt⟩
 by_cases q:b=a
 ·exact q▸hex
 ·exact⟨o,(Y1H b q).trans e⟩
theorem Ib{n:Str}{v:Value}{m:V}(x:Y1d)(ae:YU)(bz:Y3X)(az:Y6X)(aR:Y8f){Q:Y5P}{E:Y8}(h:∀s',Y4B→YKO→de g env ns ZYB mh s'→Q () s'):wpAny Yu A (storeName env n v) Q E s:=by
 have other:∀{j:Nat}{k:Str},ns[j]?=Y6e→j≠i→k≠n:=λ{j k}aM ne q=>ne ((xX ((jJ aM).elim Y6i) x.4).mp (aM.trans ((congrArg some q).trans az.symm)));refine YXw λAJ aE=>(AI aE.1).elim λo q=>q.elim λes q=>q.elim λep aA=>?_;have Ic:∀n c,YLY→c≠env.locals:=λn c e q=>(x.8 n c e).2.elim λv z=>z.elim λo' z=>by
  have:=congrArg ua (c4 z.1 (Ya8 aA.1));exact vX (cA z.2 (this.trans aA.2))
 rcases aR with aR | aR
 ·refine wpAny_storeName_local aR aE.1 ZiR (by rw[x.1];rfl);have a:=PC (X:=Y1V) (tk:=YBH) ae Zj x.6 aA.1 ((Zia:∀{o:Obj}{es ep},YW5→YrD) aA.2) hs ((AI ks).imp λo q=>q.elim λO q=>q.elim ZgW);refine h _ a.1 a.2 ⟨x.1,x.2,x.3,x.4,⟨_,ks,YYq⟩,x.6,YYq,λk c e=>⟨ZeP.1,ZeP.2.imp λu z=>uA z λo bk=>(Y1H _ (Ic _ _ e)).trans bk⟩,x.9⟩
  ·rcases YQh with q | q
   ·exact⟨v,if_pos YTB,q.2▸Yi3⟩
   ·exact YvG λy z=>⟨(if_neg ZWJ).trans z.1,Y9d Y7I⟩
  ·rcases YQh with q | q
   ·have e:k=n:=YTB;exact aP.elim ZhG ZhG
   ·exact YzM λc z=>z.imp λy z=>⟨z.1,uA Z4 λo e=>(Y1H _ (Ic _ _ z.1)).trans e,YYC Y7I⟩
 ·refine aR.2.elim Yre;have Eh:=x.8 _ _ Y7S;refine Eh.2.elim λu bj=>bj.elim λhV AK=>wpAny_storeName_cell x.1 aR.1 Y7S ⟨hV,AK⟩ ZiR;have a:=PC (X:=Y1V) (tk:=s.toks) ae (YJ ⟨_,aR.1,Y7S,ao.2⟩) Eh.1 AK.1 ((Zia:∀{o:Obj}{c},o.data=YPT c→YrD) AK.2) hs (ks.imp λo q=>q.1);refine h _ a.1 a.2 ⟨x.1,x.2,x.3,x.4,⟨AJ,AH aE.1 λo e=>(Y1H _ (q6 (Ic _ _ Y7S))).trans e,YYq⟩,x.6,YYq,λk ft e=>?_,x.9⟩
  ·rcases YQh with q | q
   ·have e:k=n:=YTB;exact absurd (c4 aP (aa e aR.1)) YIj
   ·exact YvG λy z=>⟨z.1,Y9d Y7I⟩
  ·rcases YQh with q | q
   ·exact⟨c,v,(YTB:k=n)▸Y7S,ks,aa q.2 Yi3⟩
   ·exact YzM λft z=>z.imp λy z=>⟨z.1,uA Z4 λo e=>(Y1H _ ((λe ne q=>ne (x.9 _ _ c (e.trans (congrArg some q)) Y7S):∀{k ft},env.cells.lookup k=some ft→k≠n→ft≠c) z.1 ZWJ)).trans e,YYC Y7I⟩
  ·have q:=x.8 k ft e;refine⟨q.1,?_⟩;by_cases aC:ft=c
   ·exact⟨_,aa aC ks⟩
   ·exact YMq λu z=>uA z λo bk=>(Y1H _ aC).trans bk
theorem aep{n:Str}{m:V}(x:Y1d)(az:Y6X)(h:YMy=some Y2y)(aR:ZMp)(hd:Yxq){Q:Y8}{E:Y8}(aF:∀v,Y3X→Q v s):wpAny Yu A (loadName env n) Q E s:=by
 rcases aR with aR | aR | aR
 ·exact YXw λAJ q=>(q.2 i n m az h aR).elim λy z=>wpAny_loadName_local x.1 aR q.1 z.1 (aF y z.2)
 ·exact(x.7 i n m az h (YY aR)).elim λc z=>z.elim λy z=>wpAny_loadName_cell x.1 aR z.1 Z4 ZAz
 ·exact(x.7 i n m az h (YJ aR)).elim λc z=>z.elim λy z=>wpAny_loadName_free x.1 aR z.1 Z4 ZAz hd
abbrev aI:=PySem.Expr
def nG{α:aI→Y4i}(e:aI)(d:Zll)(aeq:∀o a p,α (YBt o a p))(aer:∀a o b p,α (YbD a o b p))(aes:∀o a p,α (Y8O o a p))(aet:∀t a b p,α (YbE t a b p))(aeu:∀k a p,α (.Dict k a p))(aev:∀a sI s p,α (YEp a sI s p))(aew:∀a o b p,α (YBu a o b p))(aex:∀f a k p,α (Y0Q f a k p))(aey:∀c k p,α Yzl)(aez:∀o n p,α (Y2e o n p))(aeA:∀o i p,α (Y6u o i p))(aeB:∀n p,α Y42)(aeC:∀a p,α (.List a p))(aeD:∀a k p,α (Y19 a k p)):α e:=p7 e aeq YIZ aer aes YEL aet aeu YIZ aev YEL YYT YEL Y9g Y9g Y9g aew aex YEL Y9g aey aez aeA Y9g aeB aeC aeD YEL
def uC(e:aI):Z5t:=nG (α:=λe=>Z5t) e ZP YX Yl YX Yl YX Yl Yl Yl YX YX YX (λn p=>some ⟨n,p,rfl⟩) Yz YX
def Ei(e:aI):Z5r:=nG (α:=λe=>Z5r) e ZP YX Yl YX Yl YX Yl Yl Yl (λc k p=>some ⟨c,k,p,rfl⟩) YX YX Yz Yz YX
def aeE(e:aI):Z66:=nG (α:=λe=>Z66) e ZP YX Zh7 YX Yl YX Yl Yl Yl YX YX YX Yz Yz YX
def PE(e:aI):Z5y:=nG (α:=λe=>Z5y) e ZP YX Yl Zjb Yl YX Yl Yl Yl YX YX YX Yz Yz YX
def aeF(e:aI):Z5u:=nG (α:=λe=>Z5u) e ZP Zjb Yl YX Yl YX Yl Yl Yl YX YX YX Yz Yz YX
def aeG(e:aI):Z6C:=nG (α:=λe=>Z6C) e ZP YX Yl YX ZkH YX Yl Yl Yl YX YX YX Yz Yz YX
def PF(e:aI):Z61:=nG (α:=λe=>Z61) e ZP YX Yl YX Yl YX Yl Zh7 Yl YX YX YX Yz Yz YX
def PG(e:aI):Z65:=nG (α:=λe=>Z65) e ZP YX Yl YX Yl YX Yl Yl (λf a k p=>k.casesOn (some ⟨(f,a,p),rfl⟩) Yz) YX YX YX Yz Yz YX
def Ie(e:aI):Z68:=nG (α:=λe=>Z68) e ZP YX Yl YX Yl YX Yl Yl Yl YX (λo n p=>some ⟨(o,n,p),rfl⟩) YX Yz Yz YX
def AL(e:aI):Z69:=nG (α:=λe=>Z69) e ZP YX Yl YX Yl YX Yl Yl Yl YX YX (λo i p=>some ⟨(o,i),p,rfl⟩) Yz Yz YX
def rm(e:aI):Z5w:=nG (α:=λe=>Z5w) e ZP YX Yl YX Yl YX Yl Yl Yl YX YX YX Yz Yz (λa k p=>some ⟨a,k,p,rfl⟩)
def dList(e:aI):Z5x:=nG (α:=λe=>Z5x) e ZP YX Yl YX Yl YX Yl Yl Yl YX YX YX Yz (λa p=>some ⟨a,p,rfl⟩) YX
def PH(e:aI):Z5v:=nG (α:=λe=>Z5v) e ZP YX Yl YX Yl (λk a p=>some ⟨(k,a),p,rfl⟩) Yl Yl Yl YX YX YX Yz Yz YX
def PI(e:aI):Z62:=nG (α:=λe=>Z62) e ZP YX Yl YX Yl YX (λa sI s p=>some ⟨(a,sI,s,p),rfl⟩) Yl Yl YX YX YX Yz Yz YX
def PJ(Q:Y0i)(v:Bool)(s:Shared)(mh:ag):Y1:=Y8c
def Ev(g:G)(k:Nat)(env:Env)(ns:YH)(r:bG)(mh:ag)(t:Y5O)(Q:Yj):Y1:=∀A s,Z5→YU→Y1d→fW g A cX s mh t Zh
def kP(g:G)(k:Nat)(env:Env)(ns:YH)(r:bG)(mh:ag)(t:YFf)(Q:Y0i):Y1:=∀A s,Z5→YU→Y1d→fW g A cX s mh t Z6S
def gH(g:G)(k:Nat)(env:Env)(ns:YH)(r:bG)(es:Ye):Ygl:=es.rec (λmh Q=>Q [] mh) λe O ai mh Q=>Ev g k env ns r mh Y0s λv m=>ai m YsP
def jw(Q:Y0i)(v:V)(m:ag):Y1:=v.Ay False λb=>Q b m
def aeH(P:Y8)(r:Result)(s':Shared):Y1:=match r with
 |.ok YQ6=>P v s'
 |.ok _=>False
 |Y6x _=>False
abbrev Calls:=Nat→YR4
def aU(g:G)(k:Nat):Calls:=λf args mh Q=>∀A s vs,Z5→YU→YRx→codeAny Yu A YbK (aeH (hy g cX s mh Zh)) s
structure bP where
 cN:Z5D
 ns:YH
abbrev eO(env:Env)(c:bP):Y1:=hR (∀n k,Y3F=Y6e→Y25=Y6e∨(k=Y6y∧YU5)) (∀n,(Y3F=Y2w∨Y3F=Y6c)→∃a,YU4∧(Y3F=Y2w→ZMq))
def yu:List String:=["len","sorted","set","tuple","list","dict","enumerate","range","zip","sum","max","int"]
abbrev Base(g:G)(gl:YQz):Y1:=iG ZOc ZmV YEV (∀n v,gl.lookup n=Ym→∃x,YnT=YXG∧aK g.h₀ x v) (∀n,n∈yu→nsIn g.K mainGlobals YD4=Y3K)
structure ih where
 gl:YQz
 mt:List Z5b
 eA:List (Nat×YH)
def classOk(K:Frag)(C:Nat)(l:YH):Bool:=ZWt&&(ZQW&&((ZOJ==YpB)&&(ZWw&&(ZUP&&(ZT2&&(decide l.Nodup&&(decide ZTV&&
 l.all λn=>(findIn K Yw n).elim false (noGet K)&&(ZbR==Y3K))))))))
def PK(K:Frag)(C:Nat)(l:YH)(n:Str)(f:Nat):Bool:=(YkP==ZaP)&&(isFn K Y2g&&(keepIn K Y2g&&l.all λm=>!(m==n)))
abbrev bh(g:G)(H:ih):Y1:=hr (Base g H.gl) (∀n a,YdH=Y05→ZT3) (∀C l,YFI→YGh=l∧classOk g.K C l=true) (∀C n f,YOQ→∃l,YFI∧PK g.K C l n f=true)
structure Op where
 nH:ZRa
 ij:Calls→YR4
abbrev Op.pv(o:Op):Y1:=hR ZmL (∀{g H k env c r mh e es Q},ZG→ZI→YMf→gH g k env c.ns r es mh (λvs m=>o.ij ZH vs m Y9J)→kP g k env c.ns r mh YV8 Q)
@[reducible] def dj:Y4i:=Subtype Op.pv
noncomputable abbrev dj.o (x:dj):Op:=x.1
theorem dj.snd(x:dj):x.o.pv:=x.2
inductive dY where
 |one (i:Nat) |two (i j:Nat) |three (i j l:Nat)
def PL(v:V):Bool:=v.eM true hv
def j3(t:dY)(weak:Bool)(v:V)(r:bG)(Q:Y7X):Y1:=t.casesOn (λi=>cond weak (PL v=true∧YeU) YeU)
 (λi j=>v.eM False λvs=>vs.casesOn False λa t=>t.casesOn False λb u=>u.casesOn (Q Y5v) Y28)
 λi j l=>v.eM False λvs=>vs.casesOn False λa t=>t.casesOn False λb u=>u.casesOn False λd w=>w.casesOn (Q YZY) Y28
structure Src where
 weak:Bool
 nH:ZRa
 ij:Ydp
def uD(weak:Bool)(h:Heap)(x:Value)(v:V):Y1:=cond weak (∃vs,YI7∧YV9) Y2F
abbrev j4(wr:Yo)(s s':Shared):Y1:=hR ZlZ Yjd
abbrev lI(g:G)(wr:Yo)(mh:ag):Y1:=∀b,Y3N→Yn8
abbrev mg(wr:Yo)(h:Heap):Y1:=∀b,Y3N→∃o,YDK∧YNx
abbrev ha(g:G)(A:Around)(tgt:aI)(I n:Nat)(weak:Bool)(v:YKE)(need:Y6)(wr:Yo)(St:Y47):Y1:=iG (∀i h,St i h→mg wr h) (∀i h h',St i h→(∀b o,Y3N→YlA)→Y2T→St i h') (∀i(s:Shared)(mh:ag)(P:Y8),i<n→YKN→YU→need mh→YDc→(∀x s',uD weak s'.heap x (v i)→Y4B→Z7r→St (i+1) s'.heap→P x s')→WP g A YHc (λr s1=>∃x,r=YQ∧WP g A ZTr Zga s1) s) (∀(s:Shared)(mh:ag)(P:Y5M),St n s.heap→YU→need mh→YDc→(∀s',Y4B→YM9→Z6K)→Z8e) (∀i(s:Shared)(P:Y8),YKN→P Y1B s→WP g A (pyIter Y1B) P s)
variable{wr:Yo}
theorem lI.step{X:Yo}(x:YDc)(lv:Yn4)(st:YFg):lI g wr aW:=λb ah=>⟨(lv b ah).elim λo q=>st.out q.1 ZeH.1,ZeH.2⟩
theorem sJ(lv:mg wr h)(k:∀b o,YYR→YlA):Y2T:=λb o e t=>by
 by_cases q:Y3N
 ·exact(lv b q).elim λo' z=>absurd t (ZIh▸z.2)
 ·exact ZSU
theorem j4.abs(ae:YU)(w:YDc)(x:YM9)(cR:Y56)(aA:Y4P):Y4B:=by
 have nw:∀b c,Yn9→YYR:=λb c e q=>g7 e ZdD.1;have nI:∀b c,Yn9→YWv=Y04:=λb c e=>YBf λo q=>(x.1 b o (nw b c e) q.1).trans YHe;exact⟨λb o e=>x.1 b o (λq=>g7 e ZdD.2) Y8r,Y7P,λb t c e=>YvK x.2 (nI b _ e) λd u z=>⟨nI d _ z,rfl⟩,YTQ,YRz⟩
variable{s0:Shared}{m0:ag}
theorem j4.step{X:Yo}(x:YM9)(st:Yel)(fr:Ysj):Step X s0 m0 s' mh:=
 have nw:∀{a o},s0.heap.get? a=YB→YrF:=λe q=>g7 e (fr _ q)
 ⟨λa o e hm aq=>x.1 a o ZVh (Y0f a o e hm aq),Zb,λa o e=>(st.3 a o e).imp λo' bk=>x.1 a o' ZVh bk,st.4.trans x.2⟩
theorem Step.unfresh{X:Yo}(st:Step (λa=>X a∨wr a) s0 m0 s mh)(fr:Ysj):Yel:=
 ⟨λa o e hm aq=>Y0f a o e hm λq=>q.elim aq (λq=>g7 e YkV),Zb,st.3,Y5j⟩
theorem sL(ae:YU)(w:YDc)(lv:Yn4)(k:ZlZ)(aeI:mg wr s'.heap)(cR:Y56)(aA:Y4P):Y4B∧Z7r:=
 have kt:=sJ lv k
 ⟨j4.abs ae w ⟨k,kt⟩ cR aA,λb o e O uB=>k b o uB e,ZhS,λb o e=>by
  by_cases q:Y3N
  ·exact(aeI b q).imp Zgd
  ·exact⟨o,ZSU⟩,kt⟩
variable{tgt:aI}{I:Nat}
theorem Ej{P:Y5P}{n:String}{o:Obj}(aA:s.heap.get? I=YB)(ao:YW4)(az:Z93=false)(h:P () s):WP g A ZTr P s:=by
 have z:∀(a:Nat),WP g A (do
   let o ←load I
   match o.cls,o.data with
   |Ycc,YPZ=>
    if Z93&&vs[0]?==some (rawInt a)then
     rule "for.unpacks-the-owned-tuple"
     updateField I 0 Y7
   |_,_=>YWb) P s:=λa=>by
  refine bd (wpAny_load aA (DD ao ?_))
  cases o.data with
  |fields vs=>dsimp only;exact aa az Y1u
  |_=>exact Y1u
 cases tgt with
 |Tuple a b c=>cases x with
  |ref a=>exact z a
  |_=>exact Y1u
 |List a b=>cases x with
  |ref a=>exact z a
  |_=>exact Y1u
 |_=>exact Y1u
theorem a9.at(r:Y0z)(af:Y7n):∃x,Y3w∧aK h x YED:=
 (r.get Y2o).imp λx q=>⟨q.1,YRC▸q.2⟩
theorem uE{o:Obj}{n:String}(aA:Yl9=YB)(ao:YW4)(ak:ZVj)(av:ZVi):YMV:=λb e=>⟨o,aa e aA,DM ao ak av⟩
theorem wx(st:ZPr):YMV:=YNL
theorem pw(st:ZPv):YMV:=YNL
theorem jx(t:Z88):ZPu:=t.elim λn e=>⟨_,e,rfl,n,rfl⟩
theorem Ig(r:Y0z):Z1[vs.length]?=none:=YPA (p6 (dH r.length))
theorem ha.list(bJ:Zf):ha g A tgt I vs.length false Zj6 ZjP Y2d (λi h=>ZPr):=
 ⟨λi h st=>YqP,
  λi h h' st k O=>st.at Zjd,
  λi s mh P af st ae az w ar=>az.elim λt e=>ae.list e λxs ep aq r=>Yar λx q=>
  wpAny_pyNext_list_item st YGx Yo3 λh' ji hs=>⟨x,rfl,by
   have a:=sL (s':=Yx) ae w YqP YId (wx ji) rfl rfl;exact ji.elim λo z=>Ej (s:=Yx) z.1 Z4 YC (ar x _ ZXZ a.1 a.2 ji)⟩,
  λs mh P st ae az w ar=>az.elim λt e=>ae.list e λxs ep aq r=>
  wpAny_pyNext_list_end bJ st YGx (Ig r) λh' he=>have c7:YM8:=⟨he,sJ YqP he⟩;YG1,
  λi s P st h=>wpAny_pyIter_listiter st h⟩
theorem ha.tuple(bJ:Zf)(ok:Y7m):ha g A tgt I vs.length false Zj6 Y5n Y2d (λi h=>ZPv∧Zma):=
 ⟨λi h st=>YoB,
  λi h h' st k kt=>⟨YpQ Zjd,Zas Zl1⟩,
  λi s mh P af st ae O w ar=>Zar λxs bq=>(bq.2.at af).elim λx q=>
  wpAny_pyNext_tuple_item Y0f ZSL Yo3 λh' ji hs=>⟨x,rfl,by
   have a:=sL (s':=Yx) ae w YoB YId ZXO rfl rfl;exact ji.elim λo z=>Ej (s:=Yx) z.1 Z4 YC (ar x _ ZXZ a.1 a.2 ⟨ji,xs,bq.1.keep Y7I (rl ok bq.2),bq.2.keep Y7I⟩)⟩,
  λs mh P st ae O w ar=>Zar λxs bq=>
  wpAny_pyNext_tuple_end bJ Y0f ZSL (Ig bq.2) λh' he=>have c7:YM8:=⟨he,sJ YoB he⟩;YG1,
  λi s P st h=>wpAny_pyIter_tupleiter Y0f h⟩
theorem Ek{a b:Int}(st:IsRangeIter h I a b 1):YMV:=uE st rfl YC YC
theorem ha.range(bJ:Zf){n:Nat}:ha g A tgt I n false (λi=>YJd) Y5n Y2d (λi h=>IsRangeIter h I Y9o (Y0q - Y9o) 1):=
 ⟨λi h st=>Yd8,
  λi h h' st k kt=>k I _ rfl st,
  λi s mh P af st ae O w ar=>wpAny_pyNext_range_item st (Int.sub_pos_of_lt (x1.mpr af)) λh' ji hs=>⟨_,rfl,by
  have PM:IsRangeIter h' I YIp Yxp 1:=by
   rw[show Yxp=Y0q - Y3k - 1 from(Int.sub_sub Y0q Y3k 1).symm];exact ji
  have a:=sL (s':=YYM) ae w Yd8 YId (Ek PM) rfl rfl;exact Ej (s:=YYM) ji rfl YC (ar _ _ (aK.ofInt (h:=h') _ _) a.1 a.2 PM)⟩,
  λs mh P st ae O w ar=>wpAny_pyNext_range_end bJ st (Int.le_of_eq (Int.sub_self Y0q)) λh' he=>have c7:YM8:=⟨he,sJ Yd8 he⟩;YG1,
  λi s P st h=>wpAny_pyIter_rangeiter st h⟩
theorem Ih{Q:Y9e}{E:Y8}(bJ:Zf)(h:∀h' e,(∀{it h0},Zcy→Zcx)→YbB):
  wpAny YR A ZVX Q E s:=by
 exact bd (bd (wpAny_newObj_type (bd (m:=firstArgMember _ _) (wpAny_of_eq (a:=l6) rfl (wpAny_newObj_type (bd (wpAny_handled (iy bJ (bd (wpAny_pure (wpAny_throw (h _ _ (λk=>(k.push _).push _) Yt4))))))) Yi2))) Yi2))
theorem Ii{E:Y8}{it l:Addr}{items}{Q:Y8}(hit:ZYt)(aE:Yoi)(aq:Ym4=YQ)(dp:∀h',h'.IsTupleIter it l (i+1)→YMP→Q x Yx):
  ZdW:=by
 obtain⟨o,aA,ao,hd⟩:=Ylf;obtain⟨ol,uF,_,nl,Ij⟩:=aE;refine bd (wpAny_callSpecial?_slot (name:=YD3) hit.typeIs NP
  Zdt)
 show Zdj;refine ZGm;show Zdp;refine ZJO;show Zdk;refine ZGl;show Zdr;refine ZGt;simp only [Int.toNat_natCast,aq];refine bd (wpAny_setField aA hd Y6J (wpAny_pure ⟨x,rfl,wpAny_pure (dp _ ?_ YMI)⟩));exact⟨_,q7 _ aA ZFN,Yuj,by
  rw[NQ hd];simp[rawInt]⟩
theorem PN{E:Y8}{it l:Addr}{items}{Q:Y8}(bJ:Zf)(hit:ZYt)(aE:Yoi)(aq:Ym4=none)(la:∀h' e,Zcz→YbB):
  ZdW:=by
 obtain⟨o,aA,ao,hd⟩:=Ylf;obtain⟨ol,uF,_,nl,Ij⟩:=aE;refine bd (wpAny_callSpecial?_slot (name:=YD3) hit.typeIs NP
  Zdt)
 show Zdj;refine ZGm;show Zdp;refine ZJO;show Zdk;refine ZGl;show Zdr;refine ZGt;simp only [Int.toNat_natCast,aq];refine bd (wpAny_rule (bd (wpAny_setField aA hd Y3G ?_)));show wpAny _ _ (ZVW >>= _) _ _ _;exact Ih bJ λh' e k z=>la h' e ZSR z
theorem aeJ(bJ:Zf)(it l:Addr)(iA:l≠it)(items:Y1N):
  Draws prog w A it [it,l] items.size (λi v=>Ym4=Ym) (λi h=>And (h.IsTupleIter it l i) (h.IsTuple l items)) where
 live:=λO O st=>Zan Zji
 frame:=λO O O st aR=>⟨YpQ λo e=>aR it (b3) o e,st.2.at λo e=>aR l YGZ o e⟩
 item:=λi s Q E af st dp=>by
  exact Ii Y0f Zb (x:=items[i]) ZI6 λh' ji gB=>(dp _ h' s.toks ZI6 ⟨ji,Zas λo z=>⟨(gB.2 l iA).trans z.1,z.2⟩⟩ gB)
 done:=λs Q E st la=>PN bJ Y0f Zb Y6J la
theorem aeK{f:List (Code×Pos)→Bool}{Q:Y1n}{E E':Y8}(h:∀b,Q b s):wpAny M A stack (λst s'=>wpAny M A (pure (f st)) Q E s') E' s:=wpAny_stack_any λst=>wpAny_pure (h _)
theorem aeL(l:Addr)(items:Y1N):
  Meets (Builtin.«enumerate.__new__» ⟨[YJr,Y75],[]⟩) (λO R s=>(∃n lb eB,s.heap.get? l=some {cls:=Y2h,dict:=lb,data:=Z1u,slots:=eB})∧
   R (.ok (YS (Y0 Yyl)))
    {s with heap:=Yym Yr6}):=
 .of_wp λprog w A R s h=>by
  obtain⟨⟨n,lb,eB,aE⟩,h⟩:=h;have qk:=sub_enumerate;have eW:ab0 ZDA l items:=⟨_,aE,rfl,n,rfl⟩
  refine Yg;intro aeM aeN aeO
  wp_walk using YgV
  refine aeK λb=>?_
  cases b
  ·wp_walk using YgV,Ze9
   exact Zn7
  ·wp_walk using YgV,Ze9
   exact Zn7
variable{items:Y1N}
theorem aeP{E:Y8}{l:Addr}{Q:Y8}(eW:Yoi)(h:∀h',IsEnum h' Y1J s.heap.objs.size 0 Y7→h'.IsTupleIter s.heap.objs.size l 0→h'.objs.size=Yok→
   (∀b o,YBG)→Q Z1T Yx):
  wpAny YR A (call YJr [Y75]) Q E s:=by
 obtain⟨⟨c,lb,uj,eB⟩,aE,ao,n,hd⟩:=eW;replace ao:c=Y2h:=ao;replace hd:uj=Z1u:=hd;subst ao hd;refine callType_new F.called_enumerate YC (F.typeCall_enumerate_1 _) (F.newCall_enumerate_1 _) (λobj=>F.args_object_init_2 obj _) F.entry_enumerate_new
  (aeL l items) ⟨⟨n,lb,eB,aE⟩,?_⟩
 have hz:Yyl=Y1J:=YBI;show And _ _;rw[hz];have he:IsEnum (Yym
   Yr6) Y1J s.heap.objs.size 0 Y7:=by
  have:=fM (s.heap.push YNv)
   (o:=Yr6) rfl
  replace this:=bN hz this;exact this
 refine⟨⟨_,he,rfl⟩,h _ he ⟨_,Yjy,rfl,rfl⟩ (by exact aj YBI (congrArg _ hz)) λb o x=>eu _ (eu _ x)⟩
abbrev ql(I it:Nat):Yo:=λb=>b=I∨b=it
def pairAt(vs:Y3)(i:Nat):V:=YD [YJd,YED]
theorem aeQ{T:Nat}{i:Int}{tk:Tok}{m:V}(dJ:h.get? T=some (mM [YI i tk,x] 0))(bg:Yft):uD true h YPx (YD [Y3S,m]):=⟨_,rfl,T,_,rfl,⟨0,dJ⟩,a9.cons (aK.ofInt i tk) (a9.cons bg a9.nil)⟩
variable{it:Nat}
theorem AM{i:Int}{old:Value}(he:IsEnum h I it i old)(yv:ZUX):mg YBD h:=λb ah=>ah.elim (uE he rfl YC YC b) (yv b)
variable{c6:Nat}{pos:Pos}
theorem PO{old:Value}{es:Ye}{U:Y47}{Z:YFJ}{P:Y8}(D:Z3a)(yv:Zlm)(up:∀i h h',Yev→(∀o,h.get? it=YB→Yl6=YB)→U i h')(he:IsEnum s.heap I it Y9o old)(bj:U i s.heap)(hz:Z8v)(iV:YdP)(aeR:I≠a)(r:Y39)(af:Y7n)(ae:YU)(w:ZTh)(ar:∀x s',uD true s'.heap x ZWo→Y4B→Step YBD s mh s' mh→(∃old,IsEnum s'.heap I it YIp old)→U (i+1) s'.heap→P x s'):
  WP g A YHc (λr s1=>∃x,r=YQ∧WP g A (letOwnedTupleGo YJW Y1B x) Zga s1) s:=
 wpAny_pyNext_enum_itemD D he ZnD af iV (λq=>(dz q).elim iV λq=>aeR YGA) λx h' tk yw aA sM dJ AN aR=>⟨_,rfl,wpAny_letOwnedTupleGo_enum aA λav aeS qm=>by
  have El:∀b o,Zfq→Y9X→Yh4:=λb o nb e=>(qm.2 b Zk6).trans (aR b o Zk6 Zk7 e);have Em:U (i+1) av:=up _ _ _ sM.1 λo e=>(qm.2 it (q6 iV)).trans e;have PQ:IsEnum av I it YIp x:=aeS;have Ik:=sL (s':={s with heap:=av,toks:=tk+1}) ae w Z2b El (AM PQ (yv _ _ Em)) rfl rfl;exact ar _ _ (aeQ ((qm.2 _ (p8 (fE he):s.heap.objs.size≠I)).trans dJ) (Yar λy q=>c4 Yo3 yw▸Y9T Ik.2.4)) Ik.1 Ik.2 ⟨_,PQ⟩ Em⟩
theorem PR{i:Int}{old:Value}{U:Y47}{Z:YFJ}{P:Y5M}(D:Z3a)(yv:Zlm)(he:IsEnum s.heap I it i old)(bj:U vs.length s.heap)(hz:Z8v)(ae:YU)(w:ZTh)(ar:∀s',Y4B→j4 YBD s s'→Z6K):Z8e:=
 wpAny_pyNext_enum_endD D he ZnD λh' yw=>
  have k:∀b o,Zfq→YBG:=λb o nb e=>yw b o Zk7 e;have c7:j4 YBD s Yx:=⟨k,sJ Z2b k⟩
  YG1
theorem PS(bJ:Zf)(ne:a≠it)(r:Y0z):Draws g.prog g.w A.in1 it YfF vs.length Yrv (λi h=>And ZPs ZPq):=
 Ywj▸Draws.list (prog:=g.prog) (w:=g.w) (A:=A.in1) bJ it a ne Z1
theorem PT(bJ:Zf)(ne:a≠it)(r:Y0z):Draws g.prog g.w A.in1 it YfF vs.length Yrv (λi h=>And ZPw ZPu):=
 Ywj▸aeJ (prog:=g.prog) (w:=g.w) (A:=A.in1) bJ it a ne Z1
theorem Il{b:Nat}{c:Y1D}(e:Yn7)(q:YB1):YCl:=λz=>g7 e (Yw4 q)
theorem ha.aeT(bJ:Zf){es:Ye}(iV:YdP):ha g A YJW I vs.length true Yo1 ZjP YBD
  (λi h=>ZmU∧ZPs):=
 ⟨λi h st=>YE5 λold he=>AM he (wx Zb),
  λi h h' st k O=>⟨Zao,st.2.at Zje⟩,
  λi s mh P af st ae az w ar=>az.elim λt e=>ae.list e λxs ep aq r=>YE5 λold he=>
  PO Z6T ZgK Zg5 he Zb YGx iV (Il e (w I Zj).1).symm r af ae w λx s' a1 a2 dB eb g6=>ar x s' a1 a2 dB ⟨eb,g6⟩,
  λs mh P st ae az w ar=>az.elim λt e=>ae.list e λxs ep aq r=>YE5 λold he=>PR Z6T ZgK he Zb YGx ae w ar,
  Zir⟩
theorem En{b:Nat}{o o':Obj}{n m:String}(aD:YDJ)(ah:Y4z=YXJ)(c:YW4)(ft:o'.cls=YE m)(q:n≠m):YCl:=λz=>q (t8 (cA c ((congrArg Dj (c4 aD ((congrArg h.get? z).trans ah))).trans ft)))
theorem ha.aeU(bJ:Zf){es:Ye}(iV:YdP)(ok:Y7m):ha g A YJW I vs.length true Yo1 Y5n YBD
  (λi h=>ZmU∧ZPw∧Zma):=
 ⟨λi h st=>YE5 λold he=>AM he (pw YE6),
  λi h h' st k kt=>⟨Zao,Zb.1.at Zje,Zb.2.imp Zl1⟩,
  λi s mh P af st ae O w ar=>YE5 λold he=>Zaq λxs q=>YoE λn aA=>Zap λAO qn=>
  PO Z6U ZgJ Zg5 he YE6 ZSM iV (En he aA rfl rfl YC) q.2 af ae w
   λx s' a1 a2 dB eb g6=>ar x s' a1 a2 dB ⟨eb,g6,xs,YWg dB.4 ZYd,Y9T dB.4⟩,
  λs mh P st ae O w ar=>YE5 λold he=>Zaq λxs q=>YoE λn aA=>Zap λAO qn=>
  PR Z6U ZgJ he YE6 ZSM ae w ar,
  Zir⟩
abbrev uG(h:Heap)(z TI c2 dM dt l1 l2 k:Nat)(xs bf:Yn)(a b:Value):Y1:=Ak (IsZip h z TI c2 Y7) (IsPair h TI Yc8 YQ1) (IsPair h c2 a b) (h.IsTupleIter dM l1 k) (h.IsTupleIter dt l2 k) (h.IsTuple l1 Z1) (h.IsTuple l2 Y6G)
variable{dt:Nat}{c2:Nat}{dM:Nat}{z:Nat}
theorem aeV{TI l1 l2:Nat}{y a b:Value}{Q:Y8}{E:Y8}(D:YKV)(Z:YXa)(aq:Zeo)(bb:ZH2)(dp:∀h',Z4c→Z4Z→ZPi→ZPj→Z4a→
   Zlg→Q Y2B Yx):
  wpAny Yu A Z2y (λfin s'=>∃v,And (fin=YPY) YeY) E s:=by
 show Zdl;refine ZGj;show Zdm;refine ZGk;show Zdh;refine ZGg;intro PU PV;refine ZGr;replace wy:Z4b:=wy;refine Y0K;intro azs azt;refine Y6H;show Zdo;refine cb Y4O Yg;intro azu azv azw;refine Yhd;show Zdg;refine Yg;intro PW PX aeW;refine bd (Ii Z8y Z8z (pk aq) λah aeX hW=>Zl);have ob:IsPair ah c2 a b:=hW.extBut _ _ D.TOi1 (qo.extBut _ _ D.TOz Z.3);refine Yg;intro azx azy azz;refine bd (wpAny_seqItems ob rfl (bd (wpAny_updateSeq_pair ob λao hV sc=>?_)));replace hV:IsPair ao c2 x b:=hV;refine ZGo;show wpAny _ _ (forIn [((YQ1:Value),1)] _ _) _ _ _;refine cb Y4O Yhd;show wpAny _ _ (He YQ1 >>= _) _ _ _;refine Yg;intro PY PZ P0;refine bd (Ii (((Z.5.extBut qo.extBut D.i2z).extBut hW.extBut D.i12.symm).extBut sc.extBut D.TOi2.symm) (((Z.7.extBut qo.extBut D.l2z).extBut hW.extBut D.l2i1).extBut sc.extBut D.l2TO) (pk bb) λhd aeY hA=>Zl);have iJ:IsPair hd c2 x b:=hA.extBut _ _ D.TOi2 hV;refine Yg;intro P1 P2 P4;refine bd (wpAny_seqItems iJ rfl (bd (wpAny_updateSeq_pair iJ λhe yx hX=>?_)));replace yx:IsPair he c2 x y:=yx;refine ZGo;show wpAny _ _ (forIn ([]:List Z8T) _ _) _ _ _;refine cb vW Yg;intro azA azB azC;refine wpAny_pure (bd (wpAny_seqItems yx rfl (bd (wpAny_newTuple ?_))));have AP:IsZip he z TI c2 YJa:=hX.extBut _ _ D.TOz.symm (hA.extBut _ _ D.i2z.symm (sc.extBut _ _ D.TOz.symm (hW.extBut _ _ D.i1z.symm wy)));show wpAny _ _ (Builtin.SmallTypes.ownedTupleHandOut Y3T Z1j >>= _) _ _ _;refine Y6H;have aeZ:IsZip (he.push (mM Y2E 0)) z TI c2 YJa:=eu _ AP;refine Yg;intro azD azE azF;refine bd (wpAny_setField_rec aeZ Y3G λcR Im P5=>?_);replace Im:IsZip cR z TI c2 (rawInt he.objs.size):=Im;refine Yg;intro azG azH azI;refine wpAny_setField_rec Im Y6J λbJ P6 yy=>?_;have up:∀c o,YTc→he.get? c=YB→ZG6:=λc o ne e=>yy.extBut _ _ ne (P5.extBut _ _ ne Y5Z);have Eo:he.objs.size≠z:=p8 (fE AP);have tup:IsPair bJ he.objs.size x y:=yy.extBut _ _ Eo (P5.extBut _ _ Eo ZW);have old:∀c o,YTc→c≠c2→Yiu→c≠dt→YWz→ZG6:=λc o dn fI qp px e=>
  up c o dn (hX.extBut _ _ fI (hA.extBut _ _ px (sc.extBut _ _ fI (hW.extBut _ _ qp (qo.extBut _ _ dn e)))))
 refine wpAny_pure ⟨Z1j,rfl,?_⟩;rw[(hX.1.trans (hA.1.trans (sc.1.trans (hW.1.trans qo.1))):he.objs.size=s.heap.objs.size)]at P6 tup ⊢;exact dp bJ P6 (up _ _ D.TOz yx) ((((aeX.extBut sc.extBut D.TOi1.symm).extBut hA.extBut D.i12).extBut hX.extBut D.TOi1.symm).at λo e=>up _ o D.i1z e) ((aeY.extBut hX.extBut D.TOi2.symm).at λo e=>up _ o D.i2z e) tup old
theorem ae0{TI l1 l2:Nat}{a b:Value}{Q:Z6Y}{E:Y8}(bJ:Zf)(D:YKV)(Z:YXa)(aq:Yvm)(la:∀h' e,Zlh→YbB):
  wpAny Yu A Z2y Q E s:=by
 show Zdl;refine ZGj;show Zdm;refine Y0K;intro adO adP;refine ZGk;show Zdh;refine ZGg;intro aed aee;refine ZGr;replace wy:Z4b:=wy;refine Y6H;show Zdo;refine Yig;intro ae1 ae2;refine Yhd;show Zdg;refine Yg;intro azJ azK azL;refine bd (PN bJ Z8y Z8z aq λah e hW he=>he.elim λyx Ep=>?_);have P7:IsZip ah z TI c2 YJa:=hW _ _ D.i1z.symm wy;refine Yg;intro azM azN azO;refine wpAny_setField_rec P7 Y3G λao O sc=>la ao e (λc o dn qp q=>sc.extBut _ _ dn (hW _ _ qp (qo.extBut _ _ dn q))) ⟨yx,sc.extBut _ _ (En Ep.1 P7 Ep.2 rfl YC:e≠z) Ep.1,Ep.2⟩
theorem ae3{TI l1 l2:Nat}{y a b:Value}{Q:Y5M}(D:YKV)(Z:YXa)(aq:Zeo)(bb:ZH2)(dp:∀h',Z4c→Z4Z→ZPi→ZPj→Z4a→
   Zlg→Q (some Y2B) Yx):Z8f:=by
 have dJ:ZYr:=Zmt
 exact bd (wpAny_attempt (wpAny_callSpecial?_slot (name:=YD3) dJ NR (wpAny_call_entry NR dJ F.entry_zip_next
  (aeV D Z aq bb λh' a1 a2 dB eb g6 ia=>wpAny_pure (dp h' a1 a2 dB eb g6 ia)) Z3s)))
theorem ae4{TI l1 l2:Nat}{a b:Value}{Q:Y5M}(bJ:Zf)(D:YKV)(Z:YXa)(aq:Yvm)(dp:∀h',Zlh→YeV):Z8f:=by
 have dJ:ZYr:=Zmt
 refine bd (wpAny_attempt (wpAny_callSpecial?_slot (name:=YD3) dJ NR (wpAny_call_entry NR dJ F.entry_zip_next (ae0 bJ D Z aq λh' e aR he=>?_) Z3s)));exact he.elim λo q=>bd (wpAny_isInstance (T:="StopIteration") (b:=true) ⟨o,q.1,q.2⟩ isSubtype_stop (wpAny_pure (dp _ aR)))
noncomputable abbrev AQ (h:Heap) (l1:Nat):Heap:=h.push {cls:=YQH,data:=ZY #[Yc9,YBx]}
noncomputable abbrev Er (h:Heap) (l1 l2:Nat):Heap:=(AQ h l1).push {cls:=YQH,data:=ZY #[YcA,YBx]}
noncomputable abbrev Es (h:Heap) (l1 l2:Nat):Heap:=(Er h l1 l2).push (mM [YC8,Y0 (AQ h l1).objs.size] 0)
noncomputable abbrev Et (h:Heap) (l1 l2:Nat):Heap:=(Es h l1 l2).push (mM Z9G 0)
noncomputable abbrev wz (h:Heap) (l1 l2:Nat):Heap:=(Et h l1 l2).push {cls:=YQI,data:=ZY #[Y7,Y1A,Y1A,Y0 (Er h l1 l2).objs.size,Y0 (Es h l1 l2).objs.size]}
theorem ae5(l1 l2:Nat)(xs bf:Y1N):Meets (Builtin.«zip.__new__» ⟨[YQI,Yc9,YcA],[]⟩) (λO R s=>s.heap.IsTuple l1 xs∧s.heap.IsTuple l2 bf∧R (.ok (YS (Y0 YZm))) {s with heap:=ZeF}):=
 .of_wp λprog w A R s h=>by
  have qk:=sub_zip;have av:ab0 (ab1 ⟨AQ s.heap l1,s.gens,s.drawn,s.toks,s.os⟩) l2 bf:=h.2.1.at λo e=>Y5Z;refine Yg;intro ae6 ae7 ae8
  wp_walk using wpAny_pyIter_tuple (h.1:ab0 ZDA l1 xs),wpAny_pyIter_tuple av
  exact⟨_,rfl,Y9B⟩
theorem nl{n:Nat}(h:a<n):a≠n+k:=Nat.ne_of_lt (ew h (cx n k))
theorem kN{n b:Nat}(h:YCl):n+a≠n+b:=λe=>h (ab3 e)
theorem ae9{n l1 l2:Nat}(ak:l1<n)(av:l2<n):ZipApart (n+4) (n+2) (n+3) (n+0) (n+1) l1 l2:=
 ⟨Y7r,Y7r,Y7r,Y7r,Y7r,Y7r,Y7r,Y7r,Y7r,Y7r,YVx,YVx,YVx,YVx,YVy,YVy,YVy,YVy⟩
theorem afa{l1 l2:Nat}{Q:Y8}(ak:TupAt s.heap l1 xs)(av:TupAt s.heap l2 bf)(h:∀h',uG h' Yol Yok ZZ3 (s.heap.objs.size+0) Y1J l1 l2 0 xs bf Y7 Y7→Y9C→Q (Y0 Yol) Yx):
  WP g A (call YQI [Yc9,YcA]) Q s:=by
 refine callType_new F.called_zip YC (F.typeCall_zip_2 _ _) (F.newCall_zip_2 _ _) (λobj=>F.args_object_init_3 obj _ _) F.entry_zip_new (ae5 l1 l2 Z1 Y6G) ⟨jx ak,jx av,?_⟩;have bx:YuI=Y1J:=YBI;have cM:YuM=Yok:=Yaz (congrArg Y3l bx);have mR:YuN=ZZ3:=Yaz (congrArg Y3l cM);have iW:YZm=Yol:=Yaz (congrArg Y3l mR);have ge:YJS YZm=YHq:=ZW;have mS:YJS YuN=YHq:=Yjy;have P8:YJS YuM=YHq:=Yjx;have sN:YJS YuI=YHq:=ZNL;have ga:YJS s.heap.objs.size=YHq:=eu _ ZNL;have ro:hU s.heap ZeF:=λa o e=>eu _ (eu _ (eu _ ZNM));show And _ _;rw[iW];rw[iW,cM,mR]at ge;replace mS:=bN mR mS;rw[cM,bx]at P8;rw[bx]at sN;exact⟨⟨_,ge,rfl⟩,h _ ⟨ge,P8,mS,⟨_,ga,rfl,rfl⟩,⟨_,sN,rfl,rfl⟩,(jx ak).at Zjf,(jx av).at Zjf⟩ ro⟩
def sO(v:V):Bool:=v.eM false λws=>ws.casesOn false λa O=>a.isStr
def wA(h:Heap)(a b:Value):Y1:=(a=Y7∧b=Y7)∨∃i t v,a=Y6z∧aK h b v∧sO v=true
theorem afb{a b:Value}(x:YXp):¬kept h (mM Y1R 0):=λk=>k.elim (λq=>hn q.1 λe=>absurd e YC) λk=>k.elim λxs k=>k.elim λn k=>by
 have e:=congrArg abR (abS (congrArg ua k.1)).1;subst(e:Y1R=xs);rcases x with x | x
 ·(replace k:=HG x.1 k;rw[x.2]at k);exact k.2.1 rfl
 ·refine x.elim λi x=>x.elim λt x=>x.elim λv x=>(V.ph ZJ).elim λws q=>?_;have cP:=Y2K;replace cP:=bL q.1 cP;refine cP.gj.elim λp z=>z.elim λym z=>(k.2.2 i t p (aT x.1 (gS z.1 rfl))).elim λy c=>c.elim λbf c=>c.elim λn c=>z.2.1.elim YES
  cases ws with
  |nil=>exact nb q.2
  |cons w ws=>
   refine z.2.2.un λmP AB c1 gA O=>(V.kr (q.2:w.isStr=true)).elim λn fq=>?_;rw[fq,((g4 (cA c1 (congrArg abR (abS (congrArg ua (c4 hm c))).1:ym=YcD))).1)]at gA;exact gA.elim λt u=>u.elim λs u=>hn u.2
theorem wA.keep{a b:Value}(k:Y2T)(x:YXp):wA h' a b:=x.imp id λx=>x.imp λi x=>x.imp λt x=>x.imp λv x=>⟨x.1,ZeL,ZJ⟩
noncomputable abbrev yz (z c2 dM dt:Nat):Yo:=λb=>b=z∨b=c2∨b=dM∨b=dt
theorem Eu{TI l1 l2:Nat}{a b:Value}(Z:uG h z TI c2 dM dt l1 l2 k xs bf a b)(x:YXp):mg Yqw h:=λc ao=>ao.elim (uE Z.1 rfl YC YC c) λao=>ao.elim (λe=>⟨_,aa e Z.3,afb x⟩) λao=>ao.elim (pw Z.4 c) (pw Z.5 c)
def Io(vs ws:Y3)(i:Nat):V:=YD [YED,ws.getD i Y7]
theorem V.int_at(h:YIA)(af:Y7n):∃n,YED=Y8Q:=V.jM (by
 have:=ZSH;exact Yug)
theorem afc(h:vs.all sO=true)(af:Y7n):sO YED=true:=by
 have:=ZSH;exact Yug
abbrev afd(vs ws:Y3)(z TI c2 dM dt l1 l2:Nat)(i:Nat)(h:Heap)(P:Y1):Y1:=∀(xs bf:Yn)(a b:Value),uG h z TI c2 dM dt l1 l2 i xs bf a b→YXp→TupAt h l1 xs→TupAt h l2 bf→Y0z→ZAY→P
abbrev afe(vs ws:Y3)(z TI c2 dM dt l1 l2:Nat)(i:Nat)(h:Heap):Y1:=∀P:Y1,afd vs ws z TI c2 dM dt l1 l2 i h P→P
theorem ha.zip(bJ:Zf){es:Ye}{TI l1 l2:Nat}(D:YKV)(P9:Y7m)(Qa:hv ws=true)(aE:ZeC)(aO:YIA)(hw:ZeA):
  ha g A YJW z vs.length true Z4Y Y5n Yqw (afe vs ws z TI c2 dM dt l1 l2):=
 ⟨λi h st=>st _ λxs bf a b iX lg t1 cy b6 dv=>Yd9,
  λi h h' st k kt=>st _ λxs bf a b iX lg t1 cy b6 dv=>
  have t1:=ZbG;have cy:=ZK7
  (λO bA=>bA xs bf a b (⟨k _ _ Zj iX.1,kt _ _ iX.2 (YJ ⟨_,_,rfl,HL h _ _⟩),k _ _ YbU iX.3,iX.4.at λo e=>k _ o (YJ YbU) e,iX.5.at λo e=>k _ o (YJ Z0S) e,jx t1,jx cy⟩) (lg.keep kt) t1 cy ZFg ZLT),
  λi s mh P af st ae O w ar=>st _ λxs bf a b iX lg t1 cy b6 dv=>(b6.at af).elim λx aq=>(dv.at (aE▸af)).elim λy bb=>
  ae3 D iX Y4F Y7Z λh' aff afg a1 a2 at_ old=>⟨_,rfl,wpAny_letOwnedTupleGo_zip aff λav fz s2=>by
   have lv:=Yd9;have El:∀c o,Zfr→YWz→av.get? c=YB:=λc o n e=>(YDz c YsA).trans (old c o YsA (λq=>n Z0Q) Zk5 (λq=>n (YJ Z0R)) e);have kt:=sJ lv El;have t1:=ZbG;have cy:=ZK7;have c9:uG av z TI c2 dM dt l1 l2 (i+1) xs bf x y:=⟨fz,kt _ _ iX.2 (YJ ⟨_,_,rfl,HL s.heap _ _⟩),(YDz _ D.TOz).trans afg,a1.at λo e=>(YDz _ D.i1z).trans e,a2.at λo e=>(YDz _ D.i2z).trans e,jx t1,jx cy⟩
   have lg:wA av x y:=Yus λn fq=>(aV fq Y6E:aK s.heap x Y8Q).elim λt jy=>YJ ⟨n,t,_,jy,ZGe,afc hw (aa aE af)⟩;have m:=sL (s':={s with heap:=av}) ae w lv El (Eu c9 lg) rfl rfl;exact ar _ _ ⟨_,rfl,_,_,rfl,⟨0,(YDz _ ((λe=>p8 YDB:∀{c o},YWz→s.heap.objs.size≠c) iX.1)).trans at_⟩,a9.cons Ygx (a9.cons ZGe a9.nil)⟩ m.1 m.2 (λO bA=>bA xs bf x y c9 lg t1 cy ZFg ZLT)⟩,
  λs mh P st ae O w ar=>st _ λxs bf a b iX lg t1 cy b6 dv=>ae4 bJ D iX (Ig b6) λh' old=>
  have k:∀c o,Zfr→YN5:=λc o n e=>old c o YsA Zk5 e;have c7:j4 Yqw s Yx:=⟨k,sJ Yd9 k⟩
  YG1,
  λi s P st h=>st _ λxs bf a b iX O O O O O=>wpAny_pyIter_zip iX.1 h⟩
def isStar(e:aI):Bool:=PySem.Expr.casesOn e Y1j Y1j Y1Y Y1j Y1Y Y1Y Y1j Y1j Y1Y Y1Y Zg1 Y1Y Y0P Y0P Y0P Y1Y Y1Y Y1Y Y0P Y1j Y1j Y1j Y0U Y0P Y0P Y1j Y1Y
theorem Qb{r:Ye}(e:aI):Ym1→starEach (e::r) env=Y8L::starEach r env:=p7 e ZR ZR ZA ZR ZA ZA ZR ZR ZA ZA Y1i ZA Y0n Y0n Y0n ZA ZA ZA Y0n ZR ZR ZR YIb Y0n Y0n ZR ZA
def isSet(e:aI):Bool:=PySem.Expr.casesOn e Y1j Y1j Y1Y Y1j Y1Y Y1Y Y1j Y0o Y1Y Y1Y Zg1 Y1Y Y0P Y0P Y0P Y1Y Y1Y Y1Y Y0P Y1j Y1j Y1j Y0P Y0P Y0P Y1j Y1Y
theorem Qc(e:aI):YGy→∀x,foldedSetIterable e env x=YDq:=p7 e ZA ZA Y1i ZA Y1i Y1i ZA (λO O O h O=>Y0L) Y1i Y1i Y85 Y1i ZR ZR ZR Y1i Y1i Y1i ZR ZA ZA ZA ZR ZR ZR ZA Y1i
def noStar(es:Ye):Bool:=es.all λe=>!isStar e
theorem nJ{es:Ye}(h:Y5e)(pos:Pos):YSn=ZN7:=by
 induction es with
 |nil=>rfl
 |cons e es ai=>
  exact dG h λbD bC=>aX (Qb e Yxa) (congrArg (_::·) (ai bC))
theorem lh{es:Ye}:∀x∈es.map YYl,YqT:=λx aq=>Ywn λe q=>aV q.2 rfl
theorem rp{c:bP}{mh:ag}{s:Shared}{es:Ye}{Q:Ys}(h:Ykf)(aG:Z5)(ae:YU)(aN:Y4H):fW g A cX s mh (spliced ZN7) (adH Q):=by
 induction es generalizing mh s Q with
 |nil=>exact NS ⟨mh,ae,Yy,[],a9.nil,h⟩
 |cons e es ai=>exact NT (Y0p λv s1 z=>z.elim λm1 z=>Y0g λx q=>(ai q.2 z.1 Y2G).mono λvs s2 y=>y.elim λaH y=>YIK λxs p=>
   ⟨aH,y.1,YEI,Yqd,a9.cons YHd p.1,p.2⟩)
theorem rq{c:bP}{n:Str}(L:ZI)(h:YGG):Yjm:=(L.1 n _ h).elim id λq=>o8 q.1
theorem a5.afh(ae:YU):eU g.h₀ s.heap:=.of Y5T
theorem Ew{c:bP}{gl:YQz}(B:Z2u){n:Str}{P:Y8}(ae:YU)(aN:Y4H)(aR:Yjm)(ah:Y5u)(e:YnT=YXG)(h:P x s):WP g A ZNN P s:=
 YCH λp q=>q.elim λloose q=>q.elim λrn q=>q.elim λpq T=>
  have iY:=Z83
  Name_function_global aN.1 aR (loadGlobal_global (env:=env) ZEB (mg_of Z2j iY.g e) h) ah
theorem AR{c:bP}{gl:YQz}(B:Z2u){n:String}{P:Y8}(ae:YU)(aN:Y4H)(aR:env.kindOf YD4=Y27)(ah:(YD4==Y1l)=false)(az:n∈yu)(aq:bootBuiltins YD4=YQ)(iA:YD4≠"__name__")(h:P x s):WP g A (eval (Y09 YD4 pos) env) P s:=
 YCH λp q=>q.elim λloose q=>q.elim λrn q=>q.elim λpq T=>
  have iY:=Z83
  Name_function_global aN.1 aR (loadGlobal_builtin (env:=env) ZEB (mg_none_of Z2j iY.g (B.5 n az)) (aj aN.3 iY.b) ((T.builtins _ iA).trans aq) h) ah
def yA(c:bP)(e:aI):Option YrC:=
 Yuk none λx=>(uC Y2a).elim none λn=>
  if h:And (noStar YEF=true) (And (ZIM=Y27) (ZV2=false))then some ⟨(n.1,YEF),YVq λp q=>⟨p,YXt,ZeO (congrArg (λf=>ab4 f YEF [] YXt) q)⟩,⟨h.1,YGr,Y9B⟩⟩else none
theorem uH{E:Y8}{f:Value}{P:Args→YP}{l:Ydk}(ar:∀x∈l,YqT)(h:wpAny M A (spliced l) (λvs s'=>P YtE s') E s):wpAny M A (evalArgs f true l []) P E s:=by
 cases l with
 |nil=>
  show wpAny M A (spliced [] >>= _) P E s;exact bd (wpAny_mono h (λvs s' h'=>bd (wpAny_pure (wpAny_holding (bd (wpAny_pure (bd (wpAny_pure (wpAny_pure h')))))))) YrO)
 |cons x l=>
  (rw[YxG]at h;refine aa YxG ?_)
  exact evalArgs_plain h
theorem any_false{l:Ydk}(ar:∀x∈l,YqT):ZTP:=List.any_eq_false.mpr λx aq=>dS (ar x aq) h8
variable{need:Y6}{ey:Nat}
theorem ha.congr{n:Nat}{weak:Bool}{v ov:YKE}{St:Y47}(W:ZQV)(az:ey=n)(h:∀i,i<n→ov i=v i):ha g A tgt I ey weak ov need wr St:=
 ⟨W.1,W.2,λi s mh P af st ae iA w ar=>W.3 i s mh P ZFT st ae iA w λx s' bg=>ar x s' ((h i ZFT).symm▸bg),az▸W.4,W.5⟩
abbrev afi(g:G)(tgt:aI)(weak:Bool)(s:Shared)(mh:ag)(vals:Y3)(need:Y6)(sF:ag)(it:Value)(s2:Shared)(I:Nat)(wr:Yo)(St:Y47):Y1:=Ak (it=Y1B) (a5 g sF s2) (Step cX s mh s2 sF) (∀bl:Around,ZH8→ha g bl tgt I vals.length weak YYp need wr St) (St 0 s2.heap) (lI g wr sF) Ysi
abbrev afj(g:G)(tgt:aI)(weak:Bool)(s:Shared)(mh:ag)(Q:Y1C)(it:Value)(s2:Shared)(P:Y1):Y1:=∀(vals:Y3)(need:Y6)(sF:ag)(I:Nat)(wr:Yo)(St:Y47),afi g tgt weak s mh vals need sF it s2 I wr St→Q vals need sF→P
abbrev nK(g:G)(tgt:aI)(weak:Bool)(s:Shared)(mh:ag)(Q:Y1C)(it:Value)(s2:Shared):Y1:=∀P:Y1,afj g tgt weak s mh Q it s2 P→P
def ow(g:G)(k:Nat)(env:Env)(ns:YH)(r:bG)(mh:ag)(tgt:aI)(weak:Bool)(t:Y5O)(Q:Y1C):Y1:=
 ∀A s,Z5→YU→Y1d→WP g A t (λx s1=>WP g A YMo (nK g tgt weak s mh Q) s1) s
abbrev Src.pv(o:Src):Y1:=hR (∀{g H k env c r mh e es tgt Q},ZG→ZI→(o.weak=true→ZmN)→YMf→gH g k env c.ns r es mh (λvs m=>o.ij vs m Q)→ow g k env c.ns r mh tgt o.weak Y0s Q) (∀{H c e es},YMf→YGy)
@[reducible] def gq:Y4i:=Subtype Src.pv
noncomputable abbrev gq.o (x:gq):Src:=x.1
theorem gq.snd(x:gq):x.o.pv:=x.2
theorem yB(st:Y8e){b:Nat}(e:Y6Y):ZZ9:=we λo q=>(st.3 b o q).elim λo' z=>g7 z e
theorem AS(ae:YU){b:Nat}(e:Y6Y):ZOh:=we λo q=>g7 (Y5T b o q) e
theorem Ex(ae:YU)(f:Ysi):YDc:=λb ah=>⟨ae.fresh ZNe,AS ae ZNe⟩
noncomputable abbrev ox (a:Nat) (vs:Y3):Y6:=λm=>∃t,YVd
abbrev jj:Y6:=Y5n
variable{vals:Y3}
theorem Ey{Q:Y1C}{o:Obj}{weak:Bool}{St:Y47}(ae:YU)(st:Y8e)(W:∀bl:Around,ZH8→ha g bl tgt s.heap.objs.size vals.length weak YYp need (·=s.heap.objs.size) St)(h0:St 0 ZZ6)(h:Q vals need mh):nK g tgt weak s0 m0 Q Y2B Yr8:=
 have qq:∀b,YSd→Y6Y:=λb e=>e▸Y1f
 (λO bA=>bA vals need mh _ _ St ⟨rfl,ae.grow (s':=Yr8) Y51 rfl rfl,st.trans (Step.grow (s':=Yr8) Y51),W,h0,Ex ae qq,λb ah=>yB st (qq b ah)⟩ h)
theorem Qd{Q:Y1C}(ae:YU)(st:Y8e)(e:Y3u)(h:Q vs ZWL mh):WP g A ZXQ ZVI s:=
 ae.list e λxs ep aq bg=>wpAny_pyIter_list (items:=Z1) YGx (Ey ae st (λbl bJ=>ha.list bJ) Y6k h)
theorem Qe{Q:Y1C}(ae:YU)(st:Y8e)(bz:Yfw)(h:Q vs jj mh):YKT:=
 bz.gj.elim λa q=>q.elim λxs q=>YHe▸wpAny_pyIter_tuple ZSN (Ey ae st (λbl bJ=>ha.tuple bJ bz.1) ⟨Y6k,xs,YoF λn e=>YUr,YDt YF1⟩ h)
def nL(n:Nat):Y3:=Y8H λY9o=>V.int Y3k
theorem Ip{d x:α}(h:Yml):l.getD i d=x:=(ho ..).trans (congrArg (Ha · d) h)
theorem afk{n:Nat}(h:i<n):(nL n).getD i Y7=YJd:=YdO
theorem Qf{n:Nat}:Builtin.Range.rangeSize 0 Y0q 1=n:=by
 refine aj (rangeSize_one ..) ?_
 split
 ·exact Int.sub_zero _
 ·next h=>exact(Int.le_antisymm (Int.not_lt.mp h) Yq8).symm
theorem afl{Q:Y1C}{n:Nat}(hz:YB4)(ae:YU)(st:Y8e)(bz:aK s.heap x YJe)(h:Z6o):YKT:=
 bz.elim λa q=>YHf λt1 z=>z.elim λcy z=>z.elim λt3 aA=>YHe▸wpAny_pyIter_range (a:=0) (b:=n) (c:=1) aA (small_one YC YC Z5Z (Hb (Dk.mpr hz) YC))
  (Ey ae st (λbl bJ=>(ha.range (n:=n) bJ).congr YOd λi af=>afk af) (by
   have:=fM s.heap (o:={cls:=YE "range_iterator",data:=ZY #[YWp,rawInt (ab5 0 n 1),rawInt 1]}) rfl;have bo:ab5 0 Y0q 1=n:=Qf
   (rw[bo]at this;refine aa bo ?_)
   simpa using this) h)
def pairs(vs:Y3):Y3:=YaE Yo1
theorem Qg(h:Y7n):(pairs vs).getD i Y7=ZWo:=YdO
theorem Ez(h:Heap):∀b,ql YGt h.objs.size b→ZQ3:=λb e=>e.elim (λe=>e▸Yqu) λe=>e▸Y1f
theorem afm{Q:Y1C}{es:Ye}(ae:YU)(st:Y8e)(e:Y3u)(h:Q YWT ZWL mh):
  WP g A (call YJr Y8j) YZ1 s:=
 ae.list e λxs ep aq bg=>call_enumerate_list (items:=Z1) YGx λh' he hit O b5=>wpAny_pyIter_enum he
  (λO bA=>bA YWT _ mh _ _ _ (⟨rfl,YCg,Zat,λbl bJ=>(ha.aeT (vs:=vs) bJ Ye4).congr YOd Zik,⟨Zn4,hit⟩,Z3n,ZhQ⟩) h)
theorem afn{Q:Y1C}{es:Ye}(ae:YU)(st:Y8e)(bz:Yfw)(h:Q YWT jj mh):
  WP g A (call YJr [x]) YZ1 s:=
 bz.gj.elim λa q=>q.elim λxs q=>YHe▸aeP (items:=Z1) ZSN λh' he hit O b5=>wpAny_pyIter_enum he
  (λO bA=>bA YWT _ mh _ _ _ (⟨rfl,YCg,Zat,λbl bJ=>(ha.aeU (vs:=vs) bJ Ye4 bz.1).congr YOd Zik,
   ⟨Zn4,hit,xs,YoF ZjQ,YDt Y63⟩,Z3n,ZhQ⟩) h)
def qr(vs ws:Y3):Y3:=YaE Z4Y
theorem afo(h:Y7n):(qr vs ws).getD i Y7=Io vs ws i:=YdO
theorem Qh(h:Heap):∀b,yz (h.objs.size+4) (h.objs.size+3) (h.objs.size+0) YGt b→ZQ3:=λb e=>yo (e.elim YYm λe=>e.elim YYm λe=>e.elim YYm YYm)
theorem afp{Q:Y1C}{es:Ye}{y:Value}(ae:YU)(st:Y8e)(bg:Yfw)(gA:aK s.heap y Y8U)(aE:ZeC)(aO:YIA)(hw:ZeA)(h:Q ZXz jj mh):
  WP g A (call YQI Y2E) YZ1 s:=
 bg.gj.elim λa q=>q.elim λxs q=>gA.gj.elim λb bS=>bS.elim λbf bS=>by
  (refine Ax q.1 (aa Y3D ?_))
  refine afa YG YSm λh' Z ro=>wpAny_pyIter_zip Z.1 ?_;have lt:∀{a xs},Yeu→ZAj:=λt=>t.elim λn e=>YDB;exact(λO bA=>bA ZXz _ mh _ _ _ (⟨rfl,ae.grow (s':=Yx) ro rfl rfl,st.trans (Step.grow (s':=Yx) ro),λbl bJ=>(ha.zip bJ (ae9 (lt YG) (lt YSm)) bg.1 gA.1 aE aO hw).congr YOd λi af=>afo af,
   (λO bA=>bA xs bf _ _ Z (YY Zn) (YoF ZjR) (Y1p.1.imp ZjR) (YDt Z0k) (Y1p.2.keep Z0k)),Ex ae (Qh _),λb ah=>yB st (Qh _ b ah)⟩) h)
theorem afq{c:bP}{Q:Y1C}{t:aI}{weak:Bool}(h:Ev g k env c.ns r mh Yk4 λv m=>∀A s0 m0 s x,Z5→Y4l→YFh→Y2k→WP g A YMo ZVJ s):ow g k env c.ns r mh tgt weak Yk4 Q:=λA s aG ae aN=>
 Y0p λx s1 z=>z.elim λm1 z=>Y0g λv q=>q.2 A s mh s1 x aG z.1 z.2 q.1
variable{H:ih}
theorem afr{c:bP}{Q:Y1C}{e:aI}{nm:String}{T:String}{weak:Bool}{R:Ys}(K:ZG)(L:ZI){x:YrC}(aq:YqR)(az:YnP)(ah:ZHB)(iA:Yju)(h:gH g k env c.ns r Y1K mh R)(go:∀A s0 m0 s m vs xs,Z5→Y4l→YFh→Y39→R vs m→WP g A ZJB (λy s1=>WP g A YoC ZVJ s1) s):ow g k env c.ns r mh tgt weak Y0s Q:=λA s aG ae aN=>by
 refine YIG λp q=>q.elim λpos q=>?_
 (refine jL q ZCl)
 exact wpAny_Call_NameR (AR K.1 ae aN (aq▸rq L YXu) (aq▸YXv) az ah iA (ix (nJ YIH ..) (ayc YAR (uH lh (YPD λxs s1 z=>z.elim λm1 z=>Y0g λvs y=>go A s mh s1 m1 vs xs aG z.1 z.2 y.1 y.2)))))
def Iq(e:aI):Y67:=if YGy then some [e]else none
theorem Qi{e:aI}{es:Ye}(h:Iq e=Y2J):es=[e]∧YGy:=by
 unfold Iq at h;by_cases q:YGy
 ·replace h:=Yg7;exact⟨Y5r,q⟩
 ·replace h:=Yg6;exact Y08
def one{α:YKM}(vs:Y3)(d:α)(f:V→α):α:=vs.casesOn d λv r=>r.casesOn (f v) YYW
def two{α:YKM}(vs:Y3)(d:α)(f:V→V→α):α:=vs.casesOn d λv r=>one r d (f v)
inductive AU(m:ag)(a:Nat)(Q:YFS):Y1
 |mk (t:Nat) (vs:Y3) (h:YVd) (q:YRQ):AU m a Q
def lst(v:V)(mh:ag)(Q:YFS):Y1:=v.oi False λa=>AU mh a Q
def V.EA{α:YKM}(v:V)(d:α)(f:YeB):α:=V.casesOn v d YIc YIc YIc YIc f YIc
theorem Ev.mono{g k env ns r mh t}{Q':Yj}(h:Ev g k env ns r mh t Q)(m:YZ7):Ev g k env ns r mh t Q':=λA s aG ae aN=>HM ZPU λO O O z=>ZfD
theorem jN{v:V}{Q:YFS}{P:Y1}(h:lst v mh Q)(f:∀a t vs,YNV→Y3u→YRQ→P):P:=by
 cases v with
 |ref a=>exact AU.casesOn h ZkP
 |_=>exact h.elim
theorem yC{v:V}{f:Yo}{P:Y1}(h:v.oi False f)(k:∀a,YNV→f a→P):P:=by
 cases v with
 |ref a=>exact YH6
 |_=>exact h.elim
theorem lJ{v:V}{f:Y7D}{P:Y1}(h:v.eM False f)(k:∀vs,YI7→f vs→P):P:=by cases v with | tup vs=>exact k vs rfl h | _=>exact h.elim
theorem afs{v:V}{f:Yo}{P:Y1}(h:v.EA False f)(k:∀n,v=YJe→YUO):P:=by cases v with | kM n=>exact YmJ | _=>exact h.elim
def yD(P:V→YKp):Src:=⟨false,λO O e=>Iq e,λvs mh Q=>one vs False λv=>P v mh Q⟩
theorem AV{P:V→YKp}(go:∀{g:G}{A:Around}{s0 s:Shared}{m0 m:ag}{x:Value}{v:V}{tgt:aI}{Q:Y1C},Y4l→YFh→Y2k→P v m Q→YKT):(yD P).pv:=
 ⟨λ{g H k env c r mh e es tgt Q}K L O hm h=>by
  replace h:=lG Z6y.1 h;have h:Ev g k env c.ns r mh Y0s λv m=>P v m Q:=h;exact afq (h.mono λv m q A s0 m0 s x aG ae st bz=>ZPH),
  λhm=>Z6y.2⟩
theorem aK.fP{v:V}(r:Y2F)(e:YNV):Y83:=(YUJ:aK h x YA)
def hb:gq:=⟨yD λv mh Q=>lst v mh λa t l=>Z6r,AV λae st bz q=>jN q λa t l e hm q=>YJ1▸Qd ae st hm q⟩
def iK:gq:=⟨yD λv mh Q=>v.eM False ZjJ,AV λae st bz q=>lJ q λl e q=>Qe ae st YUI q⟩
def nM:gq:=⟨yD λv mh Q=>v.EA False λn=>YB4∧Z6o,AV λae st bz q=>afs q λl e q=>afl q.1 ae st YUI q.2⟩
def EB(nm:String)(P:Ydp):Src:=⟨true,λO c e=>Yb7 none λx=>if YqR then some Y1K else none,P⟩
theorem elim_some{o:Y7E}{f:YO1}{b:β}(h:ZVp):∃a,f a=Y6d:=by cases o with
 |none=>exact Y08
 |some a=>exact⟨a,h⟩
theorem aft{p:Y1}[Decidable p]{a b:β}(h:(if p then Y0l else none)=Y6d):p∧a=b:=by
 by_cases q:p
 ·replace h:=Yg7;exact⟨q,Y4u⟩
 ·replace h:=Yg6;exact Y08
theorem afu{a:aI}{b:Ye}{p:Pos}{e:aI}(h:ZLp):YGy:=h▸rfl
theorem Ir{nm T:String}{P:Ydp}(az:YnP)(ah:ZHB)(iA:Yju)(go:∀{g:G}{A:Around}{s0 s:Shared}{m0 m:ag}{vs:Y3}{xs:Yn}{es:Ye}{c6:Nat}{pos:Pos}{Q:Y1C},Y4l→YFh→Y39→P vs m Q→WP g A ZJB YZ1 s):(EB nm P).pv:=
 ⟨λK L bq hm h=>YaK λx q=>(bq rfl).elim λas z=>z.elim λc6 z=>z.elim λp z=>by
  have q:=aft q;replace h:=d9 q.2 h;subst z;exact afr K L q.1 az ah iA h λA s0 m0 s m vs xs aG ae st bz q=>ZPH,
  λhm=>YaK λx q=>YIG λp z=>z.elim λpos z=>afu z⟩
theorem a9.one{v:V}(r:a9 h xs [v]):∃x,xs=[x]∧Y2F:=r.un λx bf e a b=>⟨x,aj e (congrArg _ b.jh),a⟩
theorem a9.two{v u:V}(r:a9 h xs [v,u]):∃x y,xs=Y2E∧Y2F∧Yfu:=r.un λx bf e a b=>b.one.elim λy q=>⟨x,y,ZEJ,a,q.2⟩
theorem rr{f:Y5Q}{P:Y1}(h:one vs False f)(k:∀v,vs=[v]→f v→P):P:=by
 cases vs with
 |nil=>exact h.elim
 |cons v r=>cases r with
  |nil=>exact k v rfl h
  |cons _ _=>exact h.elim
theorem uI{f:V→Y5Q}{P:Y1}(h:two vs False f)(k:∀v u,vs=[v,u]→f v u→P):P:=by
 cases vs with
 |nil=>exact h.elim
 |cons v r=>exact rr h λu e q=>k v u YAm q
def yE:gq:=⟨EB "enumerate" λvs mh Q=>Mine.Internal.one vs False λv=>lst v mh λa t l=>Q YWS YHX mh,
 Ir (T:="enumerate") YC Y1F ZL λae st bg q=>rr q λv e q=>jN q λa t l aC hm q=>YaM λx z=>YIN▸(z.2.fP aC).symm▸afm ae st hm q⟩
def It:gq:=⟨EB "enumerate" λvs mh Q=>Mine.Internal.one vs False λv=>v.eM False λl=>Q YWS jj mh,
 Ir (T:="enumerate") YC Y1F ZL λae st bg q=>rr q λv e q=>lJ q λl aC q=>YaM λx z=>YIN▸afn ae st (aC▸z.2) q⟩
def Qj:gq:=⟨EB "zip" λvs mh Q=>Mine.Internal.two vs False λv u=>v.eM False λl=>u.eM False λm=>m.length=l.length∧Ymd∧m.all sO=true∧Q (qr l m) jj mh,
 Ir (T:="zip") YC Y1F ZL λae st bg q=>uI q λv u e q=>lJ q λl aJ q=>lJ q λm aC q=>(e▸bg).two.elim λx z=>z.elim λy z=>YIN▸afp ae st (aJ▸Z4) (aC▸Z3) q.1 YG Yq.1 Yq.2⟩
def mi(h:Heap)(D:Nat)(acc:Y3):Y1:=∃xs ep,h.get? D=Y82∧a9 h xs acc
def sP(g:G)(k:Nat)(env:Env)(ns:YH)(r:bG)(mh:ag)(ifs:Ye)(Q:Y0i):Y1:=
 ∀A s,Z5→YU→Y1d→fW g A cX s mh YkU Z6S
theorem Qk{Q:Y0i}(h:Z6t):sP g k env ns r mh [] Q:=λA s aG ae aN=>wpAny_tests_nil ⟨mh,ae,Yy,h⟩
abbrev afv(g:G)(env:Env)(ns:YH)(s:Shared)(mh:ag)(Q:Y7X)(s':Shared)(bI:bG):Y1:=hr Y4B YKO (de g env ns bI mh s') (Q bI)
def sQ(g:G)(k:Nat)(env:Env)(ns:YH)(r:bG)(tgt:aI)(weak:Bool)(v:V)(Q:Y7X):Y1:=
 ∀A s mh x,Z5→YU→Y1d→uD weak s.heap x v→WP g A YKs (λO s'=>∃bI,afv g env ns s mh Q s' bI) s
abbrev rt(g:G)(wr Y:Yo)(D:Nat)(s0:Shared)(m0:ag)(s:Shared)(m:ag)(acc:Y3):Y1:=iG Y4l (Step Y s0 m0 s m) Ymj YVk (m D=none)
variable{D:Nat}{ab:ag}{acc:Y3}
theorem rt.hc{X:Yo}(x:YWs)(lv:Yn4)(ae:YAL)(st:Z7o)(jO:∀b,X b→Y b)(afw:¬X D):rt g wr Y D s0 m0 s' ab acc:=
 ⟨ae,ZeO (st.weaken jO),x.3.step lv st,x.4.imp λxs q=>q.imp λep q=>⟨Y0f _ _ q.1 x.5 afw,Y9T Y5j⟩,x.4.elim λxs q=>q.elim λep q=>st.out q.1 x.5⟩
theorem ha.sR{X:Yo}{n:Nat}{weak:Bool}{v:YKE}{St:Y47}(W:ZQV)(h:YKN)(w:Ymj)(st:Z7o)(wB:∀b,Y3N→¬X b):St i s'.heap:=
 W.2 _ _ _ h (λb o ah e=>Y0f b o e (w b ah).1 ZdM) Y5j
theorem mi.append{v:Value}{x:V}{Q:Y8}(y:YVk)(ae:YU)(iL:ZUd)(hz:Y8q)(bz:aK s.heap v x)(h:∀u s',Y4B→Step (·=D) s mh s' mh→mi s'.heap D Ygf→Q u s'):WP g A (call YPS [Y2f,v]) Q s:=
 y.elim λxs q=>q.elim λep q=>call_meets abV (ou q.1) F.entry_list_append ZFA (axZ D Z1 ep v (aj Y0D (aj q.2.length YGf))) ⟨q.1,by
  have cR:=Ea (f:=Ymh) (o':=jZ Zef (if(bT Zef).size==Y2N then ep else Y94)) q.1 (Pl YgY) rfl;have a:=sL (wr:=(·=D)) (s':={s with heap:=s.heap.update D (Ymh)}) ae (λb e=>aa e iL) (λb e=>⟨_,aa e q.1,Az _ _⟩) (λb o nb e=>((km s.heap D (Ymh)).2 b nb).trans e) (λb e=>⟨_,Ya7 cR,Az _ _⟩) rfl rfl;exact h _ _ a.1 a.2 ⟨_,_,cR,(Y9T Y7I).append (a9.cons Yi3 a9.nil)⟩⟩
theorem de.apart(x:Y1d)(fr:Ysi)(a:Nat)(h:YMZ):YrF:=λq=>h.elim
 (λe=>YXw λm z=>(AI z.1).elim λo z=>z.elim λO z=>z.elim λO z=>g7 z.1 (aV e YkV))
 λh=>h.elim λn e=>(x.8 n a e).2.elim λv z=>z.elim λo z=>g7 z.1 YkV
theorem de.gone(x:Y1d)(c7:YM9)(h0:YIk):de g env ns r mh s':=
 ⟨x.1,
  x.2,
  x.3,
  x.4,
  Yqa λm q=>⟨AH q.1 λo e=>YGH _ _ ZQ7 e,λi n v ak av aP=>Yaq λy z=>⟨z.1,ZfC⟩⟩,
  x.6,
  λi n v ak av aP=>YzL λc q=>q.imp λy q=>⟨q.1,uA YG λo e=>YGH _ _ ZQ9 e,YDt c7.2⟩,
  λn c h=>have q:=ZeQ;⟨q.1,YMq λv z=>uA z λo e=>YGH _ _ ZQ8 e⟩,
  x.9⟩
variable{iter:aI}{elt:aI}{scope:Scope}{ifs:Ye}{gens:YCP}
theorem afx{depth:Nat}{it acc:Value}(cR:ZP8)(aE:ZP7):
  compTurn YEq depth it acc env=(do
   standAt iter.pos
   match ←ZXS with
   |none=>ZXB
   |Ym=>
    letOwnedTupleGo tgt it v
    assign tgt env v
    let ok ←YkU
    if ok then
     (do let _ ←call YPS [acc,←Yk3])
    again (Y5y YEq depth it acc env)):=by
 dsimp only [compTurn];simp only [cR,aE];rfl
theorem drop_cons{v:V}(h:YEC=Y0O):ZQx∧Zd1=v∧vals.drop (i+1)=vs:=by
 have af:ZQx:=Dl λq=>gP _ _ (cA h (List.drop_of_length_le q));replace h:=aQ (NV af) h;exact⟨af,cA YRC YUd.1,YUd.2⟩
theorem Iu(h:YEC=[])(le:Ym5):i=vals.length:=mG le (OE h)
theorem EC{n:Nat}(h:i<n):n - (i+1)<n - i:=ayd h YW8
def ED(g:G)(k:Nat)(env:Env)(ns:YH)(r:bG)(tgt:aI)(weak:Bool)(ifs:Ye)(elt:aI)(v:V)(acc:Y3)(m:ag)(N:Ys):Y1:=
 sQ g k env ns r tgt weak v λb6=>Ysd∧sP g k env ns b6 m ifs λok aH=>cond ok (Ev g k env ns b6 aH Yk3 λx bF=>Y8q∧N Ygf bF) (N acc aH)
abbrev Ql(g:G)(env:Env)(ns:YH)(r:bG)(wr Y:Yo)(D:Nat)(s0:Shared)(m0:ag)(vals:Y3)(St:Y47)(P:Y1O)(n:Nat)(s:Shared)(i:Nat)(m:ag)(acc:Y3):Y1:=yc ZVF YWs YLQ YKN (P YEC acc m) Ym5
theorem Qm{depth:Nat}{weak:Bool}{St:Y47}{K:Ys}{R:Y48}{P:Y1O}(cR:ZP8)(aE:ZP7)(aG:Z5)(W:YlM)(iL:YNy)(AW:YrE)(ap:YIk)(uJ:Ysh)(Iv:YDG)(az:ZlT)(ao:∀v vs acc m,Z6G→Y3I∧ED g k env ns r tgt weak ifs elt v acc m ZiK)(gI:Yse)(cs:YWs)(aN:YLQ)(h0:YRX)(h:Z6N):codeAny Yu A (Y5y YEq depth Y1B Y2f env) R s:=by
 let J:YRE:=ZjT;refine codeAny_loop rfl J ?_ vals.length Zmh;intro n s1 aq;refine ZEY;show wpAny Yu A ((compTurn YEq depth Y1B Y2f env).onRaise Zkw) _ _ s1;refine wpAny_noted (cb (afx cR aE) Zdx);intro Ph Pj adQ;refine Yhj;have ak:=L.5
 cases hd:YEC with
 |nil=>
  replace ak:=YHF;have q:=ZFQ;have e:=Z4e;refine Yg;intro azP azQ azR;refine Z8c
 |cons v vs=>
  replace ak:=YHF;have q:=ZEV;have d:=YjN;let Qo:YP:=λs'=>∃m,And (m<n) (J m s');let AX:Y8:=λx s2=>WP g A YKs (λO s3=>WP g A YkU (λok s4=>
    cond ok (WP g A Yk3 (λy s5=>WP g A (call YPS [Y2f,y]) (λO s'=>Qo s') s5) s4) (Qo s4)) s3) s2
  refine Yg;intro azS azT azU;refine Z8g
  ·have lj:=Z4t;replace bg:=YhQ;refine YyG;have afy:=Z8a;have iZ:=lj.hc afy z.1 z.2 ZhW YzZ;have fJ:=W.sR wC lj.3 z.2 (Yrc:Ysk);refine YzU λok s4 y=>y.elim λeK y=>?_;have nN:=iZ.hc Z8Y y.1 y.2 Y31 id;have mT:=W.sR fJ iZ.3 y.2 YrQ
   cases ok with
   |false=>exact⟨_,L.1▸Z3e,i+1,eK,EE,rfl,nN,(YYF y.2).Ia z.4.1,mT,aa YTd y.3,d.1⟩
   |true=>
    refine(y.3 A s4 aG y.1 Yqz).mono λu s5 p=>p.elim λi0 p=>p.3.elim λazV uL=>?_;have pz:=nN.hc (W.1 _ _ mT) p.1 p.2 Y31 id;have ru:=W.sR mT nN.3 p.2 YrQ;exact pz.4.append p.1 ⟨pz.5,Iv⟩ uL.2.1 uL.1 λu AY ia EF Iw=>⟨_,YgM,i+1,i0,_,rfl,⟨ia,pz.2.trans (EF.weaken λb h=>Zbg),(ZXT Z8Z EF),Iw,pz.5⟩,(((YYF y.2).ez p.2).step EF λa aD q=>AW (q▸aD)).Ia z.4.1,W.sR ru pz.3 EF λb ah q=>ZR4,aa YTd uL.2.2,d.1⟩
  ·have f3:=z.1;subst f3;refine Yg;intro azW azX azY;refine bd (YYE λO s3 gD=>bd (gD.mono λO s4 oy=>bd (oy.mono λok s5 qs=>?_)))
   cases ok with
   |false=>exact wpAny_pure ⟨rfl,qs⟩
   |true=>exact bd (bd (qs.mono λy AY wD=>bd (wD.mono λO Qp EG=>wpAny_pure Ze8)))
def jz(P:Y1O)(need:Y6)(K:Ys)(T:YKS):Y1:=
 ZlT∧∀v vs acc m,Z6G→Y3I∧T v acc m ZiK
def Qq(g:G)(k:Nat)(env:Env)(ns:YH)(r:bG)(t1:aI)(dD:Bool)(cy:aI)(w2:Bool)(dt elt:aI)(ifs:Ye)(v:V)(acc:Y3)(m:ag)(N:Ys):Y1:=
 sQ g k env ns r t1 dD v λb6=>Ysd∧ow g k env ns b6 m cy w2 Yk2 λvals2 Iy aH=>
  ∃P:Y1O,P vals2 acc aH∧jz P Iy N λv acc m N=>ED g k env ns b6 cy w2 ifs elt v acc m N
theorem afz{t1 dM cy dt:aI}{it acc:Value}:
  compTurn Y6t 0 it acc env=(do
   standAt dM.pos
   match ←ZXS with
   |none=>ZXB
   |Ym=>
    letOwnedTupleGo t1 it v
    assign t1 env v
    let x ←Yk2
    Zax
    let x ←YkT;let _ ←runOwn (YEu Y6t 1 (←holding [x] YMo) acc env) env
    again (Y5y Y6t 0 it acc env)):=by
 rfl
theorem afA{t1 dM cy dt:aI}{it acc:Value}{R:Y48}(h0:codeAny Yu A (Y5y Y6t 1 it acc env) R s)(h:wpAny Yu A (pyIter it) (λuM s'=>codeAny Yu A (Y5y Y6t 1 uM acc env) R s') (notedBy Yu A env λx s'=>R (Y6x x) s') s):
  codeAny Yu A (YEu Y6t 1 it acc env) R s:=by
 refine YLI;show wpAny _ _ ((compStart Y6t 1 it acc env).onRaise (λx=>do ZVd;standAt theWindowsPlace)) _ _ s;refine wpAny_notedAt ?_;show wpAny _ _ (ask >>= _) _ _ s;refine Yg;intro azZ az0 az1;refine bd (wpAny_askSetting (wpAny_ite ?_))
 split
 ·first
  |exact bd (wpAny_pure Zdz)
  |exact Zdz
 ·first
  |exact bd (wpAny_rule ZGv)
  |(refine ZGs;show wpAny _ _ (Zax >>= _) _ _ s;exact ZGv)
def afB(R:YP)(r:Result)(s':Shared):Y1:=match r with
 |.ok _=>R s'
 |Y6x _=>False
theorem afC{t1 dM cy dt:aI}{dD w2:Bool}{St:Y47}{K:Ys}{R:Y48}{P:Y1O}(hs:ZmF)(aG:Z5)(W:ha g A t1 I vals.length dD YYp need wr St)(iL:YNy)(AW:YrE)(ap:YIk)(uJ:Ysh)(Iv:YDG)(T:ZSQ)(gI:Yse)(cs:YWs)(aN:YLQ)(h0:YRX)(h:Z6N):codeAny Yu A (Y5y Y6t 0 Y1B Y2f env) R s:=by
 have wB:Ysk:=Yrc;let EH:YRE:=ZjT;let ex:aI:=Y6t;refine codeAny_loop rfl EH ?_ vals.length Zmh;intro n s1 aq;refine ZEY;show wpAny Yu A ((compTurn ex 0 Y1B Y2f env).onRaise Zkw) _ _ s1;refine wpAny_noted (cb afz Zdx);intro ad9 aea aeb;refine Yhj;have ak:=L.5
 cases hd:YEC with
 |nil=>
  replace ak:=YHF;have q:=T.1 _ _ ak;have e:=Z4e;refine Yg;intro az2 az3 az4;refine Z8c
 |cons v vs=>
  replace ak:=YHF;have q:=T.2 _ _ _ _ ak;have d:=YjN;let eC:Y48:=afB λs'=>∃m,And (m<n) (EH m s');let AX:Y8:=λx s2=>WP g A (assign t1 env x) (λO s3=>WP g A Yk2 (λy s4=>WP g A YoC (λIz s5=>codeAny Yu A (YEu ex 1 Iz Y2f env) eC s5) s4) s3) s2;refine Yg;intro ae1 ae2 az5;refine Z8g
  ·have lj:=Z4t;replace bg:=YhQ;refine YyG;have iZ:=lj.hc Z8a z.1 z.2 ZhW YzZ;have fJ:=W.sR wC lj.3 z.2 wB;refine YzU λy s4 oy=>oy.mono λIz s5 qs=>qs _ λvals2 Iy i0 afD wF az6 J qs=>qs.elim λAZ wD=>?_;have lK:=YdQ;have Qs:=Z8Y;have pz:=iZ.hc Qs J.2 J.3 Y31 id;have ru:=W.sR fJ iZ.3 J.3 YrQ;have Qt:∀{b o},s3.heap.get? b=YB→¬wF b:=λe q=>g7 e (J.7 _ q);have nw:∀b,Y3N→¬ZFv:=λb ah q=>q.elim (λq=>ZR4) λq=>q.elim ZdM λq=>(Qs b ah).elim λo y=>Qt y.1 q;have loop:codeAny Yu A (Y5y ex 1 (Y0 afD) Y2f env) eC s5:=by
    refine Qm (Y:=λb=>ZFv) (s0:=s5) (m0:=i0) rfl rfl aG lK (iZ.4.elim λxs y=>y.elim λep y=>Qt y.1:¬wF D) AW (z.3.apart J.7:∀a,YMZ→¬wF a) ZhV Iv wD.2.1 wD.2.2 ?_ ⟨J.2,Yy,J.6,pz.4,pz.5⟩ (YYF J.3) J.5 wD.1;intro afE pA Qp AY EI c7 ia afF Iw ax;exact⟨_,YgM,i+1,pA,afE,rfl,⟨ia,iZ.2.trans (Step.unfresh (wr:=wF) (c7.step ((Z4h (Y:=λb=>Y b∨wF b) Y31).trans (EI.2.weaken λb h=>h.elim (λh=>YY Zbg) λh=>h.elim (λh=>YY Yph) YJ)) J.7) J.7:Step Y s3 m1 AY pA),(ZXT Z8Z EI.2),Iw,EI.5⟩,afF.Ia z.4.1,(W.2 _ _ AY.heap (W.sR ru pz.3 EI.2 nw) (λb o ah e=>YGH b o (λq=>nw b ah Z0R) e) c7.2),aa YTd ax,d.1⟩
   exact J.1.symm▸afA loop (wpAny_mono (lK.5 0 s5 (λuM s'=>codeAny Yu A (Y5y ex 1 uM Y2f env) eC s') J.5 loop) Y3Q Y0E)
  ·have f3:=z.1;subst f3;refine Yg;intro afG afH az7;refine bd (YYE λO s3 gD=>bd (gD.mono λO s4 oy=>bd (oy.mono λy s5 qs=>bd (wpAny_standAt (bd (wpAny_of_eq (hs y) (bd (wpAny_holding (qs.mono λIz AY wD=>Yg)))))))));intro az8 az9 aAa;refine bd (wpAny_runOwn (codeAny_mono wD λr Qp EG=>?_))
   cases r with
   |ok f=>exact Ze8
   |error e=>exact EG.elim
abbrev Kinds:=Z5D
def mj(names:Kinds)(cells:Y7C):Y7C→Y7C:=names.rec id λx O ai cs=>cond YEG (ai YzK) ZDk
theorem Qu(n p:Str)(v:α)(r:YR1):YZV=cond (n==p) Ym YoS:=by rw[nz];cases n==p <;> rfl
theorem oz{n p:Str}(v:α)(r:YR1)(h:n=p):YZV=Ym:=Yum (by rw[h,beq_self_eq_true];rfl)
theorem oA{n p:Str}(v:α)(r:YR1)(h:n≠p):YZV=YoS:=Yum (by refine dT (beq_eq_false_iff_ne.mpr h) ?_;rfl)
theorem nO{n:Str}{v:α}{r:YR1}(h:YoS=Ym):YEh∈r:=by
 induction r with
 |nil=>exact Y08
 |cons p r ai=>
  by_cases e:YMY
  ·have:=cA ZWN h;exact xT.mpr (YY (iF e (cu this).symm))
  ·exact eI _ ZDg
abbrev A1(names:Kinds)(cells:Y7C):Y1:=∀x∈names,YqZ→(cells.lookup x.1).isSome=true
theorem some_of{o:Y7E}(h:o.isSome=true):∃a,YMg:=by cases o with
 |none=>exact Y0L
 |some a=>exact Yt5
variable{names:Kinds}
theorem afI(cs:Y7C)(h:A1 names env.cells):(forIn names cs λx r=>(if YEG then(do let a ←ZJT;pure (ub ((x.1,a)::r)))else ZXD):Sem Y7C)=pure (mj names env.cells cs):=by
 induction names generalizing cs with
 |nil=>rfl
 |cons x r ai=>
  refine aj Y4O ?_;have ai:=λcs=>ai cs λy bb=>h y YjZ;have e:mj Yqc env.cells cs=cond YEG (mj r env.cells ((x.1,(env.cells.lookup x.1).getD 0)::cs)) (mj r env.cells cs):=rfl
  cases q:YEG with
  |false=>exact bW e (DF q (aT YDR ZDk))
  |true=>
   refine(some_of (h x b3 Y1e)).elim λa ao=>?_;have aC:ZJT=pure a:=dT ao rfl
   (refine bW e (DF q (aT Y0c (gz aC (aa ao ?_)))))
   exact ai _
theorem Qv(h:Z2Z):closureFor scope env=pure YnE:=by
 have:=afI [] h;exact(congrArg (· >>= pure) this).trans ZHu
theorem afJ{cells cs:Y7C}{n:Str}{a:Addr}(hf:A1 names cells)(h:∀n c,cs.lookup n=Y0M→ZJU=Y0M)(e:Yxm n=Y0l):ZJU=Y0l:=by
 induction names generalizing cs with
 |nil=>exact h _ _ e
 |cons x r ai=>
  have yF:A1 r cells:=λy bb=>hf y YjZ;have e:Yvx n=Y0l:=e
  cases q:YEG with
  |false=>replace e:=DH q e;exact ai yF h e
  |true=>
   replace e:=DH q e;refine ai yF (λm d bk=>?_) e;by_cases z:m=x.1
   ·refine(some_of (hf x b3 Y1e)).elim YO9;replace bk:=yj ah (aQ ZWM bk);exact(congrArg (λy=>cells.lookup y) z).trans (ah.trans bk)
   ·exact h _ _ (cA ZVu bk)
theorem Qw{cells cs:Y7C}{n:Str}(h:(n,uc)∈names∨(cs.lookup n).isSome=true):(Yxm n).isSome=true:=by
 induction names generalizing cs with
 |nil=>exact h.elim Yrq id
 |cons x r ai=>
  show(Yvx n).isSome=true
  cases q:YEG with
  |false=>
   refine ai (h.imp (λh=>YBk Y6j id) id);have:YqZ:=(congrArg Prod.snd h).symm;replace q:=eT this q;exact nb q
  |true=>
   refine ai ?_;by_cases z:n=x.1
   ·exact YJ (by rw[ZWM];rfl)
   ·exact h.imp (λh=>YBk (λh=>absurd ZJu z) id) λh=>aX ZVu h
theorem Qx{x:Str}{dI:NameKind}(h:names.lookup x=some dI):Yxs=some dI∨
  (dI=Y6y∧Yxs=Y2w):=by
 induction names with
 |nil=>exact Y08
 |cons p r ai=>
  refine gT mF ?_;by_cases e:YY1
  ·have aR:=c4 ZWN h;by_cases q:YEi
   ·refine YJ ⟨cA aR (eq_of_beq (cL YAX.1).1),?_⟩;show YQr;exact gS ZU Ynp
   ·refine YY ?_;show YQr;exact gS ZN ((oz _ _ e).trans (congrArg some aR))
  ·have ai:=ZDg;show YQr∨(dI=Y6y∧YQr)
   by_cases q:YEi
   ·rw[ZU,YW9];exact ai
   ·rw[ZN,YW9];exact ai
def inR(n:Nat)(caps:YV)(r:bG):bG:=n.rec ZJI λO ai=>none::ai
def A2(own:YH)(caps:YV)(ns:YH):YH:=own++caps.map λj=>(ns[j]?).getD jc
def sS(scope:Scope)(own:YH)(caps:YV)(c:bP):bP:=⟨scope.names,A2 own caps c.ns⟩
def kindB(c:bP)(names:Kinds)(x:Yer):Bool:=x.2.casesOn (names.lookup x.1==Y2x) false (YL8==Y2w||YL8==Y6c) true true
def IA(c:bP)(scope:Scope)(own:YH)(caps:YV):Bool:=scope.kind==Y5J&&(scope.names.all (kindB c scope.names)&&(decide YuG&&caps.all λj=>(c.ns[j]?).elim false λm=>ZZK==Y6c))
abbrev Inner(c:bP)(scope:Scope)(own:YH)(caps:YV):Y1:=yc (∀x∈scope.names,YqZ→YL8=Y2w∨YL8=Y6c) (∀y∈scope.names,y.2≠YPT) (scope.kind=Y5J) (∀y∈scope.names,y.2=YPe→scope.names.lookup y.1=Y2x) YuG (∀j,j∈caps→∃m,YiA∧ZZK=Y6c)
variable{caps:YV}
theorem Qy{c:bP}{own:YH}(h:IA c scope own caps=true):Y7A:=by
 refine ZdS;have aR:∀x∈scope.names,kindB c scope.names x=true:=ju bC;refine⟨YsR,YsR,Y95,YsR,of_decide_eq_true d4,Zj7⟩
 ·have:=YgC;unfold kindB at this;replace this:=YhV;exact(gG this).imp eq_of_beq eq_of_beq
 ·have:=YgC;unfold kindB at this;replace this:=YhV;exact YnO
 ·have:=YgC;unfold kindB at this;replace this:=YhV;exact ZMz
 ·have:=ju hJ j aM
  cases e:ZIP with
  |none=>replace this:=ZPF;exact YnO
  |some m=>replace this:=ZPF;exact⟨m,rfl,ZMz⟩
theorem IB{n:Nat}{i:Nat}{v:V}(h:ZRb[i]?=Y0e):∃f5 j,i=n+f5∧ZJJ∧ZYQ:=by
 induction n generalizing i with
 |zero=>
  have h:ZJI[i]?=Y0e:=h;replace h:=ZBb;refine YZi λj q=>⟨i,j,(l8 i).symm,q.1,?_⟩
  cases z:r[j]? with
  |none=>replace q:=HH z q;exact cW q.2.symm
  |some o=>replace q:=HH z q;exact congrArg some q.2
 |succ n ai=>
  cases i with
  |zero=>exact ZDF
  |succ i=>exact(ai h).imp λf5 q=>q.imp λj q=>⟨(congrArg Y3l q.1).trans (Nat.succ_add n f5).symm,q.2⟩
theorem Qz{own:YH}{f5:Nat}{x m:Str}(h:(A2 own caps ns)[own.length+f5]?=YQ)(aM:ZJJ)(hm:YnU):x=m:=by
 unfold A2 at h;replace h:=bN aM (aQ (gy) (bN (Nat.add_sub_cancel_left ..) (aQ (ra Yk) h)));exact cA Y4u (congrArg (λo:Option Str=>o.getD jc) hm)
noncomputable abbrev ml (scope:Scope) (env:Env) (C:Nat):Env:=compEnvC scope YnE C env
theorem Inner.has{c:bP}{own:YH}(N:Y7A)(L:ZI):Z2Z:=λx aq hf=>(L.2 x.1 (N.1 x aq hf)).elim λa q=>by rw[q.1];rfl
theorem Inner.old{c:bP}{own:YH}(N:Y7A)(L:ZI){n:Str}{a:Addr}(e:Yxn):YU4:=afJ Ye1 (λO O h=>Y08) e
theorem Inner.QA{c:bP}{own:YH}(N:Y7A)(L:ZI):eO Y4N (sS scope own caps c):=
 ⟨λn k h=>Qx h,
  λn h=>h.elim (λh=>absurd rfl (N.2 _ ZVL)) λh=>(some_of (Qw (cells:=env.cells) (cs:=[]) (YY ZVL))).imp λa q=>⟨q,λh'=>absurd (c4 h h') YIj⟩⟩
theorem Inner.aN{c:bP}{own:YH}(N:Y7A)(L:ZI)(aN:Y4H)(QB:ZUb){m:YAG}(yG:de g env c.ns r mh s')(az:ZYm):de g Y4N YJP YM2 mh s':=
 ⟨N.3,
  aN.2,
  aN.3,
  N.5,
  ⟨m,az,λi n v ak av aP=>by
  refine YuV;have e:=Z71;exact(Qx (env:=env) z.2).elim (λy=>absurd (c4 aP (Ya7 y)) YIj) λy=>absurd (c4 aP (Ya7 y.2)) YIj⟩,
  QB,
  λi n v ak av aP=>by
  refine YuV;have e:=Z71;have aq:=nO z.2;refine(yG.7 j x v z.1 Yq ((N.1 _ aq rfl).elim (λw=>YuY YY λw=>o8 w.1) λw=>YuY YJ λw=>YY w.2:Yjn=Y2w∨Yjn=Y6c)).imp λa w=>w.imp λy w=>⟨(some_of (Qw (cells:=env.cells) (cs:=[]) Z0M)).elim λjf p=>YCa,w.2⟩
  exact p.trans (cA (N.old L p) w.1),
  λn a e=>yG.8 n a YRA,
  λn ey a e bk=>yG.9 n ey a YRA (N.old L bk)⟩
theorem adopt(ae:YU)(dl:YVk)(hm:ZUc)(bJ:YDG):a5 g ZcH s:=
 ⟨Y5T,
  λb o e x aq=>Y7P b o e x (cA (dE λq=>g7 e (Ya8 bJ)) aq),
  λb u o e=>by
  by_cases q:b=D
  ·subst q;have:=(gQ (c4 (bw mh b YPF) e)).2;exact aV this dl
  ·exact(Y7Q b u o YiM).keep Y3U rfl λd om z=>⟨rfl,dE λbS=>g7 z ((congrArg mh bS).trans hm)⟩,
  YFw,
  YFx⟩
theorem QC{X:Yo}(st:Yel)(iL:s0.heap.get? D=none):Step X s0 m0 s ZcH:=
 ⟨Y0f,λb e=>by
  by_cases q:b=D
  ·exact YJ (aa q iL)
  ·exact(Zb b e).imp (λz=>YBj z) id,st.3,Y5j⟩
theorem Step.mm(st:YRZ):YRY:=st.weaken Y31
theorem afK{c:bP}{own:YH}{it:Value}{P:Z8V}{St:YFJ}(N:Y7A)(L:ZI)(ae:YU)(aN:Y4H)(afL:Z7m)(afM:∀h',Z7m→Y9C→St h')(afN:∀b,Y3N→∃o,Y9X)(ap:YIk)(loop:∀C D s1,C≠D→ZYw→ZYv→ZUd→ZUb→YfY→Yen→de g Y4N YJP YM2 mh s1→mi s1.heap D []→St s1.heap→
   (∀b,ZMs→b=C)→(∀b,nF Y4N b→YYR∧b≠D)→
   codeAny Yu A (YEu YEq 0 it Y2f Y4N) YeH s1):
  WP g A YVw (λacc IC=>WP g A ZVY (λA3 ID=>
   codeAny Yu A (YEu YEq 0 it acc ZfY) Z6I ID) IC) s:=by
 refine Y0K;intro afO afP;refine wpAny_newObj_type (wpAny_newFunctionEnv N.2 Zl3 (λqt IE EJ=>?_) N.3);dsimp only at IE EJ ⊢;generalize IF:s.heap.push {cls:=Y4c,dict:=none,data:=YcK}=hK at IE EJ ⊢;have gE:hK.objs.size=Y1J:=k7 IF (YBI);have le:s.heap.objs.size≤hK.objs.size:=aa gE Y1I;have old:hU s.heap qt:=λb o e=>
  EJ.extBut b o (ej (ew (YDB:ZFu) le)) (eu _ (aV IF Y5Z))
 have qq:Zle:=ZhT;have mU:Zld:=ZhU
 have IG:s.heap.objs.size≠hK.objs.size:=λe=>NU _ (cA gE e.symm);have QD:∀n a,Yxn→ZAj:=λn a e=>(aN.8 n a YRA).2.elim λv q=>q.elim λo q=>fE q.1;have dl:mi qt s.heap.objs.size []:=⟨[],0,EJ.extBut _ _ IG (eu _ (aV IF ZW)),rfl⟩
 have st:Step cX s mh YYN mh:=Step.grow (s':=YYN) old;refine loop hK.objs.size s.heap.objs.size YYN (q6 IG) (qq _ YW) (qq _ le) ZUK ZUL (ae.grow (s':=YYN) old rfl rfl) st
  (N.aN L aN ZUL YKk IE) dl (afM _ afL old) (λb ah=>ah.elim id λq=>q.elim λn q=>?_) (λb ah=>ah.elim Y5E λq=>q.elim Ys7)
 ·exact absurd (ew (QD n b YG) le) (Nat.lt_asymm Yq)
 ·exact⟨λq=>(afN _ q).elim λo aA=>ye le (fF (dH (e:b=hK.objs.size).symm) YDA),λq=>IG (cA q e)⟩
 ·exact⟨ap b (YJ ⟨n,YRA⟩),ej (QD n b e)⟩
abbrev CompEnd(g:G)(s:Shared)(mh:ag)(C D:Nat)(acc:Y3)(aW:ag)(s':Shared):Y1:=yd YfX Yem (∃m,ZYm) YnD (D≠C) (aW D=none∧YDG) (aW C=none∧Yka) ZYw ZYv
theorem afQ{m:YAG}(az:h.Ns C m)(o:Obj)(e:YUj=YB):YNx:=(AI az).elim λo' q=>q.elim λes q=>q.elim λep q=>by
 have hd:=(congrArg ua (c4 e q.1)).trans q.2;exact λz=>z.elim (λz=>YIP λO z=>vX (cA hd z)) λz=>z.elim λO z=>z.elim λO z=>vX (cA hd ZK1)
theorem QE{oB:YAG}(az:s.heap.Ns C oB)(hs:mE C s.heap h'):j4 YbA s Yx:=
 ⟨YId,
  λb o e t=>(Y1H b λq=>absurd t (afQ az o ZCE)).trans e⟩
theorem mi.gone(x:YVk)(c7:YM9)(iL:YNy):YnD:=x.imp λxs q=>q.imp λep q=>⟨YGH _ _ iL q.1,Y9T c7.2⟩
theorem CompEnd.gone(x:CompEnd g s mh C D acc ab s')(hs:mE C s'.heap h'):a5 g ab YYO∧Step cX s mh YYO ab∧mi h' D acc:=x.3.elim λoB az=>
 have c7:=QE az hs
 ⟨c7.abs x.1 (λb YIy=>aV ah.symm x.7) rfl rfl,c7.step x.2 λb YIy=>aV ah.symm x.9,mi.gone (s':=YYO) x.4 c7 x.5⟩
def yH(g:G)(k:Nat)(env:Env)(ns:YH)(r:bG)(e tgt:aI)(weak:Bool)(K:Ys)(vals:Y3)(need:Y6)(m:ag):Y1:=
 ∀(A:Around)(I:Nat)(wr Y:Yo)(St:Y47)(D:Nat)(R:Y48)(s0 s:Shared)(m0:ag),Z5→YlM→
  YNy→YrE→YIk→Ysh→YDG→
  Yse→
  rt g wr Y D s0 m0 s m []→YLQ→YRX→codeAny Yu A (Y5y e 0 Y1B Y2f env) R s
theorem afR{weak:Bool}{K:Ys}{P:Y1O}(h:Z6M)(T:jz P need K λv acc m N=>ED g k env ns r tgt weak ifs elt v acc m N):yH g k env ns r (YEp elt [YZN] scope pos) tgt weak K vals need m:=
 λA I wr Y St D R s0 s m0 aG W ak av aP da fG gI cs aN h0=>Qm rfl rfl aG W ak av aP da fG T.1 T.2 gI cs aN h0 h
theorem afS{t1 dM cy dt:aI}{dD w2:Bool}{K:Ys}{P:Y1O}(hs:ZmF)(h:Z6M)(T:ZSQ):
  yH g k env ns r Y6t t1 dD K vals need m:=
 λA I wr Y St D R s0 s m0 aG W ak av aP da fG gI cs aN h0=>afC hs aG W ak av aP da fG T gI cs aN h0 h
theorem QF{c:bP}{own:YH}{rest:YCP}{weak:Bool}{P:Z8V}{K:Ys}(N:Y7A)(L:ZI)(aG:Z5)(ae:YU)(aN:Y4H)(h:ow g k env c.ns r mh tgt weak YLd λvals need m=>∀C,yH g k Y4N YJP YM2 Y5I tgt weak K vals need m)(dk:∀C D acc aW s',CompEnd g s mh C D acc aW s'→K acc aW→P Y2f C Z0l s'):
  WP g A YLd (λx hY=>WP g A YMo (λit yI=>WP g A YVw (λacc IC=>WP g A ZVY (λA3 ID=>
   codeAny Yu A (YEu Y5I 0 it acc ZfY) Z6I ID) IC) yI) hY) s:=by
 refine Y0p λx s1 q=>q.mono λit s2 q=>q _ λvals need aH I wr St J q=>aa J.1 ?_;have W:=YdQ;have wl:=W.1 0 s2.heap J.5;refine afK (wr:=wr) (St:=St 0) N L J.2 ZBW J.5 (λh' qu b5=>W.2 0 _ _ qu (λb o O e=>YhD) Y63) (λb ah=>(wl b ah).imp Zji) ZBV ?_;intro C D s3 afT iL gE IH QB dB fJ afU afV QG afW QH;have loop:codeAny Yu A (Y5y Y5I 0 Y1B Y2f Y4N) YeH s3:=by
  refine q C A I wr Zhk St D _ s3 s3 aH aG W (λz=>(wl D z).elim λo y=>g7 y.1 iL:YNy) (λz=>(QH D z).2 rfl) (λa aD=>(QH a aD).1) ZhV IH.2 ?_ ⟨dB,Yy,J.6,afV,IH.1⟩ afU QG;intro acc ab s4 s' cs c7 jf yG afX ax;have QI:=yB J.3 iL;have QJ:=yB J.3 gE;exact dk C D acc _ s' ⟨jf,Step.unfresh ((c7.step (((J.3.trans fJ).weaken (Y:=Zhk) Y31).trans cs.2) J.7).weaken YO6) (λb z=>z.elim (λz=>aa z QI) λz=>z.elim (λz=>afW b z▸QJ) (J.7 b):∀b,YhJ→Y6Y),yG.5.imp λm z=>z.1,afX,q6 afT,⟨cs.5,IH.2⟩,yG.6,QI,QJ⟩ ax
 exact codeAny_compStart_list loop (wpAny_mono (W.5 0 s3 (λuM s'=>codeAny Yu A (Y5y Y5I 0 uM Y2f Y4N) YeH s') QG loop) Y3Q Y0E)
theorem afY{c:bP}{own:YH}{rest:YCP}{weak:Bool}(hs:Ysq)(N:Y7A)(L:ZI)(h:ZWK):
  Ev g k env c.ns r mh (eval Y5I env) Q:=λA s aG ae aN=>by
 refine aj (eval_ListComp ..) (wpAny_comprehension_free (use:=none) rfl hs Z6z N.3 N.4 (QF N L aG ae aN h λC D acc aW s' x ax=>x.3.imp λoB az=>⟨az,ZiQ⟩));have a:=x.gone gB;exact(ax D YXx).elim λt q=>⟨_,adopt (s:=YYO) a.1 a.2.2 YXx x.6.2,QC a.2.1 x.8,_,Y7M,q⟩
abbrev II(g:G)(env:Env)(ns:YH)(s:Shared)(mh:ag)(Qn:Y5U)(Qr:Yj)(f:Flow)(s':Shared)(aW:ag):Y1:=jd YfX (Step Y1V s mh s' aW) (f.casesOn (∃bI,de g env ns bI aW s'∧Qn bI aW) False False (λv=>∃m,ZBB∧Qr m aW))
def jk(g:G)(k:Nat)(env:Env)(ns:YH)(r:bG)(mh:ag)(t:Sem Flow)(Qn:Y5U)(Qr:Yj):Y1:=
 ∀A s,Z5→YU→Y1d→WP g A t (λf s'=>ZmM) s
variable{Qr:Yj}
theorem afZ{c:bP}{own:YH}{rest:YCP}{QK c5:Pos}{weak:Bool}{x:Str}{Qn:Y5U}(hs:Ysq)(N:Y7A)(L:ZI)(A4:swapsWith Y5I (some YbG) QK.line env=YMm)(aq:Yjn=Y2x)(af:Y8w=YQ)(h:ow g k env c.ns r mh tgt weak YLd λvals need m=>∀C,yH g k Y4N YJP YM2 Y5I tgt weak (λacc aH=>alloc aH Y4b λv bF=>Qn Y5f bF) vals need m):
  jk g k env c.ns r mh (exec (Y5w [YbG] Y5I QK) env) Qn Qr:=λA s aG ae aN=>by
 refine d9 (exec_Assign_Name_used _ _ _ _ A4) Yhj;show WP g A (do let _ ←comprehension Y5I scope env _ YVw false YLd (some (assign YbG env))) _ s;refine Y0K;intro afG afH;refine bd (WP.mono (wpAny_comprehension_free (Q:=λO s'=>∃aW,II g env c.ns s mh Qn Qr Y8S s' aW) rfl hs Z6z N.3 N.4 (QF N L aG ae aN h λC D acc aW s' fY ax=>?_))
  λO s' aF=>YqO)
 refine(ax D fY.6.1).elim YsJ;have eX:Step cX s mh s' (upd aW D YPF):=QC fY.2 fY.8;have QL:upd aW D YPF C=none:=(dE fY.5.symm).trans fY.7.1;refine wpAny_assign_Name (Ib Yg4 (adopt (t:=t) fY.1 fY.4 fY.6.1 fY.6.2) (aK.oj D) af Z0M λs3 dB fJ c1=>fY.3.imp λoB az=>?_);have QM:s3.heap.Ns C oB:=AH az λo e=>fJ.1 _ _ e QL (λe=>aN.apart (wr:=YbA) (λb ah=>aa ah fY.9) C Yqv rfl:¬envX env C);refine⟨QM,ZiQ⟩;have c7:=QE QM gB;exact⟨_,c7.abs dB (λb YIy=>aV ah.symm (⟨QL,fY.7.2⟩)) rfl rfl,c7.step (eX.mm.trans fJ) λb YIy=>ah.symm▸fY.9,_,c1.gone c7 λa aD z=>aN.apart (wr:=YbA) (λb YIy=>aV ah.symm fY.9) a aD z,q⟩
def putAt(vs:Y3)(m:V):Nat→Y3:=vs.rec (λO=>[m]) λv r ai i=>i.casesOn (m::r) λi=>v::ai i
theorem key_is{e:DictEntry}{p:Str}(h:ZmW)(n:Str):YTv=ZWc:=h.elim λt h=>ZHd
theorem IJ{e:DictEntry}{p:Str}(h:ZmW):ZLh:=h.elim λt h=>dT h rfl
theorem ib.noRef{ns:YH}{xs:Z8}(r:YDO):xs.any YzX=false:=by
 induction vs generalizing xs ns with
 |nil=>exact YyR
 |cons v vs ai=>exact r.un λe e6 p nD aJ aC a b q=>by rw[aC,Ae,IJ a,ai q];rfl
theorem ib.length{ns:YH}{xs:Z8}(r:YDO):Yqi:=by
 induction vs generalizing xs ns with
 |nil=>exact Yio
 |cons v vs ai=>exact r.un λe e6 p nD aJ aC a b q=>aa aC ZJq
theorem QN{n:Str}(e:DictEntry)(xs:Z8)(h:ZLh):getL n YjR=cond YTv (some (some e.val)) Yko:=by
 refine dT (List.find?_cons) ?_
 cases YTv with
 |true=>rfl
 |false=>(refine aa Ae (aa h (Ar (Bool.false_or ..) ?_)));rfl
theorem ib.none{ns:YH}{xs:Z8}{n:Str}(r:YDO)(az:n∉ns):Yko=Y3K:=by
 induction vs generalizing xs ns with
 |nil=>exact YSH
 |cons v vs ai=>
  exact r.un λe e6 p nD aJ aC a b q=>aX aC (aj Z6x (dT YmX (dT (beq_eq_false_iff_ne.mpr λ(z:p=n)=>az (aa aJ (z▸b3))) (ai q λz=>az (aa aJ ZMH)))))
theorem ib.at{ns:YH}{xs:Z8}{n:Str}{i:Nat}(r:YDO)(bZ:ns.Nodup)(af:Y6X){v:V}(aO:YIC):∃x,Yko=YXG∧Y2F:=by
 induction vs generalizing xs ns i with
 |nil=>exact g7 aO xV
 |cons u vs ai=>
  refine ZYC;subst aJ;refine aa aC (aa Z6x ZCf)
  cases i with
  |zero=>
   have ar:p=n:=cu af;exact aa ar (aa Y3E (⟨_,rfl,cu aO▸b⟩))
  |succ i=>
   have bZ:=YE7;exact aa (beq_eq_false_iff_ne.mpr λ(z:p=n)=>YCq (z.symm▸ZNG)) (ai q YAV af aO)
theorem ib.put{ns:YH}{xs:Z8}{n:Str}{i:Nat}{m:V}{IK:Int}{tk:Tok}(r:YDO)(bz:Yft)(bZ:ns.Nodup)(af:Y6X)(aE:ZRr):ib h ns (putL n IK (Y4 n tk) x xs) ZXE:=by
 induction vs generalizing xs ns i with
 |nil=>
  have h0:i=0:=Am aE;subst h0;refine aX Y32 ?_
  cases ns with
  |nil=>exact cW af.symm
  |cons p nD=>exact ib.cons ⟨tk,congrArg (λz=>Value.str z tk) (cu af).symm⟩ bz rfl
 |cons u vs ai=>
  refine ZYC;subst aJ;refine aX aC ?_;dsimp only [putL];refine ZCf
  cases i with
  |zero=>
   have ar:p=n:=cu af;exact aj (if_pos (aT ar Yhn)) (ib.cons a bz q)
  |succ i=>
   have bZ:=YE7;exact aj (if_neg λ(z:ZWc=true)=>YCq ((eq_of_beq z).symm▸ZNG)) (ib.cons a b (ai q YAV af (NX aE)))
theorem af0{xs:Z8}{n:Str}(IK:Int)(key x:Value):(putL n IK key x xs).length≤xs.length+1:=by
 induction xs with
 |nil=>exact YW
 |cons e xs ai=>
  by_cases q:YTv=true
  ·exact aX ZU Y1I
  ·exact aX ZN YjE
theorem aK.handed{m:V}(r:Yft):handedIn x=true:=by
 cases m with
 |none=>exact aa (r:x=Y7) rfl
 |bool b=>exact aa (r:x=Y1x) rfl
 |int i=>exact r.elim λt e=>YCd
 |str n=>exact r.elim λt e=>e.elim λy e=>aa e.2 rfl
 |ref a=>exact aa (r:Y83) rfl
 |kM n=>exact r.elim λa e=>e.1▸rfl
 |tup vs=>exact r.gj.elim λa e=>e.elim λO e=>ZCu
abbrev af1(K:Frag)(C:Nat)(l:YH):Y1:=yd (ZWt=true) (ZQW=true) (ZOJ=YpB) (ZWw=true) (ZUP=true) (ZT2=true) l.Nodup ZTV (∀n∈l,(∃attr,YkP=some attr∧noGet K attr=true)∧ZbR=Y3K)
theorem EK{K:Frag}{l:YH}(h:classOk K C l=true):af1 K C l:=by
 refine OY h λbD bC d4 hJ i1 qv A5 u8 yJ=>⟨bD,bC,YLc,hJ,i1,qv,of_decide_eq_true A5,of_decide_eq_true u8,λn az=>?_⟩
 have q:=cL (ju yJ n az);refine⟨?_,ZMx⟩
 cases z:YkP with
 |none=>replace q:=OS z q;exact nb q.1
 |some attr=>replace q:=OS z q;exact⟨attr,rfl,q.1⟩
abbrev af2(g:G)(mh:ag)(s:Shared)(a C:Nat)(vs:Y3)(P:Y1):Y1:=∀(d u:Nat)(xs:Z8)(ep:Nat),InstAt s.heap a YNq C (some ZLJ)→ib s.heap YGh xs vs→Y0u=YpG→ZUi→Y9Y→P
abbrev af3(g:G)(mh:ag)(s:Shared)(a C:Nat)(vs:Y3):Y1:=∀P:Y1,af2 g mh s a C vs P→P
theorem IL(ae:YU)(e:YHO):af3 g mh s a C vs:=
 (Y7Q a t _ e).elim λd q=>q.elim λu q=>ZXY λxs z=>z.elim λep z=>(λO bA=>bA d u xs ep ⟨q.1,rfl,rfl,z.1⟩ z.2 q.1 YG z.1)
inductive IM(m:ag)(a C:Nat)(Q:YFS):Y1
 |mk (t:Nat) (vs:Y3) (h:m a=YBM) (q:YRQ):IM m a C Q
def inst(v:V)(C:Nat)(mh:ag)(Q:YFS):Y1:=v.oi False λa=>IM mh a C Q
inductive EL(m:ag)(a C i:Nat)(Q:Yj):Y1
 |mk (t:Nat) (vs:Y3) (h:m a=YBM) (v:V) (aO:YIC) (q:Y37):EL m a C i Q
theorem IP{v:V}{Q:YFS}{P:Y1}(h:inst v C mh Q)(f:∀a t vs,YNV→YHO→YRQ→P):P:=by
 cases v with
 |ref a=>exact IM.casesOn h ZkP
 |_=>exact h.elim
theorem af4{n:Str}{X:Yo}{l:YH}{v:V}{expr:Bool}(K:ZG)(hf:YFI)(af:Ymk)(ae:YU)(e:YHO)(aO:YIC)(h:Y8c):fW g A X s mh (getAttr YA n expr) Zh:=
 YdK _ λd u xs ep I R j5 IQ A6=>by
  have kc:=YdU;have c:=YQe;rw[kc.1]at R;exact(R.at c.7 af aO).elim λx z=>ZIL.1.elim λattr w=>
   get_value YK8 I Yo5.1 (findObj_own c.2 w.1 w.2 ((lookIn_dict n xs ep).trans z.1)) z.2.handed (me _ ae z.2 h)
theorem af5{n:Str}{m:V}{Q:Y6}{l:YH}(K:ZG)(hf:YFI)(af:Ymk)(ae:YU)(e:YHO)(aE:ZRr)(sT:vs.length≤100)(bg:aK s.heap x m)(h:Q (upd mh a (t,ZD C ZXE))):fW g A cX s mh (setAttr YA n x) YE8:=
 YdK _ λd u xs ep I R j5 IQ A6=>by
  have kc:=YdU;have c:=YQe;have X:=YK8;refine(any_some c.2).elim λcd ao=>set_plain X I c.3 (osa_open (s:={s with toks:=YBH}) X I c.4 ZIL.2 λb=>Yg);intro aAb aAc aAd;refine bd (wpAny_pure (bd (bd (wpAny_loadPart j5 (bd ((looks_clsIn (M:=Yu) X Y7S).at (aa ao.2 (wpAny_pure (a:=YNI) (bd (wpAny_pure (bd (bd (bd (wpAny_askSetting (wpAny_pure (bd (wpAny_mkText (bd (wpAny_loadPart A6 ?_)))))))))))))))))));dsimp only;have af6:(! Yvh (·.key.isStr n)&&Yvh YzX)=false:=by
   exact bN (Array.any_toList (as:=Z1) (p:=λe=>e.refKey)) (aX R.noRef (YgW))
  have ar:(s.heap.update d (Obj.putName n Z6X Z24 x)).get? d=some (gU (putL n Z6X Z24 x xs) (putN n xs ep)):=Ea A6 (putName_dict ..) rfl;refine aa (aRefKeyMayBeTheName_at ..) (aa af6 (wpAny_updatePart A6 (bd (wpAny_lookBehind ar (pastItsLine_dict (aj Ac (au (af0 _ _ _) (dX (aa R.length (fZ (au sT Y2))))))) ?_))));have:=kc.1;exact wpAny_pure (adg (X:=cX) (R:=YE8) ae e j5 IQ YMI ar (λkt=>this▸ib.put (this▸R.keep kt) (bg.keep kt) c.7 af aE) _ h)
theorem QO{n:Str}{f:Nat}{pl:YFf}{R:Z8S}{E:Y8}(K:ZG)(hm:YOQ)(ae:YU)(e:YHO)(h:keepIn g.K Y2g=true→R (Y2g,Y8j) s):wpAny Yu A (getMethod YA n pl) R E s:=
 YdK _ λd u xs ep I R j5 IQ A6=>(K.4 C n f hm).elim λl z=>by
  have kc:=K.3 C l z.1;have c:=YQe;refine wj z.2 YYh;have az:n∉YGh:=aa kc.1 (λw=>absurd Yhn (by have:=ju hJ n w;rw[jY]at this;exact dS this h8));exact method_fn YK8 I Yo5.1 Yo5.2 Y95 YGc (by show(lookIn n ZLJ).map _=_;rw[lookIn_dict,R.none az];rfl) (h d4)
def plainT(e:aI):Bool:=PySem.Expr.casesOn e Y1j Y0o Y18 Y1j Y18 Y1Y Y0o Y0o Y18 Y18 YrK Y18 Y0U Y0U Y0U Y1Y Y18 Y18 Y0U Y0o Y0o Y0o Y0U Y0U Y0U Y0o Y18
theorem QP{w:Y5O}(e:aI):YB9→isTrue e env w=(do let v ←w;standAt e.pos;holding [v] (truthy v)):=p7 e YIa ZR ZA YIa ZA YIY ZR ZR ZA ZA Y1i ZA Y0n Y0n Y0n YIY ZA ZA Y0n ZR ZR ZR Y0n Y0n Y0n ZR ZA
def oC(e:aI):Bool:=PySem.Expr.casesOn e Y0o Y0o Y18 Y0o Y18 Y18 Y0o Y0o Y18 Y18 YrK Y18 Y0U Y0U Y0U Y18 Y1Y Y18 Y0U Y0o Y0o Y0o Y0U Y0U Y0U Y0o Y18
theorem EM{n:Str}{w:Y5O}(e:aI):oC e=true→attributeBase e n env w=w:=p7 e ZR ZR ZA ZR ZA ZA ZR ZR ZA ZA Y1i ZA Y0n Y0n Y0n ZA YIY ZA Y0n ZR ZR ZR Y0n Y0n Y0n ZR ZA
theorem IS{Q:Y0i}{v:V}{P:Y1}(h:YmE)(f:∀b,v=Y1x→Q b mh→P):P:=by
 cases v with
 |bool b=>exact f b rfl h
 |_=>exact h.elim
theorem IT{Q:Y0i}{v:V}{E:Y8}{R:Y1n}(bz:Y2k)(h:YmE)(f:∀b,Q b mh→R b s):wpAny YR A (truthy x) R E s:=
 IS h λb e q=>by
  have aC:x=Y1x:=(aV e bz:aK s.heap x Y1x)
  exact jg aC (wpAny_truthy_bool (f b q))
theorem IU{e:aI}{Q:Y0i}(he:YB9)(h:Ev g k env ns r mh Y0s Y9J):kP g k env ns r mh YV8 Q:=λA s aG ae aN=>
 wpAny_isTrue_value (Y0p Zht) (QP e he)
theorem gH.mono{mh:ag}{es:Ye}{Q Q':Ys}(h:ZOo)(f:∀vs m,Q vs m→Q' vs m):gH g k env ns r es mh Q':=by
 induction es generalizing mh Q Q' with
 |nil=>exact f _ _ h
 |cons e es ai=>exact Ev.mono h λv m q=>ai q λvs m q=>f _ _ q
def lL(o:Op)(ar:∀{H c e es},YMf→YB9)(ev:ZmL):dj:=
 ⟨o,ev,λK L hm h=>IU (ar hm) (ev K L hm h)⟩
variable{args:Y3}
theorem aU.run{f:Nat}(h:YSE){vs:Yn}(aG:Z5)(ae:YU)(bz:YRx):fW g A cX s mh (call Y2g vs) Zh:=
 wpAny_call (codeAny_mono Ykz λr s' z=>by
  rcases r with e | (v | _ | _ | _) <;> exact z)
theorem aU.mono{f:Nat}{Q':Yj}(h:YSE)(m:YZ7):aU g k f args mh Q':=λA s vs aG ae bz=>
 codeAny_mono Ykz λr s' z=>by
  rcases r with e | (v | _ | _ | _) <;> first | exact z.elim | exact z.imp λm1 z=>⟨z.1,z.2,ZfD⟩
theorem aU.le{f:Nat}(h:aU g j f args mh Q)(l:YmG):YSE:=λA s vs aG ae bz=>h A s vs (aG.le l) ae bz
variable{fs:Y3}
theorem QQ{c:bP}{f:Value}{first:Yn}{es:Ye}{T:ag→Y7D}(K:ZG)(aR:keepIn g.K f=true)(hs:Y5e)(aG:Z5)(ae:YU)(aN:Y4H)(EN:a9 s.heap first fs)(h:gH g k env c.ns r es mh λvs m=>T m (fs++vs))(tg:∀m vs xs s,T m vs→Y4l→Y39→fW g A cX s m (call f xs) Zh):fW g A cX s mh (callWith pos f first YSn []) Zh:=by
 exact aT YDk (callWith_of (P:=Yrs) Yhx ZT4 (uH lh (YPD λxs s1 z=>z.elim λm1 z=>Y0g λvs y=>⟨Y4e Y5D,nE z.2 (tg m1 _ _ s1 y.2 z.1 ((EN.keep YIO).append y.1))⟩)))
theorem af7{c:bP}{n:Str}{v:V}(K:ZG)(L:ZI)(aR:YGG)(ah:Y5u)(hm:YdH=Ym)(h:Y8c):Z3k:=λA s aG ae aN=>
 (K.1.4 n v hm).elim λx z=>Ew K.1 ae aN YMz ah z.1 (qj ae (Y9d ae.afh) h)
theorem af8{c:bP}{n:Str}{hL:Nat}{p:Pos}{es:Ye}(K:ZG)(L:ZI)(aR:YGG)(ah:Y5u)(hm:YdH=some Z1i)(hs:Y5e)(h:gH g k env c.ns r es mh λvs m=>ZC5):Z3j:=λA s aG ae aN=>
 (K.1.4 n _ hm).elim λx z=>wpAny_Call_NameR (Ew K.1 ae aN YMz ah z.1 ((z.2:x=Z1i).symm▸QQ (fs:=[]) (T:=λm vs=>ZC5) K (K.2 n hL hm) hs aG ae aN a9.nil h λm vs xs s1 q a1 bg=>q.run aG a1 bg))
variable{apos:Pos}
theorem QR{c:bP}{o:aI}{n:Str}{es:Ye}(ah:YB7)(sU:Y8C)(hs:Y5e)(hlen:YUC)(h:Ev g k env c.ns r mh Y7h λa m=>∀A s x pl s0 m0,Z5→Y4l→de g env c.ns r m s→ZBH→YFh→WP g A (getMethod x n pl) (λkQ s'=>WP g A (callWith pos kQ.1 kQ.2 YSn []) (hy g cX s0 m0 Zh) s') s):
  Z3i:=λA s aG ae aN=>by
 refine aj YSS (aT YQf (bd (Y0p λcF s1 z=>z.elim λm1 z=>Y0g λx q=>YL5)));have IV:ZUV:=by
  refine ZBs;unfold methodCallForm;have ak:Ywr:=Zb6
  exact gz ak ZLB
 have qw:ZUW:=YSz
 dsimp only [methodCall];exact aa IV (bd (wpAny_holding ((q.2 A s1 cF _ s mh aG z.1 Y2G q.1 z.2).mono λkQ s2 y=>bd (wpAny_of_eq qw y))))
theorem af9{c:bP}{o:aI}{n:Str}{es:Ye}{f:Nat}(K:ZG)(hm:YOQ)(ah:YB7)(sU:Y8C)(hs:Y5e)(hlen:YUC)(h:Ev g k env c.ns r mh Y7h λa m=>inst a C m λO O O=>gH g k env c.ns r es m λvs aH=>aU g k f (a::vs) aH Q):Z3i:=
 QR ah sU hs hlen (h.mono λa m q A s x pl s0 m0 aG ae aN bg st=>IP q λp t vs e ar q=>by
  subst e;exact rk ((bg:x=Y0V)) (QO K hm ae ar λaR=>nE st (QQ (fs:=[Y0V]) (T:=λm vs=>aU g k f vs m Q) K aR hs aG ae aN (a9.cons ZBI a9.nil) q λm vs xs s2 q a2 bg=>q.run aG a2 bg)))
theorem aga{c:bP}{o:aI}{n:Str}{l:YH}(K:ZG)(hf:YFI)(af:Ymk)(ah:YB7)(h:Ev g k env c.ns r mh Y7h λa m=>ZAD):Ev g k env c.ns r mh (eval (Y2e o n pos) env) Q:=λA s aG ae aN=>by
 refine aj (arm_eval_Attribute ..) (aT YQf (bd (Y0p λcF s1 z=>z.elim λm1 z=>Y0g λx q=>bd (wpAny_standAt (bd (wpAny_holding (yC q.2 λp e ck=>EL.casesOn ck λt vs ar v IW IX=>?_)))))));have aC:YiQ:=(ZCA:aK s1.heap cF Y0V)
 exact iy aC ((nE (R:=Zh) z.2 (af4 K hf af z.1 ar IW IX)).mono λr s2 bo=>bd (wpAny_letTemporaryGo (wpAny_pure bo)))
theorem agb(args:Args):(Code.builtin "type.__call__" args).cUnits=1:=rfl
theorem agc(args:Args):(Code.builtin "type.__call__" args).weight≤1:=by
 have ak:(x2 "type.__call__" args).frames=0:=rfl;have av:(x2 "type.__call__" args).isGuard=false:=by show guardIds.contains "type.__call__"=false;decide +kernel
 have aP:(x2 "type.__call__" args).isCaller=false:=rfl;unfold Code.weight;refine aX ak (aa av (aa aP ?_));show 0+(if YzO then 1 else 0)+0+0≤1;by_cases q:YzO
 ·refine YgK;decide
 ·refine YSG;decide
theorem hJ{w:Nat}(h:a+2*(k+1)+2<1000)(av:w≤1):a+w+2*k+2<1000:=yp h ZEt
theorem i1(h:a+20*(k+1)+60<9900):a+1+20*k+60<9900:=Zez
theorem dd.create(aG:YTn)(args:Args):dd (A.under (ZK "type.__call__" args)) k:=
 ⟨hJ aG.1 (agc args),by show A.units+(x2 "type.__call__" args).cUnits+20*k+60<9900;refine aa (agb ..) ?_;exact i1 aG.2,Y4m⟩
def IY(mh:ag)(a d t C:Nat):ag:=upd (upd mh d (0,YPv)) a (t,Ybe)
theorem agd{f:Nat}{l:YH}(K:ZG)(hf:YFI)(hm:(C,er "__init__",f)∈H.mt)(h:∀a d,Y9O→Y6V=none→a≠d→∃t,aU g k f Z1d (IY mh a d t C) λr m=>r=Y7∧Q YA m):ZBx:=λA s vs aG ae bz=>by
 have kc:=YdU;have c:=YQe;have X:=YK8;refine(K.4 C _ f hm).elim λl' z=>pg z.2 λbD bC d4=>make_core (makes_of X c.5) (looks_findIn X Y95) (λself=>bind_fn X self YGc) Zj ?_;have dn:YnC:=ae.fresh YUs;have gone:ZYu:=Yqu;have fI:mh Y1J=none:=ae.fresh gone;have ne:Y1J≠s.heap.objs.size:=Ye4;refine(h Y1J s.heap.objs.size fI dn ne).elim λt ao=>?_;have dC:=hH s.heap emptyDict;have du:=hH ZZ5 Ylx;have QS:Yyh s.heap.objs.size=Yp8:=ZW;have a1:a5 g Ypz YON:=a5.new (o:=Z1S) (s':=YON) ae dC YUs rfl rfl ⟨[],0,QS⟩;have jA:Step cX YZM mh YON Ypz:=Step.new (s':=YON) dC YUs;have AN:(s.heap.push emptyDict).objs.size=Y1J:=YBI;have aC:(Yyi Ylx).get? Y1J=some (yl C s.heap.objs.size):=aV AN ZW;have g2:Yyh Y1J=none:=aV AN Y1f;have a2:a5 g Z4V YZB:=
  a5.new (o:=Ybe) (s':=YZB) a1 du g2 rfl rfl ⟨s.heap.objs.size,0,aC,(dE ne.symm).trans Yc,[],0,du _ _ QS,rfl⟩
 have eX:Step cX YON Ypz YZB Z4V:=
  Step.new (s':=YZB) du g2
 refine codeAny_mono (ao (A.under (ZK "type.__call__" ⟨Yw::vs,[]⟩)) _ (Z1T::vs) ZB1 a2 (a9.cons Y7M (bz.keep ZS2.4))) YsG;rcases r with e | (_ | _ | _ | v)
 ·exact z.elim
 ·exact z.elim
 ·exact z.elim
 ·exact z.elim
 ·exact z.elim λbF z=>Y0g λx q=>⟨(aV YG q.1:aK s'.heap v Y7),bF,z.1,(jA.trans eX).trans z.2,_,Y7M,Yq⟩
def cI(r:bG)(i:Nat):Yp:=(r[i]?).getD none
def IZ(c:bP)(n:Str):Bool:=ZIO||ZIN
def nameAt(c:bP)(i:Nat)(e:aI):Bool:=Yz8 false λn=>Yi9&&IZ c n.1
def l2(l:ZC)(d:β)(f:α→YIV):β:=l.casesOn d λa r=>r.casesOn d λb r=>r.casesOn (f a b) YYW
theorem sV{f:α→YIT}{P:Y1}(h:l2 l false f=true)(k:∀a b,l=Y1R→f a b=true→P):P:=by
 cases l with
 |nil=>exact Y0L
 |cons a r=>cases r with
  |nil=>exact Y0L
  |cons b r=>cases r with
   |nil=>exact k a b rfl h
   |cons _ _=>exact Y0L
theorem eP{o:Y7E}{f:YIT}{P:Y1}(h:o.elim false f=true)(k:∀a,YMg→ZNd):P:=by
 cases o with
 |none=>exact Y0L
 |some a=>exact YH6
def qx(c:bP)(t:dY)(e:aI):Bool:=t.casesOn (λi=>ZVT) (λi j=>Yas false λl=>l2 l.1 false λa b=>ZVS&&ZVU)
 λi j k=>Yas false λl=>l.1.casesOn false λa r=>l2 r false λb d=>ZVS&&(ZVU&&nameAt c k d)
def I0(t:dY):Bool:=t.casesOn Y1k Y0U Y0o
theorem eO.stores{c:bP}{n:Str}(L:ZI)(h:IZ c n=true):Y8f:=Y8M (λh=>YY YuZ) λh=>
 YJ ⟨YuZ,(L.2 n (YY Y15)).imp λa q=>⟨q.1,q.2 Y15⟩⟩
theorem pB{c:bP}{e:aI}{P:Y1}(L:ZI)(h:ZVT=true)(f:∀n p,e=Y42→YT6→Y8f→P):P:=
 eP h λn O q=>have q:=YAX;YVq λp e=>f n.1 p e ZMw (L.stores q.2)
theorem rv{n:Str}{p:Pos}{v:V}{R:Y5P}(aN:Y1d)(ae:YU)(af:Y6X)(hs:Y8f)(bg:Y2k)(h:∀s',Y4B→YKO→de g env ns Y5f mh s'→Yea):WP g A (assign Y42 env x) R s:=wpAny_assign_Name (Ib aN ae bg af hs h)
theorem age{n m:Str}{p q:Pos}{a b:V}{R:Y5P}(bJ:Zf)(aN:Y1d)(ae:YU)(af:Y6X)(hs:Y8f)(aM:YnU)(gB:YRb)(bg:iz s.heap x Y1R)(h:∀s',Y4B→YKO→de g env ns Y5v mh s'→Yea):WP g A (assign Yzr env x) R s:=bg.elim λt z=>z.elim λitems z=>by
 refine mK z.1 (z.2.2.two.elim λeg w=>w.elim λd1 w=>Zds);have b5:Y9C:=YYg;have st:YRa:=YCT;have sW:=YCg;exact jg abP (jg w.1 (bd (wpAny_holding (rv YKk sW af hs ZdG λs2 a2 eX aC=>bd (wpAny_holding (rv aC a2 aM gB ((ZdI Y5j).keep YGa) λs3 dB fJ c1=>wpAny_pure (h s3 dB (Yyt fJ) c1)))))))
theorem a9.three{v u w:V}(r:a9 h xs [v,u,w]):∃x y z,xs=[x,y,z]∧Y2F∧Yfu∧aK h z w:=r.un λx bf e a b=>b.two.elim λy q=>q.elim λz q=>⟨x,y,z,ZEJ,a,q.2⟩
theorem agf{l:Nat}{n m o:Str}{p q u:Pos}{a b d:V}{R:Y5P}(bJ:Zf)(aN:Y1d)(ae:YU)(af:Y6X)(hs:Y8f)(aM:YnU)(gB:YRb)(aE:ns[l]?=YB)(qm:Stores env o)(bg:iz s.heap x [a,b,d])(h:∀s',Y4B→YKO→de g env ns YZY mh s'→Yea):WP g A (assign (Y19 [Y42,YbF,Y09 o u] c6 pos) env x) R s:=bg.elim λt z=>z.elim λitems z=>by
 refine mK z.1 (z.2.2.three.elim λeg w=>w.elim λd1 w=>w.elim λhx w=>Zds);have b5:Y9C:=YYg;have st:YRa:=YCT;have sW:=YCg;exact jg abP (jg w.1 (bd (wpAny_holding (rv YKk sW af hs ZdG λs2 a2 eX aC=>bd (wpAny_holding (rv aC a2 aM gB ((Y3M.1.keep Y5j).keep YGa) λs3 dB fJ c1=>bd (wpAny_holding (rv c1 dB aE qm (((Y3M.2.keep Y5j).keep YGa).keep fJ.4) λs4 eb mT qe=>wpAny_pure (h s4 eb ((Yyt fJ).trans mT) qe)))))))))
theorem uD.tup{weak:Bool}{v:V}(bg:uD weak h x v)(e:YI7):YV9:=by
 subst e
 cases weak with
 |false=>exact aK.gj bg
 |true=>exact bg.elim λfX z=>V.noConfusion z.1 λe=>aa e z.2
theorem agg{c:bP}{e:aI}{P:Y1}(L:ZI)(ah:qx c YA5 e=true)(k:∀n m p q c6 pos,e=Yzr→YT6→Y8f→YiA→YRb→P):P:=
 eP ah λl O ah=>sV ah λp q aC ah=>pB L ZIu.1 λn yK fq af hs=>pB L ZIu.2 λm pm em aM gB=>ZTO λc6 z=>z.elim λpos z=>
  k n m yK pm c6 pos (z.trans (congrArg ZjI (aC.trans (fq▸em▸rfl)))) af hs aM gB
theorem agh{c:bP}{o:Nat}{e:aI}{P:Y1}(L:ZI)(ah:qx c (YcT i j o) e=true)(k:∀n m l p q u c6 pos,e=Y19 [Y42,YbF,Y09 l u] c6 pos→YT6→Y8f→YiA→YRb→c.ns[o]?=YE3→Stores env l→P):P:=
 eP ah λl O ah=>by
  cases fa:l.1 with
  |nil=>replace ah:=ZGR;exact nb ah
  |cons rx aAe=>
   replace ah:=ZGR;refine sV ah λp q aC ah=>pg ah YIf;exact pB L bD λn yK fq af hs=>pB L bC λm pm em aM gB=>pB L d4 λaH agi A7 H0 qm=>ZTO λc6 z=>z.elim λpos z=>
    k n m aH yK pm agi c6 pos (z.trans (congrArg ZjI (fa.trans (fq▸congrArg _ (aC.trans (em▸A7▸rfl)))))) af hs aM gB H0 qm
theorem QT{f:V→V→Y5Q}{P:Y1}(h:(vs.casesOn False λa t=>t.casesOn False λb u=>u.casesOn False λd w=>w.casesOn (f a b d) Y28:Y1))(k:∀v u w,vs=[v,u,w]→f v u w→P):P:=by
 cases vs with
 |nil=>exact h.elim
 |cons a t=>exact uI (f:=f a) h λu w e z=>k a u w ZCB z
theorem QU{c:bP}{t:dY}{e:aI}{weak:Bool}{v:V}{Q:Y7X}(L:ZI)(ah:ZY1)(h:Ym7):sQ g k env c.ns r e weak v Q:=λA s mh x aG ae aN bg=>by
 cases t with
 |one i=>
  refine pB L ah λn p e af hs=>rk e ?_
  cases weak with
  |false=>exact rv aN ae af hs bg YsH
  |true=>exact bg.elim λvs z=>rv aN ae af hs (z.1▸z.2.HK (aV z.1 h.1:PL ZZ=true)) λs' a1 jA aJ=>⟨_,a1,jA,aJ,h.2⟩
 |two i j=>exact agg L ah λn m p q c6 pos e3 af hs aM gB=>lJ YOu λvs ev h=>uI h λa b es h=>aa e3 (age Y4m aN ae af hs aM gB ZNF YsH)
 |three i j o=>exact agh L ah λn m l p q u c6 pos e3 af hs aM gB aE qm=>lJ YOu λvs ev h=>QT h λa b d es h=>e3▸agf Y4m aN ae af hs aM gB aE qm ZNF YsH
theorem agj:(forIn ifs false λc r=>YV5:YFf)=Yo8:=by
 induction ifs with
 |nil=>rfl
 |cons e es ai=>exact aj Y4O (aT YDR ai)
theorem agk{e:aI}{es:Ye}{Q:Y0i}(h:kP g k env ns r mh YV8 λb m=>cond b (sP g k env ns r m es Q) YRR):sP g k env ns r mh YGX Q:=λA s aG ae aN=>by
 refine aj Y4O (aT Y0c (bd (bd (Y0p λb s1 z=>z.elim λm1 z=>Zl))))
 cases b with
 |false=>exact cb agj (wpAny_pure Yt9)
 |true=>exact YnI
structure Met where
 nH:ih→bP→aI→Option (aI×Ye)
 pre:Yj
 ij:Calls→V→YR4
abbrev Met.pv(o:Met):Y1:=hR (∀{g H k env c r mh e x es Q},ZG→ZI→Yna=ZaT→Ev g k env c.ns r mh YAl (λv m=>o.pre v m∧gH g k env c.ns r es m λvs aH=>o.ij ZH v vs aH Q)→YK3) (∀{H c e y},Yna=Y06→YB9)
@[reducible] def kR:Y4i:=Subtype Met.pv
noncomputable abbrev kR.o (x:kR):Met:=x.1
theorem kR.snd(x:kR):x.o.pv:=x.2
inductive E where
 |var (i:Nat)
 |op (o:dj) (as:Yv)
 |met (o:kR) (a:E) (as:Yv)
 |not (a:E)
 |and (a b:E)
 |or (a b:E)
 |cV (t a b:E)
 |comp (s:gq) (as:Yv) (t:dY) (own:Nat) (caps:YV) (ifs:Yv) (elt:E)
 |sX (s1:gq) (a1:Yv) (t1:dY) (s2:gq) (a2:Yv) (cy:dY) (own:Nat) (caps:YV) (elt:E)
 |chain (a b d:E)
abbrev wG:=bG→YCh
abbrev A8:=bG→ag→Y0i→Y1
abbrev QV:=bG→Ygl
def qy(o:Y7E)(f:YIU):Y1:=o.casesOn False f
def mV(t:dY)(weak:Bool)(r:bG)(ifs:A8)(elt:wG)(v:V)(acc:Y3)(m:ag)(N:Ys):Y1:=
 j3 t weak v r λb6=>ifs b6 m λok ab=>cond ok (elt b6 ab λx Ed=>Y8q∧N Ygf Ed) Ydz
def I1(t1:dY)(dD:Bool)(cy:dY)(s2:gq)(a2:QV)(r:bG)(elt:wG)(v:V)(acc:Y3)(m:ag)(N:Ys):Y1:=
 j3 t1 dD v r λb6=>a2 b6 m λvs m1=>s2.o.ij vs m1 λvals need aH=>∃P:Y1O,P vals acc aH∧jz P need N λv acc m N=>mV cy s2.o.weak b6 (λO m Q=>YeW) elt v acc m N
abbrev jP:=wG×A8
abbrev ry:=QV×A8
def QW(i:Nat):jP:=(λr mh Q=>qy Y1G YsO,λr mh Q=>qy Y1G λv=>YmE)
def QX(cl:Calls)(o:dj)(_:Yv)(ai:ry):jP:=(λr mh Q=>Y7R r mh λvs m=>o.o.ij cl vs m Q,λr mh Q=>Y7R r mh λvs m=>o.o.ij cl vs m Y9J)
def QY(cl:Calls)(o:kR)(_:E)(_:Yv)(a:jP)(as:ry):jP:=(λr mh Q=>a.1 r mh λv m=>ZVq∧as.1 r m Zkg,λr mh Q=>a.1 r mh λv m=>ZVq∧as.1 r m λvs aH=>o.o.ij cl v vs aH Y9J)
def QZ(_:E)(a:jP):jP:=(λr mh Q=>a.1 r mh ZSJ,λr mh Q=>a.2 r mh ZhY)
def Q0(_ _:E)(a b:jP):jP:=(λr mh Q=>a.1 r mh (jw λx m=>cond x Yh9 YRO),λr mh Q=>a.2 r mh λx m=>cond x ZFW YRR)
def Q2(_ _:E)(a b:jP):jP:=(λr mh Q=>a.1 r mh (jw λx m=>cond x Z6g Yh9),λr mh Q=>a.2 r mh λx m=>cond x YeW ZFW)
def Q3(_ _ _:E)(t a b:jP):jP:=(λr mh Q=>t.2 r mh λx m=>cond x (a.1 r m Q) Yh9,YYU)
def Q4(s:gq)(_:Yv)(t:dY)(own:Nat)(caps:YV)(_:Yv)(_:E)(as ifs:ry)(elt:jP):jP:=
 (λr mh Q=>as.1 r mh λvs m=>s.o.ij vs m λvals need aH=>∃P:Y1O,YeJ∧jz P need Y87 (mV t s.o.weak YM1 ifs.2 elt.1),YYU)
def Q5(s1:gq)(_:Yv)(t1:dY)(s2:gq)(_:Yv)(cy:dY)(own:Nat)(caps:YV)(_:E)(a1 a2:ry)(elt:jP):jP:=
 (λr mh Q=>a1.1 r mh λvs m=>s1.o.ij vs m λvals need aH=>∃P:Y1O,YeJ∧jz P need Y87 (I1 t1 s1.o.weak cy s2 a2.1 YM1 elt.1),YYU)
def Q6(_ _ _:E)(a b d:jP):jP:=(YYU,λr mh Q=>a.1 r mh λcF m1=>b.1 r m1 λdF aH=>cF.mb False λx=>dF.mb False λy=>x≤y∧d.1 r aH λQ7 bF=>Q7.mb False λz=>Q (decide (y<z)) bF)
def Q8:ry:=(λO mh Q=>Q [] mh,λO mh Q=>Z6t)
def Q9(_:E)(_:Yv)(a:jP)(as:ry):ry:=(λr mh Q=>a.1 r mh λv m=>as.1 r m YsP,λr mh Q=>a.2 r mh λb m=>cond b (as.2 r m Q) YRR)
def bH(cl:Calls)(e:E):jP:=E.rec (motive_1:=Zgi) (motive_2:=Zgj) Zii Zjg Zjc Zi1 Zi3 Zi4 Zi5 ZkD ZkE Zi6 Zgn Zi2 e cl
def e7(cl:Calls)(e:Yv):ry:=E.rec_1 (motive_1:=Zgi) (motive_2:=Zgj) Zii Zjg Zjc Zi1 Zi3 Zi4 Zi5 ZkD ZkE Zi6 Zgn Zi2 e cl
def I2(c:bP)(n:Str):Bool:=ZIO||(ZIN||Y3F==Y6c)
def agl(c:bP)(i:Nat)(x:aI):Bool:=Yz9 false λn=>Yi9&&(I2 c n.1&&(!(n.1==YIn)&&! ZV2))
def nP(e:aI):YH:=Yz8 (Yas [] λl=>l.1.filterMap Zku) λn=>[n.1]
def A9(t:dY)(n:Nat):Bool:=t.casesOn (λi=>YjG) (λi j=>YjG&&ZL8) λi j l=>YjG&&(ZL8&&decide (l<n))
def ku(t:dY)(i:Nat):Bool:=t.casesOn ZjB (λj k=>i==j||i==k) λj k l=>i==j||(i==k||i==l)
def Ra(t u:dY):Bool:=u.casesOn (λi=>! YHD) (λi j=>! YHD&&!ku t j) λi j l=>! YHD&&(!ku t j&&!ku t l)
def Rb(o:UnaryOp):Bool:=o.casesOn false true false false
def I3(o:BoolOp):Bool:=o.casesOn true false
def l1(l:ZC)(d:β)(f:YIV):β:=l.casesOn d λa r=>r.casesOn (f a) YYW
def Ba(H:ih)(c:bP)(s:gq)(t:dY)(n:Nat)(agm:ZRY)(iter:aI):Bool:=(s.o.nH H c iter).elim false λes=>agm H c es&&((!s.o.weak||I0 t)&&A9 t n)
abbrev Ch:=ih→bP→aI→Bool
abbrev oD:=ZRY
def Rc(i:Nat):Ch:=λO c x=>agl c i x
def Rd(o:dj)(_:Yv)(ai:oD):Ch:=λH c x=>Yxz false λes=>ai H c es
def Rf(o:kR)(_:E)(_:Yv)(a:Ch)(as:oD):Ch:=λH c x=>Yxz false λy=>a H c y.1&&as H c y.2
def Rg(_:E)(a:Ch):Ch:=λH c x=>(PE x).elim false λy=>Rb Y1v&&a H c Zi
def EO(w:Bool)(_ _:E)(a b:Ch):Ch:=λH c x=>(aeF x).elim false λy=>(I3 Y1v==w)&&l2 Zi false λp q=>a H c p&&b H c q
def Rh(_ _ _:E)(t a b:Ch):Ch:=λH c x=>(aeG x).elim false λy=>t H c Y1v&&ZA5
def agn(ft:bP)(H:ih)(t:dY)(c7:Comprehension)(ifs:oD)(elt:Ch)(x:aI):Bool:=qx ft t c7.target&&(ifs H ft c7.ifs&&ZMj)
def ago(ft:bP)(H:ih)(t1:dY)(g1:Comprehension)(cy:dY)(g2:Comprehension)(s2:gq)(a2:oD)(own:Nat)(elt:Ch)(x:aI):Bool:=qx ft t1 g1.target&&(qx ft cy g2.target&&(Ba H ft s2 cy own a2 g2.iter&&(Ra t1 cy&&ZMj)))
def Ri(s:gq)(_:Yv)(t:dY)(own:Nat)(caps:YV)(_:Yv)(_:E)(as ifs:oD)(elt:Ch):Ch:=λH c x=>Yul false λy=>l1 Y5B false λc7=>ZIi&&(Ba H c s t own as c7.iter&&
  (Yxr==own&&(IA c YNn ZVM caps&&agn (sS YNn ZVM caps c) H t c7 ifs elt Y1v)))
def Rj(s1:gq)(_:Yv)(t1:dY)(s2:gq)(_:Yv)(cy:dY)(own:Nat)(caps:YV)(_:E)(a1 a2:oD)(elt:Ch):Ch:=λH c x=>Yul false λy=>l2 Y5B false λg1 g2=>g1.is_async==0&&(g2.is_async==0&&(g1.ifs.isEmpty&&(g2.ifs.isEmpty&&(Ba H c s1 t1 own a1 g1.iter&&
  (Yah==own&&(IA c YNn ZVO caps&&ago (sS YNn ZVO caps c) H t1 g1 cy g2 s2 a2 own elt Y1v))))))
def Rk(_ _ _:E)(a b d:Ch):Ch:=λH c x=>(PF x).elim false λy=>decide (Y5B=Z9D)&&l2 Y4R false λp q=>!(lastMarks Z9D [p,q])&&(a H c Y1v&&(b H c p&&d H c q))
def Rl:oD:=YrN
def Rm(_:E)(_:Yv)(a:Ch)(as:oD):oD:=λH c l=>l.casesOn false λx xs=>a H c x&&as H c xs
def hZ(e:E):Ch:=E.rec (motive_1:=λO=>Ch) (motive_2:=λO=>oD) Rc Rd Rf Rg Z3g Z3f Rh Ri Rj Rk Rl Rm e
def qz(es:Yv):oD:=E.rec_1 (motive_1:=λO=>Ch) (motive_2:=λO=>oD) Rc Rd Rf Rg Z3g Z3f Rh Ri Rj Rk Rl Rm es
variable{Q':Y0i}
theorem kP.mono{t:YFf}{Q:Y0i}(h:kP g k env ns r mh t Q)(m:YZ7):kP g k env ns r mh t Q':=Zfw
theorem sP.mono{Q:Y0i}(h:sP g k env ns r mh ifs Q)(m:YZ7):sP g k env ns r mh ifs Q':=Zfw
theorem ow.mono{t:Y5O}{weak:Bool}{Q Q':Y1C}(h:ow g k env ns r mh tgt weak t Q)(m:∀v n aW,Q v n aW→Q' v n aW):ow g k env ns r mh tgt weak t Q':=λA s aG ae aN=>
 Y0p λx s1 z=>z.mono λit s2 z=>z _ λvals need aH I wr St a q=>(λO bA=>bA vals need aH I wr St a (m _ _ _ q))
theorem sQ.mono{weak:Bool}{v:V}{Q Q':Y7X}(h:sQ g k env ns r tgt weak v Q)(m:∀bI,Q bI→Q' bI):sQ g k env ns r tgt weak v Q':=λA s mh x aG ae aN bg=>(h A s mh x aG ae aN bg).mono λO s' z=>z.imp λbI z=>⟨z.1,z.2,z.3,m _ z.4⟩
theorem jz.mono{P:Y1O}{K:Ys}{T iY:YKS}(h:YVG)(m:∀v acc mh N,T v acc mh N→iY v acc mh N):jz P need K iY:=⟨h.1,λv vs acc mh q=>⟨ZPn.1,m _ _ _ _ ZPn.2⟩⟩
abbrev Sub(r b6:bG):Y1:=Ysd
def Bb(t:dY)(r:bG):Y1:=∀i,YHD=true→Ysp
theorem aAf{x:Yp}(h:Ysp):Sub r (r.set i x):=λj v e=>by
 refine aj (NY λ(q:i=j)=>h v (q▸e)) ?_;exact e
noncomputable abbrev I4 (T:Z9) (r b6:bG):Y1:=Z7x∧∀i v,T i=false→ZFh
theorem yL{T:Z9}{b6:bG}{x:Yp}(dJ:T i=true)(hf:I4 T r b6)(af:Ysp):I4 T r (b6.set i x):=
 ⟨λn v e=>(NY λ(q:i=n)=>af v (aa q e)).trans (hf.1 n v e),λn v az e=>hf.2 n v az (cA (NY λ(q:i=n)=>vV (cA dJ ZD3)) e)⟩
theorem agp{t:dY}{weak:Bool}{v:V}{Q:Y7X}(hf:Ycv)(h:Ym7):j3 t weak v r Zhi:=by
 have s0:I4 (ku t) r r:=⟨YEM,λO O O e=>e⟩
 cases t with
 |one i=>
  have s1:=yL (T:=ku YJg) (x:=Ym) YSs s0 (hf i YSs)
  cases weak with
  |false=>exact YtD
  |true=>exact⟨h.1,s1.1,s1.2,h.2⟩
 |two i j=>
  refine lJ YOu λvs ev h=>uI h λa b es h=>?_;have af:ku YA5 i=true:=ZdR;have aM:ku YA5 j=true:=wg (YJ ZH1);have s1:=yL (T:=ku YA5) (x:=Y6d) aM Zeu ZQc;subst ev es;exact YtD
 |three i j l=>
  refine lJ YOu λvs ev h=>QT h λa b d es h=>?_;have af:ku YJp i=true:=ZdR;have aM:ku YJp j=true:=wg (YJ (wg (YY ZH1)));have aE:ku YJp l=true:=wg (YJ (wg (YJ (beq_self_eq_true l))));have s1:=yL (T:=ku YJp) (x:=YNI) aE (yL (x:=Y6d) aM Zeu ZQc) (hf l aE);subst ev es;exact YtD
theorem I5{t:dY}{n:Nat}(h:Z2a):Bb t ZRb:=λi af v e=>(IB e).elim λf5 q=>q.elim λj q=>by
 have lt:i<n:=by
  cases t with
  |one j=>exact aa Ywp ZWD
  |two j l=>exact YOs (λq=>YOo▸ZW9) λq=>aa YOp ZWA
  |three j l o=>exact YOs (λq=>aa YOo ZW9) λq=>YaO (λq=>aa YOp (of_decide_eq_true YTL.1)) λq=>aa Ywq (of_decide_eq_true YTL.2)
 exact ye (cx n f5) (aV q.1 lt)
theorem agq{t u:dY}(h:Ra t u=true)(i:Nat)(af:ku u i=true):ZTI:=by
 cases u with
 |one j=>exact aa Ywp (Y2A h)
 |two j l=>exact YOs (λq=>YOo▸YxX) λq=>aa YOp YxY
 |three j l o=>exact YOs (λq=>aa YOo YxX) λq=>YaO (λq=>YOp▸Y2A YTL.1) λq=>Ywq▸Y2A YTL.2
abbrev hB(e:E):Y1:=hR (∀{g:G}{H:ih}{k:Nat}{env:Env}{c:bP}{r:bG}{mh:ag}{x:aI}{Q:Yj},ZG→ZI→YLv→Ya1→YQi) (∀{g:G}{H:ih}{k:Nat}{env:Env}{c:bP}{r:bG}{mh:ag}{x:aI}{Q:Y0i},ZG→ZI→YLv→YhM.2 r mh Q→kP g k env c.ns r mh Ym3 Q)
abbrev lM(es:Yv):Y1:=hR (∀{g:G}{H:ih}{k:Nat}{env:Env}{c:bP}{r:bG}{mh:ag}{xs:Ye}{Q:Ys},ZG→ZI→YoO→ZLm.1 r mh Q→gH g k env c.ns r xs mh Q) (∀{g:G}{H:ih}{k:Nat}{env:Env}{c:bP}{r:bG}{mh:ag}{xs:Ye}{Q:Y0i},ZG→ZI→YoO→ZLm.2 r mh Q→ZZI)
theorem Rn{c:bP}{n:Str}{v:V}(L:ZI)(af:YT6)(bo:YBF)(aR:I2 c n=true)(hd:Yxq)(ah:Y5u)(h:Y8c):Z3k:=λA s aG ae aN=>by
 have ax:ZMp:=(gG aR).elim Zjz λq=>YJ (YaO
  Zjz λq=>(Yua YJ λz=>YY z.2))
 exact wpAny_Name (aep aN af bo ax hd λv bz=>qj ae bz h) ah
theorem agr{o:Y7E}{f:YIU}{P:Y1}(h:qy o f)(k:∀a,YMg→f a→P):P:=by
 cases o with
 |none=>exact h.elim
 |some a=>exact YH6
theorem ags{v:V}(h:Y1G=Ym):YBF:=by
 unfold cI at h
 cases q:YMy with
 |none=>replace h:=Yjc;exact Y08
 |some o=>replace h:=Yjc;exact ZJz
theorem Ro(i:Nat):hB Y8V:=by
 have aO:∀{g:G}{H:ih}{k:Nat}{env:Env}{c:bP}{r:bG}{mh:ag}{x:aI}{Q:Yj},ZG→ZI→hZ Y8V H c x=true→qy Y1G YsO→Z3l:=λ{g H k env c r mh x Q}K L ao h=>
  eP ao λn O q=>YVq λp e=>by
   refine wj q YYh;rw[e];exact⟨agr h λv aO h=>Rn L Y95 (ags aO) bC (Y2A d4) (Y2A hJ) h,rfl⟩
 exact⟨ZlI,λ{g H k env c r mh x Q}K L ao h=>IU YS8.2 YS8.1⟩
theorem Rp(o:dj)(as:Yv)(ai:YHH):hB (.op o as):=
 ⟨λK L ao h=>eP ao λes hm q=>o.snd.1 K L hm ZDr,λK L ao h=>eP ao λes hm q=>o.snd.2 K L hm ZDr⟩
theorem Rq(o:kR)(a:E)(as:Yv)(aD:YDL)(ai:YHH):hB Ybb:=by
 have aO:∀{g:G}{H:ih}{k:Nat}{env:Env}{c:bP}{r:bG}{mh:ag}{x:aI}{Q:Yj},ZG→ZI→hZ Ybb H c x=true→(bH ZH Ybb).1 r mh Q→Z3l:=λ{g H k env c r mh x Q}K L ao h=>
  eP ao λy hm q=>by
   exact dG q λbD bC=>⟨o.snd.1 (x:=y.1) (es:=y.2) K L hm (YvC λv m z=>⟨z.1,Y7R K L bC z.2⟩),o.snd.2 hm⟩
 exact⟨ZlI,λ{g H k env c r mh x Q}K L ao h=>IU ZBY.2 ZBY.1⟩
theorem Rr{o:UnaryOp}(h:Rb o=true):o=.Not:=by cases o with
 |Not=>rfl
 |_=>exact Y0L
theorem EP{o:BoolOp}{w:Bool}(h:(I3 o==w)=true):o=cond w .And .Or:=by
 have h:I3 o=w:=Y15;subst h;clear h
 cases o <;> rfl
theorem agt{e:aI}(h:Ev g k env ns r mh Y0s ZSJ):Ev g k env ns r mh (eval Yzw env) Q:=λA s aG ae aN=>
 wpAny_UnaryOp (Y0p λcF s1 z=>z.elim λm1 z=>Y0g λx q=>not_value (IT q.1 q.2 λb q=>⟨m1,z.1,z.2,_,YFr,q⟩))
variable{whole:Y5O}
theorem agu{e:aI}{Q:Y0i}(h:kP g k env ns r mh YV8 ZhY):kP g k env ns r mh (isTrue Yzw env whole) Q:=λA s aG ae aN=>
 wpAny_isTrue_Not (Y0p λb s1 z=>z.imp λm1 z=>⟨z.1,z.2,z.3⟩)
theorem Rt(a:E)(ai:YDL):hB Z0h:=by
 refine YtF
 ·exact dG q λbD bC=>aT e (yk Z7E (agt (Y7R K L bC h)))
 ·exact dG q λbD bC=>dT e (DI Z7E (agu (YCi K L bC h)))
theorem agv{x y:aI}(h:Ev g k env ns r mh YAl (jw λb m=>cond b Z3m YRO)):Ev g k env ns r mh (eval Yzg env) Q:=λA s aG ae aN=>
 wpAny_And2 (Y0p λcF s1 z=>z.elim λm1 z=>Y0g λx q=>by
  refine Z4U;have aC:cF=Y1x:=Ywu
  rw[aC];refine YNg
  cases b with
  |false=>exact ZnS
  |true=>exact ZVG)
theorem agw{x y:aI}(h:Ev g k env ns r mh YAl (jw λb m=>cond b Z6g Z3m)):Ev g k env ns r mh (eval Yzh env) Q:=λA s aG ae aN=>
 wpAny_Or2 (Y0p λcF s1 z=>z.elim λm1 z=>Y0g λx q=>by
  refine Z4U;have aC:cF=Y1x:=Ywu
  rw[aC];refine YNg
  cases b with
  |true=>exact ZnS
  |false=>exact ZVG)
theorem agx{x y:aI}{Q:Y0i}(h:kP g k env ns r mh Ym3 λb m=>cond b ZSs YRR):kP g k env ns r mh (isTrue Yzg env whole) Q:=λA s aG ae aN=>
 wpAny_isTrue_BoolOp (wpAny_allTrue_And_cons (Y0p λb s1 z=>z.elim λm1 z=>by
  cases b with
  |false=>exact Yt9
  |true=>exact wpAny_allTrue_And_cons (YzT λb s2 y=>y.elim λaH y=>by
    cases b with
    |false=>exact YZE
    |true=>exact wpAny_allTrue_And_nil YZE)))
theorem agy{x y:aI}{Q:Y0i}(h:kP g k env ns r mh Ym3 λb m=>cond b YeW ZSs):kP g k env ns r mh (isTrue Yzh env whole) Q:=λA s aG ae aN=>
 wpAny_isTrue_BoolOp (wpAny_allTrue_Or_cons (Y0p λb s1 z=>z.elim λm1 z=>by
  cases b with
  |true=>exact Yt9
  |false=>exact wpAny_allTrue_Or_cons (YzT λb s2 y=>y.elim λaH y=>by
    cases b with
    |true=>exact YZE
    |false=>exact wpAny_allTrue_Or_nil YZE)))
theorem agz{t a b:aI}(h:kP g k env ns r mh Ym2 λc m=>cond c (Ev g k env ns r m (eval a env) Q) (Ev g k env ns r m (eval b env) Q)):Ev g k env ns r mh (eval (YbE t a b pos) env) Q:=λA s aG ae aN=>
 wpAny_IfExp (Y0p λc s1 z=>z.elim λm1 z=>by
  have q:=z.3;clear q
  cases c with
  |true=>exact YnI
  |false=>exact YnI)
theorem sY{b:Bool}{p q bS:Y1}(h:cond b p q)(f:p→dV)(g:q→bS):cond b dV bS:=by cases b with
 |true=>exact f h
 |false=>exact g h
theorem Ru{Q:Y0i}{v:V}(h:jw Q v m)(f:∀b,Q b m→Q' b m):jw Q' v m:=by cases v with
 |bool b=>exact f b h
 |_=>exact h.elim
theorem snd_and(a b:E)(aD:YDL)(ah:hB b):hB Yzz:=by
 refine YtF
 ·exact dG q λbD bC=>sV bC λc6 cT aC ck=>dG ck λeg d1=>aT e (yk YQg (gS aC (agv (YvD λv m z=>Ru z λb z=>sY z ZDd id))))
 ·exact dG q λbD bC=>sV bC λc6 cT aC ck=>dG ck λeg d1=>dT e (DI YQg (wi aC (agx (YvE λv m z=>sY z ZDe id))))
theorem Rv(a b:E)(aD:YDL)(ah:hB b):hB Z1R:=by
 refine YtF
 ·exact dG q λbD bC=>sV bC λc6 cT aC ck=>dG ck λeg d1=>aT e (yk YQg (gS aC (agw (YvD λv m z=>Ru z λb z=>sY z id ZDd))))
 ·exact dG q λbD bC=>sV bC λc6 cT aC ck=>dG ck λeg d1=>dT e (DI YQg (wi aC (agy (YvE λv m z=>sY z id ZDe))))
theorem Rw(t a b:E)(bq:hB t)(aD:YDL)(ah:hB b):hB Z0A:=
 ⟨λK L ao h=>eP ao λy O q=>Y5C λp e=>by
  refine pg q λbD bC d4=>YCa;exact agz ((bq.2 K L bD h).mono λc m z=>sY z (aD.1 K L bC) (Y2R K L d4)),YYS⟩
theorem I6{v:V}{f:YQu}{P:Y1}(bz:Y2F)(z:Zcj)(k:∀n t,x=YI n t→Zcq):P:=by
 cases v with
 |int n=>exact bz.elim λt e=>k n t e rfl z
 |_=>exact z.elim
theorem Rx(a b d:E)(aD:YDL)(ah:hB b)(hd:hB d):hB (.chain a b d):=
 ⟨YYS,λ{g H k env c r mh x Q}K L ao h=>eP ao λy O q=>Y5C λpos e=>by
  refine dG q λbD bC=>sV bC λp dV fa ck=>wj ck λeg d1 hx mW=>?_;refine dT e (DI Ynl (wi fa ?_));intro A s aG ae aN;refine isTrue_chain (ops:=[]) (rs:=[]) (WP.mono (aD.1 K L d1 h A s aG ae aN) λcF s1 f3=>f3.elim λm1 f3=>ZNv λu dD=>test_link (ops:=[]) (rs:=[]) (WP.mono (Y2R K L hx dD.2 A s1 aG f3.1 ZBX) λdF s2 fz=>fz.elim λaH fz=>ZOb λv w2=>I6 (ZKU fz.2.4) Y5l λi t ex O kx=>I6 YEE kx λj dg fy O mX=>?_)) (Y2A eg);rw[ex,fy];refine le_int YNg;refine aa (decide_eq_true mX.1) ZCe;have eX:=ZNu;refine test_last (WP.mono (hd.1 K L mW mX.2 A s2 aG fz.1 Yg4) λQ7 s3 mY=>mY.elim λbF mY=>ZUM λw yM=>I6 yM.1 yM.2 λl aAg qA O agA=>?_);refine jg qA ?_;exact lt_int (wpAny_truthy_bool ⟨bF,mY.1,ZMZ,agA⟩)⟩
theorem Ry:lM []:=by
 refine Zni
 ·cases xs with
  |nil=>exact h
  |cons _ _=>exact Y6W
 ·cases xs with
  |nil=>exact Qk h
  |cons _ _=>exact Y6W
theorem Rz(a:E)(as:Yv)(aD:YDL)(has:YHH):lM Yfd:=by
 refine Zni
 ·cases xs with
  |nil=>exact Y6W
  |cons x xs=>
   exact dG ao λbD bC=>YvC λv m z=>has.1 K L bC z
 ·cases xs with
  |nil=>exact Y6W
  |cons x xs=>
   exact dG ao λbD bC=>agk ((aD.2 K L bD h).mono λb m z=>sY z (has.2 K L bC) id)
theorem agB{f:YIT}{P:Y1}(h:l1 l false f=true)(k:∀a,l=[a]→ZNd):P:=by
 cases l with
 |nil=>exact Y0L
 |cons a r=>cases r with
  |nil=>exact YH6
  |cons _ _=>exact Y0L
theorem ER{c:bP}{t:dY}{e:aI}(h:Z4R)(ah:ZY1):∃as x p,e=Yzs:=by
 cases t with
 |one i=>exact Y0L
 |two i j=>exact ZMJ
 |three i j k=>exact ZMJ
theorem ES{c:bP}{d5:gq}{t:dY}{n:Nat}{as:Yv}{it:aI}{Q:Y1C}(ai:YHH)(K:ZG)(L:ZI)(ao:Ba H c d5 t n ZY5 it=true)(ah:Z4R→ZmN)(h:(e7 ZH as).1 r mh λvs m=>d5.o.ij vs m Q):
  ow g k env c.ns r mh tgt d5.o.weak ZNP Q∧ZmG∧Z2a:=
 eP ao λes hm q=>by
  exact pg q λbD bC d4=>⟨d5.snd.1 K L (λhw=>ah ((gG bC).elim (λz=>absurd (cA hw (Y2A z)) nb) id)) hm (Y7R K L bD h),Qc _ (d5.snd.2 hm),d4⟩
theorem RA{c:bP}{t:dY}{weak:Bool}{v:V}{Q:Y7X}(L:ZI)(hf:Ycv)(ah:ZY2)(h:Ym7):sQ g k env c.ns r tgt weak v Zhi:=QU L ah (agp hf h)
theorem RB{c:bP}{t:dY}{weak:Bool}{ifs:A8}{xs:Ye}{elt:E}{x:aI}{v:V}{N:Ys}(sZ:YLt)(K:ZG)(L:ZI)(hf:Ycv)(ah:ZY2)(aq:hZ elt H c x=true)(af:∀{r:bG}{mh:ag}{Q:Y0i},ifs r mh Q→ZZI)(h:mV t weak r ifs (bH ZH elt).1 v acc mh N):ED g k env c.ns r tgt weak xs x v acc mh N:=
 (RA L hf ah h).mono λb6 z=>⟨z.1,(af Z3).mono λok m w=>sY w (λw=>sZ.1 K L aq w) id⟩
theorem I7{c7:Comprehension}(h:ZIi=true):c7=⟨c7.target,c7.iter,c7.ifs,0⟩:=by
 cases c7 with
 |mk a b c d=>exact congrArg (Comprehension.mk a b c) Y15
abbrev agC(g:G)(k:Nat)(env:Env)(c:bP)(r:bG)(mh:ag)(e:aI)(Q:Yj)(P:Y1):Y1:=∀(elt tgt iter:aI)(ifs:Ye)(rest:YCP)(scope:Scope)(own:YH)(caps:YV)(pos:Pos)(weak:Bool),e=Y5I→Ysq→Y7A→ZWK→P
abbrev yN(g:G)(k:Nat)(env:Env)(c:bP)(r:bG)(mh:ag)(e:aI)(Q:Yj):Y1:=∀P:Y1,agC g k env c r mh e Q P→P
theorem yN.ev{c:bP}{e:aI}(L:ZI)(D:yN g k env c r mh e Q):YK3:=D _ λO O O O O O O O O O e3 hs N h=>aT e3 (afY hs N L h)
theorem yN.yO{c:bP}{e:aI}{nm:Str}{c5:Pos}{Qn:Y5U}(L:ZI)(A4:swapsWith e (some Yzp) pos.line env=YMm)(aR:env.kindOf nm=Y2x)(az:Y8w=some nm)(D:yN g k env c r mh e λv m=>Qn Y5f m):jk g k env c.ns r mh (exec (Y5w [Yzp] e pos) env) Qn Qr:=D _ λO O O O O O O O O O e3 hs N h=>by
 (replace A4:=DC e3 A4;refine Ax e3 ?_)
 exact afZ hs N L A4 aR az h
theorem RC{c:bP}(d5:gq)(as:Yv)(t:dY)(own:Nat)(caps:YV)(ifs:Yv)(elt:E)(eh:YHH)(I8:lM ifs)(sZ:YLt){x:aI}(K:ZG)(L:ZI)(ao:hZ YPU H c x=true)(h:(bH ZH YPU).1 r mh Q):Zev:=
 eP ao λy O q=>agB q λc7 oE q=>by
  refine OX q λbD bC d4 hJ i1 qv A5=>?_;have N:=Qy hJ;have fx:Yxr=own:=YLc;have S:=ES (k:=k) (r:=r) (mh:=mh) (tgt:=c7.target) eh K L bC (λz=>ER z i1) h;refine(λO bA=>bA _ _ _ _ _ _ _ _ _ _ (Yqq (dT oE (wi Z4T rfl))) S.2.1 N Z7G);have fA:=Z5T;rw[←fx]at z;exact afR z.1 (YYE λv acc mh gr w=>RB sZ K fA Z4S i1 A5 (λw=>I8.2 K fA qv w) w)
theorem RD(d5:gq)(as:Yv)(t:dY)(own:Nat)(caps:YV)(ifs:Yv)(elt:E)(eh:YHH)(I8:lM ifs)(sZ:YLt):hB YPU:=
 ⟨λK L ao h=>(RC d5 as t own caps ifs elt eh I8 sZ K L ao h).ev L,YYS⟩
theorem RE{c:bP}(s1:gq)(wH:Yv)(t1:dY)(s2:gq)(wI:Yv)(cy:dY)(own:Nat)(caps:YV)(elt:E)(I9:lM wH)(Ja:lM wI)(sZ:YLt){x:aI}(K:ZG)(L:ZI)(ao:hZ YcJ H c x=true)(h:(bH ZH YcJ).1 r mh Q):Zev:=
 eP ao λy O q=>sV q λg1 g2 oE q=>by
  refine ac5 q λbD bC d4 hJ i1 qv A5 u8 yJ Bc ET EU=>?_;have N:=Qy A5;have fx:Yah=own:=ZMy;have S:=ES (k:=k) (r:=r) (mh:=mh) (tgt:=g1.target) I9 K L i1 (λz=>ER z u8) h;have hf:∀C,∀x,foldedSetIterable g2.iter (ml YNn env C) x=YDq:=λC=>eP Bc λes hm O=>Qc _ (s2.snd.2 hm);have agD:A9 cy own=true:=eP Bc λes hm w=>(cL (cL w).2).2;refine(λO bA=>bA _ _ _ _ _ _ _ _ _ _ (Yqq (dT oE (wi Z4T (aa (I7 bC) (aa (sA d4) (aa (sA hJ) rfl)))))) S.2.1 N Z7G);have fA:=Z5T;rw[←fx]at z;refine afS (w2:=s2.o.weak) (hf C) z.1 (YYE λv acc mh gr w=>(RA fA Z4S u8 w).mono λb6 w=>⟨w.1,?_⟩);have cK:=ES (k:=k) (r:=b6) (mh:=mh) (tgt:=g2.target) Ja K fA Bc (λz=>ER z yJ) Y3M;have fr:Bb cy b6:=λi af v e=>I5 (r:=r) (caps:=caps) (aV fx.symm agD:A9 cy Yah=true) i af v (Y3i i v (agq ET i af) e);exact cK.1.mono λvals2 Iy aH u=>u.imp λAZ u=>⟨u.1,u.2.mono λv acc mh gr w=>RB sZ K fA fr yJ EU (λw=>Qk w) w⟩
theorem RF(s1:gq)(wH:Yv)(t1:dY)(s2:gq)(wI:Yv)(cy:dY)(own:Nat)(caps:YV)(elt:E)(I9:lM wH)(Ja:lM wI)(sZ:YLt):hB YcJ:=
 ⟨λK L ao h=>(RE s1 wH t1 s2 wI cy own caps elt I9 Ja sZ K L ao h).ev L,YYS⟩
theorem oF(e:E):hB e:=E.rec (motive_1:=hB) (motive_2:=lM) Ro Rp Rq Rt snd_and Rv Rw RD RF Rx Ry Rz e
theorem qB(e:Yv):lM e:=E.rec_1 (motive_1:=hB) (motive_2:=lM) Ro Rp Rq Rt snd_and Rv Rw RD RF Rx Ry Rz e
abbrev St:=PySem.Stmt
def yP{α:St→Y4i}(e:St)(d:Zll)(agE:∀v p,α (YEr v p))(agF:∀t v p,α (Y5w t v p))(agG:∀t i b o p,α (.For t i b o p))(agH:∀t b o p,α (YPP t b o p))(agI:∀t a b p,α (.If t a b p))(agJ:∀v p,α (YJU v p))(agK:∀e c p,α (.Raise e c p))(agL:∀b h o f p,α (.Try b h o f p)):α e:=PySem.Stmt.casesOn e Zfy Zfy (λO O O O O O O O O O O=>d _) agE Y9g agF (λO O O O O O O=>d _) YEL YYT agG YYT agH agI YIZ YIZ YIZ agK agL YYT YIZ Y9g YEL Y9g Y9g agJ YrW YrW YrW
def agM(e:St):Z5z:=yP (α:=λe=>Z5z) e ZP (λv p=>Option.casesOn (motive:=λv=>Option {x:aI // ∃q,PySem.Stmt.Return v p=YEr YQ q}) v none λx=>some ⟨x,p,rfl⟩) YX Y4S Yl Yl Yz YX Y4S
def agN(e:St):Z6B:=yP (α:=λe=>Z6B) e ZP Yz (λt v p=>NZ (motive:=λt=>Option {x:Yfp // aye t v p=YPL}) t none λa r=>NZ (motive:=λr=>Option {x:Yfp // aye (a::r) v p=YPL}) r (some ⟨(a,v,p),rfl⟩) Yz) Y4S Yl Yl Yz YX Y4S
def agO(e:St):Z6A:=yP (α:=λe=>Z6A) e ZP Yz YX (λt i b o p=>NZ (motive:=λo=>Option {x:aI×YS2 // ∃q,PySem.Stmt.For t i b o p=.For x.1 Y2K ZJ [] q}) o (some ⟨(t,i,b),p,rfl⟩) Yz) Yl Yl Yz YX Y4S
def agP(e:St):Z63:=yP (α:=λe=>Z63) e ZP Yz YX Y4S (λt b o p=>NZ (motive:=λo=>Option {x:YS2 // ∃q,PySem.Stmt.While t b o p=YPP x.1 x.2 [] q}) o (some ⟨(t,b),p,rfl⟩) Yz) Yl Yz YX Y4S
def agQ(e:St):Z64:=yP (α:=λe=>Z64) e ZP Yz YX Y4S Yl ZkH Yz YX Y4S
def agR(e:St):Z67:=yP (α:=λe=>Z67) e ZP Yz YX Y4S Yl Yl (λv p=>some ⟨(v,p),rfl⟩) YX Y4S
def pureOf(t:Y7G):Z5p:=Sem.casesOn (motive:=λt=>Z5p) t (λa=>some Yt5) ZP ZP ZP Yz Yz YX Yl Yz Yz Yz Yz ZP ZP YX YX Y4S Yz Yz Yz Yl Yl ZP Yz ZP Y4S
def nQ(cN:Kinds):Env:={scope:=⟨Y5J,cN,false,false,[]⟩,locals:=0,globals:=0,cells:=[]}
abbrev j6(env:Env)(c:bP):Y1:=jd ZI (∀n,Y25=Y3F) Yjo
theorem j6.fb{c:bP}(F:Y3d):env.blockKind=Y5J:=by unfold Env.blockKind;rw[F.3];rfl
theorem RG(cN:Kinds)(n:Str):(nQ cN).kindOf n=cN.lookup n:=rfl
theorem RH(cN:Kinds):(nQ cN).blockKind=Y5J:=rfl
theorem Jb{c:bP}(F:Y3d)(v:aI)(t:aI)(l:Nat):swapsWithSole [t] v l env=swapsWithSole [t] v l YVu:=by
 show swapsWith v YNJ l env=swapsWith v YNJ l YVu;dsimp only [swapsWith];refine aa F.fb (aa Z7A (aa Yx2 ZCh));rfl
theorem RI{c:bP}(F:Y3d)(v:aI)(t:aI):YpU=swappedStores [t] v YVu:=by
 unfold swappedStores;exact aa F.fb (aa Z7A (aa Yx2 rfl))
theorem agS{c:bP}(F:Y3d)(v:aI)(l:Nat):swapsWith v none l env=swapsWith v none l YVu:=by
 dsimp only [swapsWith];refine ZCh;rfl
theorem j6.inter{c:bP}(F:Y3d):interactive env=false:=by refine gz F.3 ?_;rfl
def yQ(cN:Kinds)(t v:aI)(p:Pos):Bool:=Yy9&&(Yy8 false λo=>o.1.isNone)
def RJ(cN:Kinds)(t v:aI)(p:Pos):Bool:=Yam false λb=>b.1
def Jc(cN:Kinds)(t v:aI)(p:Pos)(names:YH):Bool:=Yy9&&(Yy8 false λo=>o.1==Zac)
def Jd(cN:Kinds)(v:aI)(p:Pos):Bool:=(pureOf (swapsWith v none p.line YnJ)).elim false Zhj
theorem RK{c:bP}(F:Y3d){t v:aI}{p:Pos}(h:yQ c.cN t v p=true):Zb4∧YpU=YMl:=by
 have h:=Y1q;refine ZnJ
 ·exact ZDt
 ·exact aj Z7B (aj b.2 (congrArg _ (An q)))
theorem agT{c:bP}(F:Y3d){t v:aI}{p:Pos}(h:RJ c.cN t v p=true):swapsWith v YNJ p.line env=YMm:=eP h λb O q=>((Jb F v t p.line).trans b.2).trans (congrArg pure q)
theorem agU{c:bP}(F:Y3d){t v:aI}{p:Pos}{names:YH}(h:Jc c.cN t v p names=true):Zb4∧YpU=pure Zac:=by
 have h:=Y1q;refine ZnJ
 ·exact ZDt
 ·exact aj Z7B (aj b.2 (congrArg _ Y1e))
theorem agV{c:bP}(F:Y3d){v:aI}{p:Pos}(h:Jd c.cN v p=true):swapsWith v none p.line env=Yo8:=eP h λb O q=>((agS F v p.line).trans b.2).trans (congrArg pure Yxb)
inductive T where
 |nm (i:Nat) |fd (C i:Nat) (o:E) |eB (o i:E) |hA (o i:E)
inductive S where
 |nil
 |ret (e:E)
 |exp (e:E) (s:S)
 |asg (t:T) (e:E) (s:S)
 |yR (i:Nat) (e:E) (s:S)
 |wJ (is:YV) (es:Yv) (s:S)
 |Bd (ts:Y8Z) (es:Yv) (s:S)
 |wK (l:Bool) (i j:Nat) (e:E) (s:S)
 |cV (t:E) (a b s:S)
 |Be (t:E) (b s:S)
 |for (d5:gq) (as:Yv) (t:dY) (b s:S)
 |bad
inductive Je(m:ag)(a:Nat)(Q:Ye9):Y1
 |mk (t c:Nat) (es:dm) (h:Ymp) (q:Z6q):Je m a Q
def lb(v:V)(mh:ag)(Q:Ye9):Y1:=v.oi False λa=>Je mh a Q
abbrev hg:=Y5U
abbrev yS(p dV:Y1)(r:bG)(m:ag)(Q:hg):Y1:=jd p dV YKH
theorem yS.un{p:Y1}{Q:hg}(h:yS p dV r m Q):p∧dV∧YKH:=ZPy
def Bf(cl:Calls)(t:T)(v:V)(r:bG)(m:ag)(Q:hg):Y1:=t.casesOn (λi=>Q Y5f m)
 (λC i o=>YEZ r m λa m1=>inst a C m1 λp t fs=>yS YDT YDF r ZcD Q)
 (λo i=>YEZ r m λa m1=>YOb r m1 λb aH=>lst a aH λp t vs=>Y2Z∧b.iU False λn=>ZVC∧Q r Zbx)
 (λo i=>YEZ r m λa m1=>YOb r m1 λb aH=>lb a aH λp t c es=>yS Ykk Y6M r Zbw Q)
def Bg(cl:Calls)(ts:Y8Z):Y3→bG→ag→hg→Y1:=ts.rec (λvs r m Q=>vs.casesOn YKH Y28) λt O ai vs r m Q=>vs.casesOn False λv vs=>Bf cl t v r m λbI ab=>ai vs bI ab Q
def Bh(is:YV)(r:bG):Z5K:=is.rec (λO=>r) λi O ai vs=>vs.casesOn r λv vs=>(ai vs).set i Ym
abbrev iM:=YhL
def agW(t:A8)(b s:iM):iM:=λr m Qn Qr=>∃J:YRF,∃n,YFL∧∀n r m,YFL→t r m λx m1=>cond x (b r m1 YOB Qr) (s r m1 Qn Qr)
def RL(P:Y2i)(need:Y6)(t:dY)(weak:Bool)(b s:iM)(Qn:hg)(Qr:Yj):Y1:=
 (∀r m,Y68→Y3I∧s r m Qn Qr)∧∀v vs r m,Y7F→Y3I∧j3 t weak v r λb6=>b b6 m YKG Qr
def agX:iM:=λr m Qn O=>YCR
def agY(cl:Calls)(e:E):iM:=λr m O Qr=>YvX
def agZ(cl:Calls)(e:E)(_:S)(s:iM):iM:=λr m Qn Qr=>Zd r m λO ab=>s r ab Qn Qr
def ag0(cl:Calls)(t:T)(e:E)(_:S)(s:iM):iM:=λr m Qn Qr=>Zd r m λv ab=>Bf cl t v r ab YYi
def RM(e:E):Bool:=E.casesOn e Y1k Y0P Y1j Y1k Y0P Y0P Y1j (λO O O O O O O=>true) (λO O O O O O O O O=>true) Y1j
def ag1(cl:Calls)(i:Nat)(e:E)(_:S)(s:iM):iM:=λr m Qn Qr=>Zd r m λv ab=>s Y5f ab Qn Qr
def ag2(cl:Calls)(is:YV)(es:Yv)(_:S)(s:iM):iM:=λr m Qn Qr=>Y2c r m λvs ab=>s Ycw ab Qn Qr
def ag3(cl:Calls)(ts:Y8Z)(es:Yv)(_:S)(s:iM):iM:=λr m Qn Qr=>Y2c r m λvs ab=>Bg cl ts vs r ab YYi
def ag4(cl:Calls)(l:Bool)(i j:Nat)(e:E)(_:S)(s:iM):iM:=λr m Qn Qr=>Zd r m λv ab=>cond l (lst v ab λO O vs=>ZbZ) (v.eM False λvs=>ZbZ)
def ag5(cl:Calls)(t:E)(_ _ _:S)(a b s:iM):iM:=λr m Qn Qr=>YBg r m λx ab=>cond x (a r ab YYi Qr) (b r ab YYi Qr)
def ag6(cl:Calls)(t:E)(_ _:S)(b s:iM):iM:=agW YBg b s
def ag7(cl:Calls)(d5:gq)(as:Yv)(t:dY)(_ _:S)(b s:iM):iM:=λr m Qn Qr=>YaG r m λvs ab=>d5.o.ij vs ab λvals need aH=>∃P:Y2i,YeK∧RL P need t d5.o.weak b s Qn Qr
def ag8:iM:=Zg3
def a6(cl:Calls)(s:S):iM:=S.rec (motive:=λO=>iM) agX (agY cl) (agZ cl) (ag0 cl) (ag1 cl) (ag2 cl) (ag3 cl) (ag4 cl) (ag5 cl) (ag6 cl) (ag7 cl) ag8 s
def Jf(t:T):Ch:=λH c x=>t.casesOn (λi=>YnN)
 (λC i o=>(Ie x).elim false λy=>(YuR false λl=>Y53==some Y5B)&&ZQT)
 Zjh
 Zjh
def Jg(ts:Y8Z):oD:=ts.rec YrN λt O ai H c l=>l.casesOn false λx xs=>Jf t H c x&&(!isStar x&&ai H c xs)
def Jh(is:YV)(c:bP):Z5L:=is.rec Ys4 λi O ai l=>l.casesOn false λx xs=>YnN&&ai xs
def namesOf(xs:Ye):YH:=xs.filterMap Zku
abbrev jB:=ih→YSj
def pC(l:Ze)(f:Z7w):Bool:=l.casesOn false f
def ag9:jB:=YrN
def aha(e:E):jB:=λH c l=>pC l λst O=>(agM st).elim false λy=>hZ e H c y.1
def yT(st:St)(f:ZB2):Bool:=(agN st).elim false λy=>f Y1v Y5B Y4R
def ahb(e:E)(_:S)(s:jB):jB:=λH c l=>pC l λst r=>((agR st).elim false λy=>hZ e H c Y1v&&Jd c.cN Y1v Zi)&&Y9W
def ahc(t:T)(e:E)(_:S)(s:jB):jB:=λH c l=>pC l λst r=>(yT st λtg x p=>Yqt&&(!isStar tg&&(YAr&&Jf t H c tg)))&&Y9W
def ahd(i:Nat)(e:E)(_:S)(s:jB):jB:=λH c l=>pC l λst r=>(yT st λtg x p=>(uC tg).elim false λn=>RJ c.cN tg x p&&((ZIM==Y2x)&&(Yi9&&(RM e&&YAr))))&&Y9W
def ahe(is:YV)(es:Yv)(_:S)(s:jB):jB:=λH c l=>pC l λst r=>(yT st λtg x p=>Yat false λts=>Yau false λvs=>Jc c.cN tg x p (namesOf ts.1)&&(Jh is c ts.1&&(ZVc&&(ZY6&&(is.length==es.length&&decide ZRg)))))&&Y9W
def ahf(ts:Y8Z)(es:Yv)(_:S)(s:jB):jB:=λH c l=>pC l λst r=>(yT st λtg x p=>Yat false λxs=>Yau false λvs=>Yqt&&(Jg ts H c xs.1&&(ZVc&&(ZY6&&(ts.length==es.length&&decide (es.length≤10))))))&&Y9W
def ahg(_:Bool)(i j:Nat)(e:E)(_:S)(s:jB):jB:=λH c l=>pC l λst r=>(yT st λtg x p=>Yqt&&(qx c YA5 tg&&YAr))&&Y9W
def ahh(t:E)(_ _ _:S)(a b s:jB):jB:=λH c l=>pC l λst r=>((agQ st).elim false λy=>ZQU&&ZA5)&&Y9W
def ahi(t:E)(_ _:S)(b s:jB):jB:=λH c l=>pC l λst r=>((agP st).elim false λy=>ZQU&&b H c Zi)&&Y9W
def ahj(d5:gq)(as:Yv)(t:dY)(_ _:S)(b s:jB):jB:=λH c l=>pC l λst r=>((agO st).elim false λy=>Ba H c d5 t c.ns.length ZY5 Y5B&&(qx c t Y1v&&ZFV))&&Y9W
def ahk:jB:=Y0o
def rz(s:S):jB:=S.rec (motive:=λO=>jB) ag9 aha ahb ahc ahd ahe ahf ahg ahh ahi ahj ahk s
theorem ahl{E:Y8}{s:Shared}{it t:Addr}(iA:t≠it)(bq:ZZ2){n i:Nat}{Q:YR3}(hit:s.heap.IsListIter it t i)(le:i+n≤xs.length)(dp:∀h',h'.IsListIter it t (i+n)→YMP→Q ((xs.drop i).take n) Yx):wpAny YR A (draw Y44 n) Q E s:=by
 induction n generalizing i s Q with
 |zero=>exact wpAny_pure (dp s.heap hit (ayf ..))
 |succ n ai=>
  have fQ:ZQy:=ew (ab7 ZS5) le;show wpAny _ _ (ZXR >>= _) Q E s;refine bd (wpAny_pyNext_list_item (items:=Z1) hit ZRh (pk (dy fQ)) Zk8);have e:i+(n+1)=i+1+n:=(fO i n 1)
  refine bd (wpAny_holding (ai (s:={s with heap:=qt}) ((Bi.2 t iA).trans bq) Ji (aV e le) λJj ahm ahn=>Zl));have:=dp Jj (aa e ahm) (Bi.trans ahn);replace this:=aQ List.take_succ_cons (bN (NV fQ) this);exact this
theorem aho{E:Y8}{t:Addr}{Q:YR3}(bJ:Zf)(bq:ZZ2)(dp:∀h',Y9C→Q xs Yx):wpAny YR A (unpackItems YQ5 xs.length none) Q E s:=by
 have fQ:t≠s.heap.objs.size:=ej (fE bq);refine bd (bd (wpAny_specialOf (ou bq) slot_list_iter.lookup Yg));intro aAh aAi aAj;refine wpAny_pure (bd (wpAny_holding (wpAny_pyIter_list (items:=Z1) ZRh ?_)));have EV:=hH s.heap {cls:=Z2H,data:=ZY #[YQ5,YBx]} _ _ bq;refine Yg;intro aAk aAl aAm;refine bd (wpAny_holding (ahl (i:=0) (xs:=xs) (ep:=ep) fQ EV Y6k Yj8 Zk8));have ahp:List.take xs.length (G8 0 xs)=xs:=aL List.drop_zero (N0)
 (refine aa ahp (cb (if_neg (t9 _)) ?_))
 refine bd (wpAny_holding (wpAny_pyNext_list_end (items:=Z1) bJ Ji (isList ((Bi.2 t fQ).trans EV)) (by exact aX YDb (YPA Ynv)) λJj ahq=>?_));exact wpAny_pure (dp Jj λb o e=>ahq b o Y6L ((Bi.2 b Y6L).trans YUr))
abbrev RN(g:G)(env:Env)(ns:YH)(s:Shared)(mh:ag)(Q:hg)(s':Shared)(bI:bG)(ab:ag):Y1:=hr YAL YRY ZKz (Q bI ab)
abbrev oG(g:G)(env:Env)(ns:YH)(s:Shared)(mh:ag)(Q:hg)(s':Shared):Y1:=∃bI ab,RN g env ns s mh Q s' bI ab
def wL(g:G)(k:Nat)(env:Env)(ns:YH)(r:bG)(mh:ag)(tgt:aI)(v:V)(Q:hg):Y1:=∀A s x,Z5→YU→Y1d→Y2k→WP g A YKs YYZ s
def uN(g:G)(k:Nat)(env:Env)(ns:YH)(r:bG)(mh:ag)(ts:Ydl)(vs:Y3)(Q:hg):Y1:=∀A s xs,Z5→YU→Y1d→Y39→WP g A (assignInOrder ts xs) YYZ s
theorem oG.go{Q:hg}(st:Z7n)(h:ZVw):oG g env ns s0 m0 Q s':=h.imp λbI z=>z.imp λab z=>⟨z.1,Zav,z.3,z.4⟩
theorem ahr{n:Str}{v:V}{Q:hg}{p:Pos}(af:Y6X)(hs:Y8f)(h:Q Y5f mh):wL g k env ns r mh Y42 v Q:=λA s x aG ae aN bg=>rv aN ae af hs bg λs' a1 jA aJ=>⟨_,_,a1,jA,aJ,h⟩
theorem Bj{v:V}{f:Yo}{P:Y1}(h:v.iU False f)(k:∀n:Nat,v=YbW→YUO):P:=by
 cases v with
 |int z=>cases z with
  |ofNat n=>exact YmJ
  |negSucc n=>exact h.elim
 |_=>exact h.elim
theorem s6{v:V}{Q:Ye9}{P:Y1}(h:lb v mh Q)(f:∀a t c es,YNV→YVi→Z6q→P):P:=by
 cases v with
 |ref a=>exact Je.casesOn h λt c es h q=>f a t c es rfl h q
 |_=>exact h.elim
theorem RO{o i:aI}{v:V}{Q:hg}(h:Ev g k env ns r mh Y7h λa m1=>Ev g k env ns r m1 (eval i env) λb aH=>∀A s x y z,Z5→a5 g aH s→ZBH→aK s.heap y b→aK s.heap z v→fW g A cX s aH (setItem x y z) (uw λbF=>Q r bF)):wL g k env ns r mh (Y6u o i pos) v Q:=λA s x aG ae aN bg=>by
 refine d9 (arm_assign_Subscript ..) (bd (wpAny_holding (Y0p λEW s1 z=>z.elim λm1 z=>Y0g λa q=>Yg)));intro ahs aht ahu;refine bd (wpAny_holding (YJN λJk s2 y=>y.elim λaH y=>YIK λb p=>YL5));have st:=YEI;exact bd (wpAny_holding ((p.2 A s2 EW Jk x aG y.1 YHd p.1 ZH3).mono λO s3 w=>w.elim λbF w=>wpAny_release (⟨r,bF,w.1,(st.trans w.2).mm,aN.ez Zau,w.3⟩)))
theorem RP{c:bP}(t:T){v:V}{Q:hg}(K:ZG)(L:ZI)(ao:Jf t H c tgt=true)(h:Bf ZH t v r mh Q):wL g k env c.ns r mh tgt v Q:=by
 cases t with
 |nm i=>exact pB L ao λn p e af hs=>aa e (ahr af hs h)
 |fd C i o=>
  refine eP ao λy O q=>dG q λbD bC=>d9 y.2 (eP bD λl aE af=>λA s x aG ae aN bg=>d9 (arm_assign_Attribute ..) Yg);intro RQ RR RS;refine bd (wpAny_holding ((Yy3 K L bC h A s aG ae aN).mono λEW s1 z=>z.elim λm1 z=>Y0g λa p=>bd (wpAny_standAt (IP p.2 λd u fs bx ar cO=>?_))));have aC:EW=Y33:=(aV bx p.1:aK s1.heap EW Y33)
  exact aa aC (bd (wpAny_holding ((af5 (A:=A) K aE YU8 z.1 ar cO.1 cO.2 (bg.keep YIO) cO.3).mono λO s2 y=>y.elim λaH y=>wpAny_release (⟨r,aH,y.1,(Y0m y.2).mm,aN.ez YEI,y.3⟩))))
 |eB o i=>
  refine eP ao λy O q=>Y5C λp e=>dG q λbD bC=>d9 e (RO (Ytg λa m1 z=>Ytf λb aH z A s x y w aG ae cG cP bz=>jN z λd u vs bx hd z=>Bj z.2 λn cM fz=>?_));have aC:x=Y33:=Yvq
  exact dT aC ((YTP:aK s.heap y YbW).elim λtk c1=>aT c1 (ad4 ae hd z.1 fz.1 bz fz.2))
 |hA o i=>
  refine eP ao λy O q=>Y5C λp e=>dG q λbD bC=>d9 e (RO (Ytg λa m1 z=>Ytf λb aH z A s x y w aG ae cG cP bz=>s6 z λd u c es bx hd z=>?_));have aC:x=Y33:=Yvq
  exact dT aC (aec ae aG hd z.1 cP bz z.2 z.3)
theorem Jl{x:aI}{xs:Ye}:isStar x=false→assignEach Yqd env=(false,ZEa)::assignEach xs env:=p7 x ZR ZR ZA ZR ZA ZA ZR ZR ZA ZA Y1i ZA Y0n Y0n Y0n ZA ZA ZA Y0n ZR ZR ZR YIb Y0n Y0n ZR ZA
theorem ahv{c:bP}(ts:Y8Z){xs:Ye}(ao:Z4k):(assignEach xs env).length=ts.length∧(assignEach xs env).findIdx? Yh=none:=by
 induction ts generalizing xs with
 |nil=>
  cases xs with
  |cons _ _=>exact Y6W
  |nil=>exact Zn
 |cons t ts ai=>
  cases xs with
  |nil=>exact Y6W
  |cons x xs=>
   refine dG YTM.2 YEP;rw[Jl Yxa];have ai:=ai bC;exact⟨ZJr,by refine ZDw;exact congrArg (λo:Y0X=>o.map Y3l) YCi⟩
theorem ahw{c:bP}{r:bG}{mh:ag}(ts:Y8Z){xs:Ye}{vs:Y3}{Q:hg}(K:ZG)(L:ZI)(ao:Z4k)(h:Bg ZH ts vs r mh Q):uN g k env c.ns r mh ((assignEach xs env).map Y1w) vs Q:=by
 induction ts generalizing xs vs r mh with
 |nil=>
  cases xs with
  |cons _ _=>exact Y6W
  |nil=>cases vs with
   |nil=>exact λA s bf aG ae aN bz=>mK bz.jh (wpAny_pure ⟨r,mh,ae,Yy,aN,h⟩)
   |cons _ _=>exact h.elim
 |cons t ts ai=>
  cases xs with
  |nil=>exact Y6W
  |cons x xs=>cases vs with
   |nil=>exact h.elim
   |cons v vs=>
    refine pg ao YIf;have h:Bf ZH t v r mh λbI ab=>Bg ZH ts vs bI ab Q:=h;refine mK (Jl YxZ) (λA s bf aG ae aN bz=>bz.un λy AB e gA yU=>mK e Y0K);intro aei aej;exact bd (wpAny_holding ((RP t K L bD h A s y aG ae aN gA).mono λO s1 z=>z.elim λb6 z=>z.elim λm1 z=>(ai d4 z.4 A s1 AB aG z.1 z.3 (yU.keep YIO)).mono λO s2 w=>oG.go z.2 w))
theorem gH.len{mh:ag}{es:Ye}{Q:Ys}(h:ZOo):gH g k env ns r es mh Zkh:=by
 induction es generalizing mh Q with
 |nil=>exact YEW
 |cons e es ai=>exact Ev.mono h λv m q=>(ai q).mono λvs m q=>⟨congrArg Ab q.1,q.2⟩
abbrev ahx(g:G)(s:Shared)(mh:ag)(Q:Ys)(x:Value)(s':Shared)(ab:ag)(vs:Y3):Y1:=hr YAL YRZ (iz s'.heap x vs) (Q vs ab)
theorem RT{c:bP}{es:Ye}{n:Nat}{Q:Ys}(hs:Y5e)(aE:YUD)(h:Ykf)(aG:Z5)(ae:YU)(aN:Y4H):WP g A (eval (Y19 es n pos) env) (λx s'=>∃ab vs,ahx g s mh Zkh x s' ab vs) s:=
 wpAny_Tuple (nJ hs pos▸Yaw λxs s1 z=>z.elim λm1 z=>Y0g λvs q=>⟨by refine ZEO;exact fZ aE,m1,vs,YEH (s':=Zfm) Y51 rfl rfl,Y0m (Step.grow (s':=Zfm) Y51),
  ⟨_,_,rfl,Zmg,YWg YF1⟩,q.2⟩)
abbrev rA(g:G)(env:Env)(ns:YH)(s:Shared)(mh:ag)(Qn:hg)(Qr:Yj)(f:Flow)(s':Shared):Y1:=ZmM
variable{Qn:hg}
theorem rA.go{f:Flow}(st:Z7n)(h:rA g env ns s mh Qn Qr f s'):ZYK:=h.imp λab z=>Zne
theorem yV{bI:bG}(ae:YAL)(st:YRY)(aN:ZKz)(q:YKI):rA g env ns s mh Qn Qr Y8S s':=⟨ab,ae,st,bI,aN,q⟩
theorem ahy(h:Qn r mh):jk g k env ns r mh (execs [] env) Qn Qr:=λA s aG ae aN=>wpAny_execs_nil (yV ae Yy aN h)
theorem ahz{e:aI}(h:Ev g k env ns r mh Y0s Qr):jk g k env ns r mh (exec (YEr Y59 pos) env) Qn Qr:=λA s aG ae aN=>
 wpAny_Return_some (Y0p λv s1 z=>z.elim λm1 z=>⟨m1,z.1,YYD,z.3⟩)
theorem ahA{c:bP}{e:aI}(F:Y3d)(hs:Jd c.cN e pos=true)(h:Ev g k env ns r mh Y0s λO m=>YCR):jk g k env ns r mh (exec (YJU e pos) env) Qn Qr:=λA s aG ae aN=>
 wpAny_Expr_any (Y0p λv s1 z=>z.elim λm1 z=>Y0g λx q=>yV z.1 YYD Y2G q.2) F.inter (agV F hs)
theorem ahB{t:aI}{a b:Ze}(h:kP g k env ns r mh Ym2 λx m=>cond x (jk g k env ns r m YUG Qn Qr) (jk g k env ns r m YUH Qn Qr)):jk g k env ns r mh (exec (.If t a b pos) env) Qn Qr:=λA s aG ae aN=>
 wpAny_If (Y0p λx s1 z=>z.elim λm1 z=>by
  cases x with
  |true=>exact((z.3:jk g k env ns r m1 YUG Qn Qr) A s1 aG z.1 Y2G).mono ZiH
  |false=>exact((z.3:jk g k env ns r m1 YUH Qn Qr) A s1 aG z.1 Y2G).mono ZiH)
theorem RU{c:bP}{value:aI}(F:Y3d)(ar:yQ c.cN tgt value pos=true)(qu:ZRj)(h:∀A s,Z5→YU→Y1d→WP g A (eval value env) (λx s1=>WP g A YKs (λO s'=>oG g env ns s mh Qn s') s1) s):jk g k env ns r mh (exec (Y5w [tgt] value pos) env) Qn Qr:=λA s aG ae aN=>
 wpAny_Assign_stores (Y0p λv s1 z=>by
  exact aa (Jl qu) (z.mono λO s2 y=>y.elim λdv y=>y.elim λaH y=>yV y.1 y.2 y.3 y.4)) Z7C.1 Z7C.2
variable{is:YV}
theorem ahC{c:bP}{ts:Ye}{ws:Y3}(L:ZI)(az:Z4l)(aE:ZeB):(namesOf ts).length=is.length∧∀(r:bG)(s:Shared)(xs:Yn)(cy:Ydl)(bC:Yn)(R:Y5P),a5 g m1 s→de g env c.ns r m1 s→a9 s.heap xs ws→
  (∀s',a5 g m1 s'→Step Y1V s m1 s' m1→de g env c.ns Z2v m1 s'→WP g A (assignInOrder cy bC) R s')→WP g A (assignInOrder (((namesOf ts).reverse.map ZjW)++cy) (xs.reverse++bC)) R s:=by
 induction is generalizing ts ws with
 |nil=>
  cases ts with
  |cons _ _=>exact nb az
  |nil=>cases ws with
   |cons _ _=>exact absurd aE Y7q
   |nil=>exact⟨rfl,λr s xs cy bC R ae aN bz h=>aa bz.jh (h s ae Yy aN)⟩
 |cons i is ai=>
  cases ts with
  |nil=>exact nb az
  |cons e ts=>cases ws with
   |nil=>exact Ygb
   |cons w ws=>
    have q:=cL az;refine pB L q.1 λn p fq af hs=>?_;have ai:=ai (ts:=ts) (ws:=ws) q.2 YWC;subst fq;refine⟨ZJr,λr s xs cy bC R ae aN bz h=>bz.un λy bf e gA yU=>Y4n⟩;show WP g A (assignInOrder (((n::ZVV).reverse.map ZjW)++cy) ((y::bf).reverse++bC)) R s
    (refine oh ayg (aa ayg (Ax dK (mK Y0k (jL Y0k ?_)))))
    exact YCi r s bf _ _ R ae aN yU λs1 a1 jA aJ=>bd (wpAny_holding (wpAny_bindName (Ib aJ a1 (gA.keep jA.4) af hs λs2 a2 eX aC=>h s2 a2 ZS2 aC)))
variable{cO:Pos}
theorem ahD{c:bP}{ts vs:Ye}{cT:Nat}{ek:Pos}(F:Y3d)(ar:Jc c.cN Yzu Yzv pos ZVV=true)(az:Z4l)(hs:noStar vs=true)(aE:ZRg)(aO:vs.length=is.length)(h:gH g k env c.ns r vs mh λws m=>Qn Z2v m):jk g k env c.ns r mh (exec (Y5w [Yzu] Yzv pos) env) Qn Qr:=λA s aG ae aN=>by
 have nm:=agU F ar;refine d9 (exec_Assign_arm ..) (bd (wpAny_standAt (ix nm.1 (bd (wpAny_pure ZJM)))));intro ahE ahF ahG;refine bd ((RT hs (aa aO Y7U) h aG ae aN).mono λx s1 z=>z.elim λm1 z=>z.elim λws z=>ix nm.2 Yhg);intro RQ RR RS;refine bd (wpAny_rule (bd (Y0g λt y=>y.elim λxs y=>?_)));have hlen:ZeB:=z.4.1.trans aO;have ax:=ahC (g:=g) (A:=A) (m1:=m1) F.1 az hlen;rw[y.1,ax.1,show is.length=Y2N by rw[eN,y.2.2.length,hlen]];refine wpAny_unpackItems_tuple Y4m (jx y.2.1) Yrp;have b5:YlL:=YYg;have eX:Step cX s1 m1 YEK m1:=Step.grow (s':=YEK) b5;have fin:=ax.2 r YEK xs [] [] (λO s3=>rA g env c.ns s mh Qn Qr Y8S s3) (YEH (s':=YEK) b5 rfl rfl) (aN.ez (Y0m eX)) (y.2.2.keep YGa) λs3 dB fJ c1=>wpAny_pure (yV dB ((Y0m eX).mm.trans fJ) c1 z.4.2);replace fin:=acU Y1U (acT Y1U fin);exact bd (fin.mono λO s3 w=>wpAny_pure w)
theorem RV{ts:Z5A}{Q:hg}(bJ:Z5)(ae:YU)(aN:Y1d)(ahH:iz s.heap x vs)(aE:ZbU)(hs:ZbS)(h:Zbh):WP g A (unpack x ts) YYZ s:=
 ahH.elim λa z=>z.elim λxs z=>by
  refine jL z.1 (wpAny_unpack_tuple bJ.3 ZSP (aL Y0D (aL z.2.2.length (aE))) hs Yrp);have b5:Y9C:=YYg;have st:YRa:=YCT;exact(h A Yx xs bJ YCg YKk (YYC Y5j)).mono ZgZ
theorem ahI{ts:Z5A}{Q:hg}(bJ:Z5)(ae:YU)(aN:Y1d)(e:Y3u)(aE:ZbU)(hs:ZbS)(h:Zbh):WP g A (unpack YA ts) YYZ s:=
 ae.list e λxs ep aq bg=>by
  unfold unpack;refine aa hs (aa aE (aV bg.length (bd (wpAny_holding (aho bJ.3 aq λh' b5=>?_)))));have st:YRa:=YCT;exact(h A Yx xs bJ YCg YKk ZH3).mono ZgZ
theorem ahJ{c:bP}{x y:aI}{a b:V}{Q:hg}(L:ZI)(aq:YnN=true)(bb:nameAt c j y=true)(h:Q Y5v mh):uN g k env c.ns r mh [ZEa,assign y env] Y1R Q:=λA s xs aG ae aN bz=>by
 refine pB L aq λn p fq af hs=>pB L bb λm q em aM gB=>?_;clear aq bb;subst fq;subst em;exact bz.two.elim λu z=>z.elim λv z=>mK z.1 (bd (wpAny_holding (rv aN ae af hs Z4 λs2 a2 eX aC=>bd (wpAny_holding (rv aC a2 aM gB (YYC YGa) λs3 dB fJ c1=>wpAny_pure ⟨_,_,dB,eX.trans fJ,c1,h⟩)))))
theorem uN.mono{ts:Ydl}{Q Q':hg}(h:uN g k env ns r mh ts vs Q)(f:Zm4):uN g k env ns r mh ts vs Q':=λA s xs aG ae aN bz=>(h A s xs aG ae aN bz).mono ZgY
theorem ahK{t:aI}{body:Ze}{J:YRF}{n:Nat}(h0:Z4g)(turn:∀n r mh,Z4g→kP g k env ns r mh Ym2 λx m=>cond x (jk g k env ns r m YD8 YOB Qr) YCR):jk g k env ns r mh (exec (YPP t body [] pos) env) Qn Qr:=λA s aG ae aN=>by
 refine Yg;intro RW RX RY;refine wpAny_While (codeAny_whileLoop (λn s'=>∃bI aW,RN g env ns s mh (J n) s' bI aW) ?_ n ⟨r,mh,ae,Yy,aN,h0⟩);intro n s' z;refine z.elim λb6 z=>z.elim λm1 z=>Yg;intro aAn aAo aAp;refine wpAny_mono (E:=lH) (turn n b6 m1 z.4 A s' aG z.1 z.3) (λx s2 y=>y.elim λaH y=>?_) Y0E;have q:=y.3
 cases x with
 |false=>exact wpAny_execs_nil (yV y.1 (Y0m y.2.mm) Yqz q)
 |true=>
  have q:jk g k env ns b6 aH YD8 YOB Qr:=q;refine Yg;intro aAq aAr aAs;refine wpAny_mono (E:=lH) (q A s2 aG y.1 Yqz) (λf s3 w=>w.elim λbF w=>?_) Y0E;have uO:=(Y0m y.2.mm).trans w.2;have EX:=w.3
  cases f with
  |next=>exact EX.elim λuK p=>p.2.elim λey cO=>⟨ey,cO.1,uK,bF,w.1,uO,p.1,cO.2⟩
  |ret u=>exact⟨bF,w.1,uO,EX⟩
  |brk=>exact EX.elim
  |cont=>exact EX.elim
abbrev ahL(g:G)(env:Env)(ns:YH)(wr:Yo)(s0:Shared)(m0:ag)(vals:Y3)(St:Y47)(P:Y2i)(n:Nat)(s:Shared)(i:Nat)(r:bG)(m:ag):Y1:=OA ZVF Y4l YLQ (Step YYd s0 m0 s m) YKN Ymj (P YEC r m) Ym5
theorem ahM{body:Ze}{weak:Bool}{St:Y47}{R:Y48}{P:Y2i}(aG:Z5)(W:YlM)(fr:Ysj)(ap:YIk)(gI:∀f s',ZYK→Z74)(az:Zm2)(ao:ZmA)(ae:YU)(aN:Y1d)(st:Step YYd s0 m0 s mh)(h0:YRX)(w:YDc)(h:P vals r mh):
  codeAny Yu A (.forLoop tgt Y1B body [] env) R s:=by
 have wB:Ysk:=Yrc;let EH:YRE:=λn s'=>∃i bI ab,ahL g env ns wr s0 m0 vals St P n s' i bI ab;refine codeAny_forLoop_any EH ?_ vals.length ⟨0,r,mh,rfl,ae,aN,st,h0,w,h,Z0⟩;intro n s1 z;refine z.elim λi z=>z.elim λb6 z=>z.elim λm1 L=>?_;have ak:=L.7
 cases hd:YEC with
 |nil=>
  replace ak:=YHF;have q:=ZFQ;have e:=Iu hd L.8;exact wpAny_mono (E:=lH) (W.4 s1 m1 _ (aV e L.5) L.2 q.1 L.6 λs2 a2 c7=>wpAny_execs_nil (gI _ _ (yV a2 ((c7.step L.4 fr).unfresh fr) Z4v q.2))) Y3Q Y0E
 |cons v vs=>
  replace ak:=YHF;have q:=ZEV;have d:=YjN;let AX:Y8:=λx s2=>WP g A YKs (λO s3=>WP g A YD8 (λf s4=>rA g env ns s3 m1 YKG Qr f s4∧∃EY,St (i+1) EY.heap∧lI g wr m1∧Step Y1V EY m1 s3 m1∧Step YYd s0 m0 EY m1) s3) s2;refine Yg;intro Jm Jn RZ;refine wpAny_mono (E:=lH) (W.3 i s1 m1 AX d.1 L.5 L.2 q.1 L.6 Zks) Zjq Y0E
  ·replace bg:=YhQ;refine Yap λO s3 y=>y.elim λuK y=>(y.4 A s3 aG y.1 y.3).mono λf s4 w=>⟨w,s2,wC,L.6.step (W.1 _ _ L.5) eX,y.2,L.4.trans ZMa⟩
  ·have f3:=z.1;subst f3;refine wpAny_mono (E:=lH) z.2 (λO s3 gD=>wpAny_mono (E:=lH) gD (λO s4 oy=>wpAny_mono (E:=lH) oy (λf s5 qs=>qs.1.elim λi0 p=>qs.2.elim λEY u=>?_) Y0E) Y0E) Y0E;have kx:=u.2.1.step (W.1 _ _ u.1) YI2.1;have R0:=W.sR u.1 u.2.1 YI2.1 wB;have uO:Step YYd s0 m0 s5 i0:=(YI2.2.trans (YI2.1.weaken ZgT)).trans (p.2.weaken ZgT);have uL:=p.3
   cases f with
   |next=>exact uL.elim λJo lN=>⟨_,YgM,i+1,Jo,i0,rfl,p.1,lN.1,uO,(W.sR R0 kx p.2 wB),(kx.step (W.1 _ _ R0) p.2),aa YTd lN.2,d.1⟩
   |ret v=>exact gI _ _ ⟨i0,p.1,uO.unfresh fr,uL⟩
   |brk=>exact uL.elim
   |cont=>exact uL.elim
theorem ahN{it:aI}{body:Ze}{weak:Bool}(hs:ZmG)(h:ow g k env ns r mh tgt weak ZNP λvals need m=>∃P:Y2i,P vals r m∧Zm2∧
  ZmA):jk g k env ns r mh (exec (.For tgt it body [] pos) env) Qn Qr:=λA s aG ae aN=>
 wpAny_For (Y0p λx s1 q=>wpAny_mono (E:=lH) q (λi s2 q=>q _ λvals need aH I wr St J q=>q.elim λP p=>by
  exact acV J.1 (ahM (s0:=s) (m0:=mh) aG YdQ J.7 ZBV (λf s' z=>z) YWK p.2.2 J.2 ZBW (Z4h Y31) J.5 J.6 p.1)) Y3Q) hs
def ik(s:S):Y1:=∀{g:G}{H:ih}{k:Nat}{env:Env}{c:bP}{r:bG}{mh:ag}{l:Ze}{Qn:hg}{Qr:Yj},ZG→Y3d→rz s H c l=true→a6 ZH s r mh Qn Qr→jk g k env c.ns r mh (execs l env) Qn Qr
theorem R1{l:Ze}{f:Z7w}{P:Y1}(h:pC l f=true)(k:∀a r,l=a::r→f a r=true→P):P:=by
 cases l with
 |nil=>exact Y0L
 |cons a r=>exact k a r rfl h
theorem R2{st:St}{rest:Ze}{Q1:hg}(h:jk g k env ns r mh ZNU Q1 Qr)(f:∀r m,Q1 r m→jk g k env ns r m (execs rest env) Qn Qr):jk g k env ns r mh (execs (st::rest) env) Qn Qr:=λA s aG ae aN=>
 wpAny_execs_cons (Y0p λeA s1 z=>z.elim λm1 z=>by
  have q:=z.3
  cases eA with
  |next=>exact q.elim λb6 q=>(f _ _ q.2 A s1 aG z.1 q.1).mono λeA s' y=>rA.go z.2 y
  |ret v=>exact ZnT
  |brk=>exact q.elim
  |cont=>exact q.elim)
theorem Jp{c:bP}{e:E}{x:aI}(K:ZG)(F:Y3d)(ao:YLv)(h:Ya1):YQi:=(oF e).1 K F.1 ao h
theorem R3{c:bP}{e:E}{x:aI}{Q1:hg}(K:ZG)(F:Y3d)(ar:yQ c.cN tgt x pos=true)(qu:ZRj)(ao:YLv)(h:Ya1)(f:∀v m,Y37→wL g k env c.ns r m tgt v Q1):jk g k env c.ns r mh (exec (Y5w [tgt] x pos) env) Q1 Qr:=
 RU F ar qu λA s aG ae aN=>(Jp K F ao h A s aG ae aN).mono λx s1 z=>z.elim λm1 z=>Y0g λv q=>(f v m1 q.2 A s1 x aG z.1 Y2G q.1).mono ZgX
theorem wL.mono{v:V}{Q Q':hg}(h:wL g k env ns r mh tgt v Q)(f:Zm4):wL g k env ns r mh tgt v Q':=λA s x aG ae aN bg=>(h A s x aG ae aN bg).mono ZgY
theorem ahO{e:aI}{xs:Ye}{n:Nat}{p:Pos}(h:e=Y19 xs n p):Ym1:=YSK
theorem Bk{st:St}{f:ZB2}{P:Y1}(h:yT st f=true)(k:∀tg x p,Zaw→f tg x p=true→P):P:=eP h λy O q=>k _ _ _ y.2 q
theorem R4{c:bP}(es:Yv){xs:Ye}(ao:YoO):Zei:=by
 induction es generalizing xs with
 |nil=>cases xs with
  |nil=>rfl
  |cons _ _=>exact Y6W
 |cons e es ai=>cases xs with
  |nil=>exact Y6W
  |cons x xs=>exact congrArg Ab (ai YTM.2)
theorem ahP:ik YO:=λ{g H k env c r mh l Qn Qr}K F ao h=>by
 cases l with
 |nil=>exact ahy h
 |cons _ _=>exact Y6W
theorem ahQ(e:E):ik Z1r:=λK F ao h=>R1 ao λst rs fa ao=>eP ao λy O q=>Y5C λp bk=>by
 exact jL fa (Ax bk (R2 (Q1:=Y28) (ahz (Jp K F q h)) Y0E))
def ahR(f:ZRZ)(R:Z38):Y1:=∀{g:G}{H:ih}{k:Nat}{env:Env}{c:bP}{r:bG}{mh:ag}{st:St}{Q1:hg}{Qr:Yj},ZG→Y3d→ZNZ=true→R ZH r mh Q1 Qr→jk g k env c.ns r mh ZNU Q1 Qr
theorem s7{f:ZRZ}{R:Z38}{s pD:S}(ai:Y5c)(mR:∀{H c l},rz pD H c l=true→pC l (λst rs=>ZNZ&&rz s H c rs)=true)(es:∀{cl r m Qn Qr},a6 cl pD r m Qn Qr→R cl r m (λb6 m1=>a6 cl s b6 m1 Qn Qr) Qr)(t:ahR f R):ik pD:=λK F ao h=>
 R1 (mR ao) λst rs fa ao=>jL fa (R2 (t K F YTM.1 (es h)) λr m z=>ai K F YTM.2 z)
theorem R5{tg x:aI}{f:{l:Ye // ∃k p,tg=Yzt}→{l:Ye // ∃k p,x=Yzt}→Bool}{P:Y1}(h:(Yat false λts=>Yau false λvs=>f ts vs)=true)(k:∀ts vs dn ek fI cO,tg=Y19 ts.1 dn ek→x=Y19 vs.1 fI cO→f ts vs=true→P):P:=
 eP h λts O q=>eP q λvs O q=>ts.2.elim λdn z=>z.elim λek aJ=>vs.2.elim λfI z=>z.elim λcO aC=>k _ _ _ _ _ _ aJ aC q
theorem R6{st:St}{tg x y z:aI}{p:Pos}(h:Zaw)(aJ:tg=y)(aC:x=z):st=Y5w [y] z p:=aV aJ (aC▸h)
theorem ahS(e:E)(s:S)(ai:Y5c):ik Z0H:=s7 (R:=λcl r m Q O=>Zd r m λO=>Q r) ai id id λK F ao h=>eP ao λy O q=>jL y.2 (ahA F YAX.2 (Jp K F YAX.1 h))
theorem ahT(t:T)(e:E)(s:S)(ai:Y5c):ik (Yi t e s):=s7 (R:=λcl r m Q O=>Zd r m λv m=>Bf cl t v r m Q) ai id id λK F ao h=>Bk ao λtg x p fy q=>by
 exact wj q λbD bC d4 hJ=>jL fy (R3 K F bD YxZ d4 h λv m z=>RP t K F.1 hJ z)
theorem comp_elim{P:E→Y1}{e:E}(h:RM e=true)(a:∀d5 as t own caps ifs elt,P YPU)(b:∀s1 a1 t1 s2 a2 cy own caps elt,P (.sX s1 a1 t1 s2 a2 cy own caps elt)):P e:=by
 cases e with
 |comp=>exact a _ _ _ _ _ _ _
 |sX=>exact b _ _ _ _ _ _ _ _ _
 |_=>exact Y0L
theorem ahU(i:Nat)(e:E)(s:S)(ai:Y5c):ik Z2L:=s7 (R:=λcl r m Q O=>Zd r m λv=>YeU) ai id id λ{g H k env c r mh st Q1 Qr}K F ao=>Bk ao λtg x p fy q=>eP q λn O q=>YVq λc5 fq=>by
 refine DJ q Zhl;have hs:=agT F bD
 (replace hs:=Av fq hs;replace fy:=acZ fq fy)
 subst fy;exact comp_elim (P:=λe=>YLv→YhM.1 r mh (λv=>Q1 Y5f)→_) hJ
  (λd5 as t own caps ifs elt ak h=>(RC d5 as t own caps ifs elt ZXb (qB ifs) ZVv K F.1 ak h).yO F.1 hs YuO YLc)
  (λs1 a1 t1 s2 a2 cy own caps elt ak h=>(RE s1 a1 t1 s2 a2 cy own caps elt (qB a1) (qB a2) ZVv K F.1 ak h).yO F.1 hs YuO YLc) i1
theorem ahV(is:YV)(es:Yv)(s:S)(ai:Y5c):ik Z2K:=s7 (R:=λcl r m Q O=>Y2c r m λvs=>Q Ycw) ai id id λK F ao h=>by
 exact Bk ao λtg x p fy q=>R5 q λts vs dn ek fI cO aJ aC q=>DK q λbD bC d4 hJ i1 qv=>jL Z79 (ahD F (DC aJ (gn aC bD)) bC d4 ZWE ((R4 es hJ).trans (eq_of_beq i1).symm) YyH)
theorem ahW(ts:Y8Z)(es:Yv)(s:S)(ai:Y5c):ik Yze:=s7 (R:=λcl r m Q O=>Y2c r m λvs m=>Bg cl ts vs r m Q) ai id id λ{g H k env c r mh st Q1 Qr}K F ao h=>by
 refine Bk ao λtg x p fy q=>R5 q λxs vs dn ek fI cO aJ aC q=>DK q λbD bC d4 hJ i1 qv=>?_;have aO:=R4 es hJ;refine jL Z79 (RU F (gn aJ (eT aC bD)) rfl λA s aG ae aN=>(RT d4 (aa aO (au ZWE Y2)) YyH aG ae aN).mono λx s1 z=>z.elim λm1 z=>z.elim λws z=>ZKS);have yy:=ahv (env:=env) ts bC;exact bd (wpAny_standAt ((RV aG z.1 Y2G z.3 (yy.1.trans ((eq_of_beq i1).trans (cA aO z.4.1.symm))) yy.2 (ahw ts K F.1 bC z.4.2)).mono ZgX))
theorem ahX(l:Bool)(i j:Nat)(e:E)(s:S)(ai:Y5c):ik (.wK l i j e s):=s7 (R:=λcl r m Q O=>Zd r m λv m=>cond l (lst v m λO O vs=>ZbX) (v.eM False λvs=>ZbX)) ai id id λ{g H k env c r mh st Q1 Qr}K F ao h=>by
 refine Bk ao λtg x p fy q=>pg q λbD bC d4=>eP bC λxs O w=>sV w λc6 cT aC w=>xs.2.elim λdn z=>z.elim λek aJ=>dG w λeg d1=>jL fy (R3 K F bD (ahO aJ) d4 h λv m z=>d9 aJ (rk aC (λA yy x aG ae aN bg=>ZKS)));have fin:∀{a b:V},Q1 Y5v m→uN g k env c.ns r m ((assignEach YfE env).map Y1w) Y1R Q1∧(assignEach YfE env).length=[a,b].length∧(assignEach YfE env).findIdx? Yh=none:=λ{a b}w=>by
  exact pB F.1 eg λn yK fq af hs=>pB F.1 d1 λey aAt R7 j5 gB=>aa fq (aa R7 (⟨ahJ F.1 (aV fq eg) (aV R7 d1) w,rfl,rfl⟩))
 refine YL5
 cases l with
 |true=>
  refine jN z λd t vs ev hd z=>Zbf;subst es;have w:=fin w;exact ix ((ev▸bg:aK _ x Y33)) (ahI aG ae aN hd Y3i Y3M w.1)
 |false=>
  refine lJ z λvs ev z=>Zbf;subst es;have w:=fin w;exact RV aG ae aN (aV ev bg:aK _ x YcX).gj Y3i Y3M w.1
theorem ahY(t:E)(a b s:S)(ahZ:ik a)(Bl:ik b)(ai:Y5c):ik Z0B:=s7 (R:=λcl r m Q Qr=>YBg r m λx m=>cond x (a6 cl a r m Q Qr) (a6 cl b r m Q Qr)) ai id id λK F ao h=>eP ao λy O q=>Y5C λp e=>by
 exact pg q λbD bC d4=>jL e (ahB ((Yy4 K F.1 bD h).mono λx m z=>sY z (ahZ K F bC) (Bl K F d4)))
theorem ah0(t:E)(b s:S)(Bl:ik b)(ai:Y5c):ik Yzf:=s7 (R:=λcl r m Q Qr=>∃J:YRF,∃n,YFL∧∀n r m,YFL→YBg r m λx m1=>cond x ZAQ (Q r m1)) ai id id λK F ao h=>eP ao λy O q=>Y5C λp e=>by
 exact dG q λbD bC=>jL e (h.elim λJ h=>h.elim λn h=>ahK h.1 λn r m z=>(Yy4 K F.1 bD (h.2 n r m z)).mono λx m z=>sY z (Bl K F bC) id)
theorem ah1(d5:gq)(as:Yv)(t:dY)(b s:S)(Bl:ik b)(ai:Y5c):ik Z0K:=s7 (R:=λcl r m Q Qr=>YaG r m λvs ab=>d5.o.ij vs ab λvals need aH=>∃P:Y2i,YeK∧RL P need t d5.o.weak (a6 cl b) (λr m O O=>YKH) Q Qr) ai id id λ{g H k env c r mh st Q1 Qr}K F ao h=>eP ao λy O q=>Y5C λp e=>by
 refine pg q YIf;have S:=ES (k:=k) (r:=r) (mh:=mh) (tgt:=Y1v) ZXb K F.1 bD (λz=>ER z bC) h;exact jL e (ahN S.2.1 (Z7F λvals need m z=>z.imp λP z=>⟨z.1,Z4,λv vs r m w=>⟨ZfA.1,(QU F.1 bC ZfA.2).mono λb6 w=>Bl K F d4 w⟩⟩))
theorem Bm(s:S):Y5c:=S.rec (motive:=λs=>Y5c) ahP ahQ ahS ahT ahU ahV ahW ahX ahY ah0 ah1 (λO O O h=>Z41) s
theorem ah2{ps:YH}{xs:Yn}(aE:Yqh)(q:Str)(aF:q∈ps):(YP7 q).isNone=false:=by
 induction ps generalizing xs with
 |nil=>exact YFv
 |cons p ps ai=>cases xs with
  |nil=>exact Ygb
  |cons x xs=>
   refine dU Ad ?_;by_cases e:q=p
   ·rw[Ynp];rfl
   ·refine ZCN;exact ai YWC (Y6o ZlC id)
theorem R8{f dZ:YO1}(h:∀a∈l,f a=dZ a):ZTR=l.filterMap dZ:=by
 induction l with
 |nil=>rfl
 |cons a l ai=>(refine aL Dm (aL Dm (dT YGp ?_));exact aa ZDq rfl)
theorem ah3{ps:YH}{xs:Yn}(aE:Yqh)(bZ:ps.Nodup):ps.filterMap (λn=>(YP7 n).map λv=>YEh)=ZX9:=by
 induction ps generalizing xs with
 |nil=>rfl
 |cons p ps ai=>cases xs with
  |nil=>exact Ygb
  |cons x xs=>
   have bZ:=YE7;refine aL Ad (aj Dm (OT (oz _ _ rfl) ?_));exact congrArg ((p,x)::·) ((R8 λq aF=>by exact congrArg _ (oA _ _ λ(e:q=p)=>YCq (aV e aF))).trans (ai YWC YAV))
abbrev Jq(fd:FuncData)(ps:YH):Y1:=Ak (fd.params.posonlyargs=[]) (ZOF=ps) (fd.params.vararg=none) (fd.params.kwonlyargs=[]) (fd.params.kwarg=none) (fd.defaults=Y7) ps.Nodup
theorem R9{fd:FuncData}{ps:YH}(P:Z4m)(aE:Yqh):bindArgs fd Znd=pure ZX9:=by
 obtain⟨po,i2,cF,Jr,kw,Sa,bZ⟩:=P;obtain⟨n,q,⟨ek,cO,ky,kS,lN,s8,s9⟩,b,sc,gl,cl,d,dI,doc,pm,an,cd,aAu,fR⟩:=fd;dsimp only at po i2 cF Jr kw Sa;subst po;subst i2;subst cF;subst Jr;subst kw;subst Sa;generalize ar:z9 (λx=>x.arg) cO=ps at bZ aE ⊢;unfold bindArgs;dsimp only;refine aa ar ?_;refine(if_neg (λz=>t9 _ (aE▸of_decide_eq_true YTO.1):¬((decide (xs.length > ps.length)&&(none:Option Arg).isNone)=true))).trans ?_;have aC:(ps.filter λn=>(YP7 n).isNone)=[]:=List.filter_eq_nil_iff.mpr λq aF=>by refine dS (ah2 aE q aF) ?_;exact h8
 have Bn:∀{α:Y4i}(n:Nat),(G8 n ([]:ZC))=[]:=λn=>List.drop_nil;refine(if_neg ?_).trans ?_
 ·generalize Bo:List.take _ _=Z;obtain rfl:Z=ps:=by refine ZBg;exact(congrArg (λD:Yn=>List.take (ps.length - D.length) ps) Z2w).trans N0
  exact λz=>nb (cA (congrArg List.isEmpty aC) (jY _ |>.mp z))
 ·generalize Bo:List.zip Z49 Z49=Z;obtain rfl:Z=[]:=by refine ZBg;exact(congrArg (List.zip _) Z2w).trans NH
  exact congrArg Sem.pure ((congrArg (abM _) (eL ps)).trans (ah3 aE bZ))
variable{cN:Str→Option NameKind}
theorem ah4{bs:YCM}{m:YAG}{n:Str}(h:Yhu):ZH4=m n:=by
 induction bs generalizing m with
 |nil=>rfl
 |cons p bs ai=>
  by_cases e:YMY
  ·exact ZOl
  ·skip
   refine ZDv;by_cases q:ZIw
   ·refine YgK;exact YDQ
   ·exact ZCd
theorem ah5{bs:YCM}{m:YAG}{n:Str}(h:Yhu):bindC cN bs m n=m n:=by
 induction bs generalizing m with
 |nil=>rfl
 |cons p bs ai=>
  by_cases e:YMY
  ·exact ZOl
  ·skip
   refine ZDv;by_cases q:ZIw
   ·exact aa ZU rfl
   ·refine YSG;exact YDQ
theorem Sb{bs:YCM}{m cm:YAG}{n:Str}{v:Value}(bZ:(bs.map Yh).Nodup)(h:ZHN=Ym):(cN n=Y2x→ZH4=Ym)∧(cN n≠Y2x→bindC cN bs cm n=Ym):=by
 induction bs generalizing m cm with
 |nil=>exact Y08
 |cons p bs ai=>
  have bZ:=YE7;by_cases e:YMY
  ·have aO:p.2=v:=c4 Ynq h;have az:Yhu:=we λy q=>YCq (kp ⟨_,nO q,e⟩);refine⟨λk=>?_,λk=>?_⟩
   ·dsimp only [bindL];(refine aj (ah4 az) ?_;refine aa (if_pos ZNY) ?_);exact YxI
   ·dsimp only [bindC];(refine aj (ah5 az) ?_;refine aa (if_neg ZNY) ?_);exact YxI
  ·have ai:=λm cm=>ai (m:=m) (cm:=cm) YAV YiN;exact⟨λk=>by exact(ai _ cm).1 k,λk=>by exact(ai m _).2 k⟩
def ta(n:Nat):Z5K:=n.rec Y9h λO ai as=>as.casesOn (none::ai []) λa as=>Y0l::ai as
theorem ah6{n i:Nat}{v:V}(h:(ta n [])[i]?=Y0e):False:=by
 induction n generalizing i with
 |zero=>exact g7 h xV
 |succ n ai=>cases i with
  |zero=>exact ZDF
  |succ i=>exact YFy
theorem ah7{n i:Nat}{args:Y3}{xs:Yn}{v:V}(r:a9 h xs args)(e:(ta n args)[i]?=Y0e):i<args.length∧ZmZ:=by
 induction n generalizing i args xs with
 |zero=>exact Ykc
 |succ n ai=>cases args with
  |nil=>exact(ah6 (n:=n+1) e).elim
  |cons a as=>
   refine r.un λy bf aJ gA yU=>?_
   cases i with
   |zero=>exact⟨Y3G,y,YgO,cu Y4G▸gA⟩
   |succ i=>exact⟨Nat.succ_lt_succ ZDp.1,aa aJ (ZDp.2)⟩
theorem ah8{ps:YH}{xs:Yn}{i:Nat}{n:Str}(bZ:ps.Nodup)(ar:YWZ=Y5i)(aq:Y3w):YP7 n=YQ:=by
 induction ps generalizing xs i with
 |nil=>exact g7 ar xV
 |cons p ps ai=>cases xs with
  |nil=>exact g7 aq xV
  |cons y bf=>
   refine aX Ad ?_
   cases i with
   |zero=>exact(oz _ _ (cu ar).symm).trans aq
   |succ i=>
    have bZ:=YE7;refine aj (oA _ _ λ(e:n=p)=>YCq (aV e (et (i:=i) ar))) ?_;exact ai YAV ar aq
theorem cellsFrom_some{L:Nat}{acc:Y7C}{n:Str}(h:(acc.lookup n).isSome=true∨(n,v7)∈names):((cellsFrom L names acc).lookup n).isSome=true:=by
 induction names generalizing L acc with
 |nil=>exact h.elim id Yrq
 |cons p r ai=>
  by_cases q:Yy5
  ·refine dU ZU ?_;refine ai ?_;by_cases e:YMY
   ·exact YY (by rw[Ynp];rfl)
   ·exact h.imp (λh=>by refine ZCN;exact h) λh=>YBk (λh=>absurd ZJu e) id
  ·refine dU ZN ?_;exact ai (h.imp id λh=>YBk (λh=>absurd (by refine Au h ?_;rfl) q) id)
theorem ah9{L M:Nat}{acc:Y7C}(h:∀p∈acc,M<p.2)(aE:M<L):∀p∈cellsFrom L names acc,M<p.2:=by
 induction names generalizing L acc with
 |nil=>exact h
 |cons p r ai=>
  dsimp only [cellsFrom];by_cases q:Yy5
  ·refine YgK;exact ai (λx aq=>YJ9 (λz=>aa z aE) (h x)) (p9 aE)
  ·refine YSG;exact ai h aE
def aia(d:Data):Z5s:=Data.casesOn (motive:=λd=>Z5s) d none ZP Yz Yz YX Yz ZP (λfd=>some ⟨fd,rfl⟩) ZP ZP none
def aib(d:FuncBody):Z5q:=FuncBody.casesOn (motive:=λd=>Z5q) d (λb=>some ⟨b,rfl⟩) ZP
def Sd(fd:FuncData)(ps:YH):Bool:=fd.params.posonlyargs.isEmpty&&((ZOF==ps)&&(fd.params.vararg.isNone&&(fd.params.kwonlyargs.isEmpty&&(fd.params.kwarg.isNone&&(fd.defaults==l6)))))
def Se(fd:FuncData)(ps:YH):Bool:=(ps.all λp=>IZ ⟨fd.scope.names,[]⟩ p)&&((fd.scope.names.all λx=>!(x.2==uc))&&(!fd.scope.isCoroutine&&(!fd.scope.isGenerator&&(fd.scope.kind==Y5J))))
def aic(K:Frag)(fd:FuncData):Bool:=(fd.globals==mainGlobals)&&((fd.builtins==builtinsNs)&&(codeIn K fd.code fd.qualname&&fd.closure.isEmpty))
def mZ(K:Frag)(f:Nat)(ns:YH)(np:Nat)(p:YSj):Bool:=(K.lookup f).elim false λo=>(aia o.data).elim false λfd=>(aib fd.1.body).elim false λb=>
 decide ns.Nodup&&(Sd fd.1 YW1&&(Se fd.1 YW1&&(aic K fd.1&&p ⟨fd.1.scope.names,ns⟩ b.1)))
def yW(K:Frag)(H:ih)(f:Nat)(ns:YH)(np:Nat)(s:S):Bool:=mZ K f ns np (rz s H)
theorem aid{fd:FuncData}{ps:YH}(h:Sd fd ps=true)(bZ:ps.Nodup):Z4m:=by
 exact DK h λbD bC d4 hJ i1 qv=>⟨sA bD,YGc,An d4,sA hJ,An i1,ZMy,bZ⟩
theorem dd.deeper(aG:YTn)(env:Env):ZKx:=by
 have ak:=aG.1;have av:=aG.2;exact⟨by refine gz (depth_deeper ..) ?_;exact yp ak Y2,by refine gz (units_deeper ..) ?_;exact yp av Y2,Y4m⟩
theorem aie{fd:FuncData}{L f:Nat}(h:Se fd (ns.take 0)=true):ZRw:=by
 refine DJ h λbD bC d4 hJ i1=>⟨⟨λn dI e=>YBw,λn e=>e.elim Y5E Y5E⟩,ZjY,eq_of_beq i1⟩
 ·exact(some_of (cellsFrom_some (L:=L+1) (acc:=[]) (YJ YHS))).imp λa q=>⟨q,λO=>ah9 (names:=fd.scope.names) (L:=L+1) (M:=L) (acc:=[]) (λO aF=>YFv) YDo _ (nO q)⟩
 ·have:=ju bC _ YHS;exact YnO
abbrev Js(g:G)(A:Around)(k f:Nat)(ns:YH)(args:Y3)(mh:ag)(s:Shared)(env:Env)(hC:bP)(body:Ze)(s1:Shared):Y1:=yd (∃o fd,YUY=YB∧ZVn∧ZOE∧hC=ZnL) (hC.ns=ns) (j6 env hC) ZKx YfY (de g env ns YHx mh s1) Yen (∀b,YD2→Y6Y) YGb
variable{np:Nat}
theorem EZ{f:Nat}{p:YSj}(ao:ZUO)(K:ZG)(hlen:YSR)(hh:YVz){vs:Yn}{R:Y48}(aG:YTn)(ae:YU)(bz:YRx)(h:∀env hC body s1,ZWQ→Z4n→wpAny Yu Y5K YD8 (λf s'=>R (.ok (YS (match f with | YQ6=>v | _=>Y7))) s')
   (λe s'=>wpAny Yu Y5K (leaving env e) (λO Bp=>R Z0G Bp) (λbk Bp=>R (Y6x bk) Bp) s') s1):codeAny Yu A YbK R s:=
 eP ao λo aR ao=>eP ao λfd O ao=>eP ao λb O ao=>by
  obtain⟨fd,hd⟩:=fd;obtain⟨b,ah⟩:=b;refine DJ ao Zhl;have dC:=cL d4;have du:=cL dC.2;have gs:=cL du.2;have jl:=cL gs.2;have aJ:=cL hJ;have aC:=cL aJ.2;have c1:=cL YAN;have bZ:ns.Nodup:=Ynl;have Jt:(ns.take np).Nodup:=axT (List.take_sublist np ns) bZ;have wM:Yxv=np:=(List.length_take).trans (Hg hh);have E0:vs.length=Yxv:=(bz.length.trans hlen).trans wM.symm;have P:=aid bC Jt;have aq:s.heap.get? f=YB:=Y5T _ _ (K.1.1 _ _ aR);have F:∀L,ZRw:=λL=>aie (lF ⟨rfl,dC.2⟩);have Bq:∀L n,(callEnvC fd L f).kindOf n=YLk:=λL n=>rfl;refine K.1.2.elim λp T=>T.elim λloose T=>T.elim λrn T=>T.elim λpq T=>?_;refine codeAny_call_cells (fd:=fd) (body:=b) (binds:=Yai vs) ZO1 aq hd (T.nolimit.keeps ZhZ) (codeRec_of (Y4e ZhZ) c1.1) ah (R9 P E0) (sA c1.2)
   YOH (λhY X=>?_) (Y2A gs.1) (Y2A jl.1) ZMv
  ·exact(gG (ju dC.1 x.1 (List.of_mem_zip aq).1)).imp eq_of_beq λz=>⟨Yjs,cellsFrom_some (YJ (nO Yjs))⟩
  ·have wt:((Yai vs).map Yh).Nodup:=by exact aL (List.map_fst_zip (dH E0.symm)) Jt
   refine X.done.elim λh' z=>z.elim λtk z=>?_;have es:=z.1;have b5:Y9C:=z.2;subst es;have Br:ZAK:=ae.grow (s':=Y0w) b5 rfl rfl;have jA:Step cX s mh Y0w mh:=Step.grow (s':=Y0w) b5;have qq:Zle:=ZhT;have mU:Zld:=ZhU
   have oH:∀n c,(callEnvC fd s.heap.objs.size f).cells.lookup n=Y0M→s.heap.objs.size<c:=λn c e=>X.above n c YHS;have H5:a9 h' vs args:=bz.keep jA.4;have Ju:∀{i:Nat}{n:Str}{v:V},Y6X→YHx[i]?=Y0e→∃x,(Yai vs).lookup n=YQ∧YS4∧n∈YW1:=λ{i n v}ak av=>by
    have q:=ah7 H5 av;have af:YW1[i]?=Y5i:=(N1 (hlen▸q.1)).trans ak;exact YMq λx ck=>⟨ah8 Jt af ck.1,YGO,et af⟩
   have aN:de g ZJC ns YHx mh Y0w:=by
    refine⟨ZMv,eq_of_beq aJ.1,eq_of_beq YAM,bZ,⟨_,X.toInCall.ns,Zip⟩,ZUK,Zip,λn c e=>⟨mU _ (h9 (oH n c e)),_,X.cell n c e⟩,λn ey c e bk=>name_of_addr X.apart YHS (nO bk)⟩
    ·exact(Ju ak av).imp λx q=>⟨(Sb (cm:=ZP) wt q.1).1 aP,YG⟩
    ·refine(Ju ak av).elim Zkr;have nl:(callEnvC fd s.heap.objs.size f).kindOf n≠Y2x:=aP.elim Zl7 Zl7;have aR:YLk=Y2w:=(gG (ju dC.1 n Yq)).elim (λz=>absurd Yjs nl) eq_of_beq;refine(some_of (cellsFrom_some (L:=Y1J) (acc:=[]) (YJ (nO aR)))).elim Yre;have aC:=(Sb (m:=ZP) (cm:=ZP) wt q.1).2 nl;exact⟨c,x,ao,aV aC (X.cell n c ao),YG⟩
   have fresh:∀b,envX ZJC b→Y6Y:=λb q=>q.elim (λe=>(e:YSd).symm▸Y1f) λq=>q.elim λn q=>qq _ (h9 (oH n b YG));exact h _ _ _ _ i1 ⟨⟨o,fd,aR,hd,ah,rfl⟩,rfl,F s.heap.objs.size,aG.deeper _,Br,aN,jA,fresh,rfl⟩
theorem gJ{f:Nat}{st:S}(ao:Zew)(K:ZG)(hlen:YSR)(hh:YVz)(h:a6 ZH st YHx mh ZS Q):ZBy:=λA s vs aG ae bz=>
 EZ ao K hlen hh aG ae bz λenv hC body s1 ar I=>by
  refine Yg;intro aif aih aii;refine wpAny_mono (E:=lH) (Bm st K I.3 ar h Y5K _ I.4 I.5 ZC8) (λeA s' z=>z.elim λab z=>?_) Y0E;have uO:YRZ:=Step.unfresh (wr:=Y1V) (YuU (z.2.weaken YO6)) I.8;have q:=z.3
  cases eA with
  |next=>exact q.elim λbI q=>⟨ab,z.1,uO,_,aK.O3,q.2⟩
  |ret v=>exact⟨ab,z.1,uO,q⟩
  |brk=>exact q.elim
  |cont=>exact q.elim
theorem j7{o:Y7E}{f:YO1}{b:β}{P:Y1}(h:ZVp)(k:∀a,YMg→f a=Y6d→P):P:=by cases o with
 |none=>exact Y08
 |some a=>exact YH6
def pE(o:Y7E)(p:YIT)(f:Zft):Y67:=o.elim none λa=>cond (p a) (some (f a)) none
theorem rB{b:Bool}{x:YeF}{y:β}{P:Y1}(h:cond b x none=Y06)(k:Y6F→ZeX):P:=by cases b with
 |false=>exact Y08
 |true=>exact YmK
theorem aij{b:Bool}{x:YeF}{y:β}{P:Y1}(h:cond b none x=Y06)(k:YhK→ZeX):P:=by cases b with
 |true=>exact Y08
 |false=>exact YmK
theorem Jv{f:YO1}{y:β}{P:Y1}(h:l1 l none f=Y06)(k:∀a,l=[a]→f a=Y06→P):P:=by cases l with
 |nil=>exact Y08
 |cons a l=>cases l with
  |nil=>exact YH6
  |cons b l=>exact Y08
theorem j8{o:Y7E}{p:YIT}{f:Zft}{es:Ye}{P:Y1}(h:pE o p f=Y2J)(k:∀a,p a=true→f a=es→P):P:=j7 h λa O h=>rB h λq h=>k a q Y4u
def aik(v:V):Option Const:=V.casesOn v ZaV (λb=>some Y1x) (λi=>some Y3S) (λn=>(tab n).map Y4) ZP ZP ZP
def Sf(rC:Const)(v:V):Bool:=decide (aik v=some rC)
variable{ax:Nat}
theorem ail{c:bP}{rC:Const}{v:V}{p:Pos}{e:aI}(he:e=Y4Z rC ax p)(ao:Sf rC v=true)(h:Y8c):YK3:=λA s aG ae aN=>jL he (by
 have e:=Ynk
 cases v with
 |none=>exact aV (Y4G:Const.none=rC) (wpAny_Constant_none (qj ae aK.O3 h))
 |bool b=>exact(Y4G:Const.bool b=rC)▸wpAny_Constant_bool (qj ae YFr h)
 |int i=>exact(Y4G:Const.int i=rC)▸wpAny_Constant_int (me _ ae Y4E h)
 |str n=>exact(Al e).elim λx z=>aV z.2 (wpAny_Constant_str (me _ ae (aK.ofStr z.1 _) h))
 |_=>exact Y4t)
def Bs(v:V):dj:=lL ⟨λO O e=>pE (Ei e) (λx=>Sf x.1 v) Y9h,ZgB⟩ Zih
 λK L hm h=>j8 hm λx ao he=>Y2b λax z=>z.elim λp z=>ail z ao ZHq
theorem Sg{c:bP}{i:Int}{p:Pos}(h:Q YbV mh):Ev g k env c.ns r mh (eval Yzx env) Q:=λA s aG ae aN=>
 wpAny_UnaryOp (wpAny_Constant_int (PyProof.Rows.neg_int ⟨mh,(ae.toks _).toks _,(Step.toks YBH).trans Yeq,_,Y4E,h⟩))
def Sh(c:bP)(n:Str):Bool:=(Y3F==Y27)&&! ZVD
theorem aim{c:bP}{n:Str}(h:Sh c n=true):YGG∧Y5u:=⟨eq_of_beq Y1q.1,YxY⟩
def Jw(o:Yp)(v:V):Bool:=o.elim false λx=>b8 x v
theorem Si{o:Yp}{v:V}(h:Jw o v=true):o=Ym:=eP h λa e q=>e.trans (congrArg some YWF)
def wN(v:V):dj:=lL ⟨λH c e=>pE (uC e) (λx=>Sh c x.1&&Jw (H.gl.lookup x.1) v) Y9h,ZgB⟩ Yru
 λK L hm h=>j8 hm λx ao he=>Y2b λp z=>by
  refine Yj6;have q:=aim bD;refine aT z ?_;replace h:=Y7d;exact af7 K L q.1 q.2 (Si bC) h
def cU(f:Nat):dj:=lL ⟨λH c e=>pE Zet (λx=>Jw (H.gl.lookup Y2a) Y2g) λx=>Y1K,λcl vs m Q=>cl f vs m Q⟩ Zif
 λK L hm h=>j8 hm λx ao he=>YIG λp z=>z.elim λpos z=>by
  exact aT z (af8 K L YXu YXv (Si ao) YIH ZCz)
def b2(C i:Nat):dj:=lL ⟨λH c e=>pE (Ie e) (λx=>(YuR false λl=>Y53==some YEF)&&oC Y2a) λx=>[Y2a],λO vs m Q=>one vs False λa=>ZAD⟩ (λhm=>j8 hm λx O O=>aa x.2 rfl)
 λ{g H k env c r mh e es Q}K L hm h=>j8 hm λx ao he=>by
  exact dG ao λbD bC=>(eP bD λl aE af=>(aT x.2 (aga K aE YU8 bC ZHq)))
def E1(e:aI):Option {x:aI×Z7v // ∃apos pos,e=Y0Q (Y2e x.1 Y2K apos) ZJ [] pos∧oC x.1=true∧Y8C∧noStar ZJ=true∧x.2.2.length<20}:=
 Yuk none λy=>(Ie Y1v).elim none λa=>if h:And (oC a.1.1=true) (And ((a.1.2.2.endLine==Zi.2.line)=true) (And (noStar Y5B=true) (Zi.1.length<20)))then
  some ⟨(a.1.1,a.1.2.1,Y5B),a.1.2.2,Y4R,Yqq (congrArg (λf=>ab4 f Y5B [] Y4R) a.2),⟨h.1,YGr,Y9B.1,Y9B.2⟩⟩else none
theorem call_plain{e a:aI}{b:Ye}{p:Pos}(h:ZLp):YB9:=YSK
def Jx(H:ih)(C:Nat)(n:Str)(f:Nat):Bool:=H.mt.any λx=>x.1==C&&(Y2K==n&&ZJ==f)
theorem ain{f:Nat}{n:Str}(h:Jx H C n f=true):YOQ:=(OF h).elim λx q=>by
 refine pg q.2 YIf;have e:x=YZk:=iF Y95 (iF YGc YLc);exact ZCA
theorem E2{e x:aI}{es:Ye}{f:Str→Bool}{P:Y1}(hm:(YZl none λy=>cond (f Y5B) (some (Y1v,Y4R)) none)=ZaT)(k:∀nm apos pos,f nm=true→e=Y0Q (Y2e x nm apos) es [] pos→oC x=true→Y8C→Y5e→YUC→P):P:=
 j7 hm λy O hm=>rB hm λq hm=>Y5C λapos z=>z.elim λpos z=>by
  have aC:=gQ Yiq;rw[YAM,YAN]at z;exact k _ apos pos q z.1 Z4 YYA YYB.1 YYB.2
def c3(C f:Nat):kR:=⟨⟨λH c e=>YZl none λx=>cond (Jx H C YEF f) ZaU none,λv m=>inst v C m λO O O=>True,λcl v vs m Q=>cl f Y0O m Q⟩,
 λ{g H k env c r mh e x es Q}K L hm h=>E2 hm λnm apos pos q e3 ak av aP da=>aT e3 (af9 K (ain q) ak av aP da (h.mono λa m w=>IP w.1 λp t vs bx ar O=>bx▸⟨t,vs,ar,bx▸w.2⟩)),
 λ{H c e y}hm=>E2 (x:=y.1) (es:=y.2) (f:=λnm=>Jx H C nm f) hm Zg2⟩
theorem E3{c:bP}{x y:aI}{P:V→Yj}(h:gH g k env c.ns r Y2E mh λvs m=>two vs False λa b=>P a b m):Ev g k env c.ns r mh YAl λa m1=>Ev g k env c.ns r m1 Yk5 λb aH=>P a b aH:=h
abbrev yX:=V→V→YCh
abbrev Sj(op:Operator)(P:yX):Y1:=∀{g:G}{A:Around}{s:Shared}{mh:ag}{cF dF:Value}{a b:V}{Q:Yj},YU→YS5→YS6→Z6H→fW g A cX s mh (binaryOp op cF dF) Zh
theorem aio{c:bP}{op:Operator}{P:yX}(ok:Sj op P){x y:aI}{p:Pos}(h:ZOn):Ev g k env c.ns r mh (eval (YbD x op y p) env) Q:=λA s aG ae aN=>
 wpAny_BinOp (YOS λcF s1 z=>z.elim λm1 z=>Y0g λa q=>YJN λdF s2 y=>y.elim λaH y=>YIK λb p=>
  nE YEI (ok y.1 YHd p.1 p.2))
def uP(op:Operator)(P:yX)(ok:Sj op P):dj:=lL ⟨λO O e=>pE (aeE e) (λx=>decide (YEF=op)) λx=>[Y2a,YXt],Zgb⟩ Zig
 λ{g H k env c r mh e es Q}K L hm h=>j8 hm λx ao he=>Y2b λp z=>by
  replace h:=Y7d;exact aT z (yk Ynk (aio ok h))
def rD(a b:V)(f:Z4X):Y1:=a.mb False λx=>b.mb False λy=>f x y
theorem Jy{v:V}{f:YQu}{P:Y1}(h:Zcj)(k:∀n,Zcq):P:=by cases v with | int n=>exact YmJ | _=>exact h.elim
theorem tb{a b:V}{f:Z4X}{P:Y1}(cG:Yfq)(cP:Yfr)(z:rD a b f)(k:∀x y t u,ZIs→ZKX→f x y→P):P:=
 Jy z λx bx z=>Jy z λy cM z=>(Yhv:ZB4).elim λt aJ=>(YTP:ZB5).elim λu aC=>k x y t u aJ aC z
def oI:dj:=uP .Add (λa b m Q=>rD a b λx y=>Z6k) λae cG cP h=>tb cG cP h λx y t u aJ aC q=>aJ▸aC▸add_int ZUR
def nR:dj:=uP .Sub (λa b m Q=>rD a b λx y=>Z6j) λae cG cP h=>tb cG cP h λx y t u aJ aC q=>aJ▸aC▸sub_int ZUR
def aip:dj:=uP YPN (λa b m Q=>rD a b λx y=>0≤y∧y≤1000∧Q (YI (x*y)) m) λae cG cP h=>tb cG cP h λx y t u aJ aC q=>aJ▸aC▸mul_int (me _ ae Y4E Yq) (IntMulOk.of_right (intBits_le_64 (Int.lt_of_lt_of_le YC q.1) (Hb YG YC)))
def oMod:dj:=uP .Mod (λa b m Q=>rD a b λx y=>ux (y≠0) (YI (x.fmod y)) m Q) λae cG cP h=>tb cG cP h λx y t u aJ aC q=>aJ▸aC▸mod_int' YDu Yn2
def aiq:dj:=uP .FloorDiv (λa b m Q=>rD a b λx y=>y=3∧Q (YI (x.fdiv y)) m) λae cG cP h=>tb cG cP h λx y t u aJ aC q=>by
 have aAv:Nat.log2 3=1:=ZL
 exact aT aJ (aX aC (gS q.1 (floordiv_int YC (me _ ae Y4E (aV q.1 q.2)) (YY (rfl)))))
def rE:dj:=uP .Add (λa b m Q=>a.eM False λx=>b.eM False λy=>D5 ZeR (hv YqQ=true) (YD YqQ) m Q) λae cG cP h=>lJ h λx bx h=>lJ h λy cM h=>adL ae Yhv YTP YLq YlC.1 YlC.2
def Bt:dj:=uP .Add (λa b m Q=>lst a m λO O x=>lst b m λO O y=>ZeR∧alloc m (Y5 YqQ) Q) λae cG cP h=>jN h λp t x bx aD h=>jN h λq u y cM ah h=>
 Ya6▸YBh▸adR ae aD ah h.1 h.2
def Jz:dj:=uP YPN (λa b m Q=>lst a m λO O x=>one x False λv=>b.iU False λn=>Y2W∧alloc m (Y5 Yos) Q) λae cG cP h=>jN h λp t x bx aD h=>rr h λv ex h=>Bj h λn cM h=>by
 subst cM;exact cP.elim λtk aC=>aT YiR (aX aC (adU ae (aV ex aD) h.1 h.2))
abbrev E4:=V→V→ag→YFE→Y1
abbrev JA(op:CmpOp)(P:E4):Y1:=∀{g:G}{H:ih}{k:Nat}{A:Around}{s:Shared}{mh:ag}{cF dF:Value}{a b:V}{K:YFE}{R:Y8},ZG→Z5→YU→YS5→YS6→P a b mh K→(∀x,K x→sH R s x)→WP g A (compareOp op cF dF) R s
def JB(op:CmpOp)(e:aI):Y67:=(PF e).elim none λy=>cond (decide (Y5B=[op])) (l1 Y4R none λr=>cond ZGw none (some [Y1v,r])) none
theorem air{e l op r:_}{ops:Z5H}{rs:Ye}{p:Pos}(z:e=Expr.Compare l ops rs p)(q:ops=[op])(fB:rs=[r]):ZLq:=aV q (fB▸z)
theorem JC{op:CmpOp}{e:aI}{es:Ye}{P:Y1}(h:JB op e=Y2J)(k:∀l r p,ZLq→ZGw=false→es=[l,r]→P):P:=j7 h λy O h=>Y5C λp z=>rB h λq h=>Jv h λr fB h=>aij h λck h=>k Y1v r p (air z YHV fB) ck Y5r
theorem ais{c:bP}{op:CmpOp}{P:E4}(ok:YdR){x y:aI}{p:Pos}(K:ZG)(hm:ZGx)(h:gH g k env c.ns r Y2E mh λvs m=>ZbW):Ev g k env c.ns r mh (eval Yzj env) Q:=λA s aG ae aN=>
 wpAny_Compare1 (YOS λcF s1 z=>z.elim λm1 z=>Y0g λa q=>YJN λdF s2 y=>y.elim λaH y=>YIK λb p=>
  ok K aG y.1 YHd p.1 p.2 λx aq tk=>⟨aH,Zep,YzS,_,aK.ofBool x,aq⟩) hm
theorem ait{c:bP}{op:CmpOp}{P:E4}(ok:YdR){x y:aI}{p:Pos}{w:Y5O}{Q:Y0i}(K:ZG)(hm:ZGx)(h:gH g k env c.ns r Y2E mh λvs m=>two vs False λa b=>P a b m λz=>Q z m):kP g k env c.ns r mh (isTrue Yzj env w) Q:=λA s aG ae aN=>
 wpAny_isTrue_Compare1 (YOS λcF s1 z=>z.elim λm1 z=>Y0g λa q=>YJN λdF s2 y=>y.elim λaH y=>YIK λb p=>
  ok K aG y.1 YHd p.1 p.2 λx aq tk=>wpAny_truthy_bool ⟨aH,Zep,YzS,aq⟩) hm
def mn(op:CmpOp)(P:E4)(ok:YdR):dj:=⟨⟨λO O e=>JB op e,λO vs m Q=>ZbW⟩,
 λ{g H k env c r mh e es Q}K L hm h=>JC hm λl uQ p e3 ah he=>by
  refine YgG;exact ais ok K ah ZHs,
 λ{g H k env c r mh e es Q}K L hm h=>JC hm λl uQ p e3 ah he=>by
  exact dT e3 (ait ok K ah ZHs)⟩
def JD(a b:V):Bool:=(a.isInt&&b.isInt)||((a.isStr&&b.isStr)||ZAB)
theorem str_beq(x y:Str):YXz=decide (x=y):=sy (beq_iff_eq.trans decide_eq_true_iff.symm)
theorem Sk{a b:V}{P:Y1}(cG:Yfq)(cP:Yfr)(z:YdS)(dC:∀x y t u,ZIs→ZKX→Yb6)(du:∀x y t u,cF=Z26→dF=Y4 y u→Yb6)(gs:∀x y,cF=YJX→dF=YPR→Yb6):P:=
 Yx4 (λz=>have z:=YTO;(V.jM z.1).elim λx e=>(V.jM z.2).elim λy bk=>(e▸cG:ZB4).elim λt aJ=>(Yhp:ZB5).elim λu aC=>dC x y t u aJ aC ZHo) λz=>
 Yx4 (λz=>have z:=YTO;(V.kr z.1).elim λn e=>(V.kr z.2).elim λm bk=>(e▸cG:aK h cF ZM).elim λt q=>q.elim λx q=>(Yhp:aK h dF Z23).elim λu bS=>bS.elim λy bS=>du x y t u q.2 Y1p (dS e (bW bk (aj (str_beq ..) (HR q.1 Y3D))))) λz=>
 have z:=YTO;(V.Ee z.1).elim λx e=>(V.Ee z.2).elim λy bk=>gs x y (aV e cG:aK h cF YJX) (Yhp:aK h dF YPR) ZHo
def oEq:dj:=mn .Eq (λa b m Q=>uy YdS Y1S Q) λ{g H k A s mh cF dF a b K R}K aG ae cG cP h f=>have h:=h.un;Sk cG cP h.1
 (λx y t u aJ aC q=>aJ▸aC▸eq_int YoH) (λx y t u aJ aC q=>aJ▸aC▸eq_str YoH) (λx y aJ aC q=>aJ▸aC▸eq_bool (aV q.symm ZNb))
def wO:dj:=mn YJV (λa b m Q=>uy YdS (! Y1S) Q) λ{g H k A s mh cF dF a b K R}K aG ae cG cP h f=>have h:=h.un;Sk cG cP h.1
 (λx y t u aJ aC q=>aJ▸aC▸ne_int Yop) (λx y t u aJ aC q=>aJ▸aC▸ne_str Yop) (λx y aJ aC q=>aJ▸aC▸ne_bool Yop)
def aiu:dj:=mn YJV (λa b m Q=>a.eM False λx=>b.eM False λy=>ZeS∧YzN∧Q YtK) λK aG ae cG cP h f=>lJ h λx bx h=>lJ h λy cM h=>aen aG (aV bx cG) YTP h.1 YGr (f _ Y9B)
def lists(a b:V)(m:ag)(Q:Y3→Y7D):Y1:=lst a m λO O x=>lst b m λO O y=>(ZeS→YzN)∧Q x y
def wQ:dj:=mn YJV (λa b m Q=>lists a b m λx y=>Q YtK) λK aG ae cG cP h f=>jN h λp t x bx aD h=>jN h λq u y cM ah h=>Ya6▸YBh▸aem ae aG aD ah h.1 Yk8
def Sl:dj:=mn .Eq (λa b m Q=>lists a b m λx y=>Q (j0 x y)) λK aG ae cG cP h f=>jN h λp t x bx aD h=>jN h λq u y cM ah h=>Ya6▸YBh▸ael ae aG aD ah h.1 Yk8
def Sm:dj:=mn YPO (λa b m Q=>b.eM False λy=>Yqr∧Q (! Yqs)) λK aG ae cG cP h f=>lJ h λy cM h=>H8 (aeo aG cG (aV cM cP) h.1 (H9 Yk8))
def JE:dj:=mn .In (λa b m Q=>lst b m λO O y=>uy (Yqr) (Yqs) Q) λK aG ae cG cP h f=>jN h λp t y cM ah h=>YBh▸PA ae aG cG ah YLq YUK
def Sn:dj:=mn YPO (λa b m Q=>lst b m λO O y=>uy (Yqr) (! Yqs) Q) λK aG ae cG cP h f=>jN h λp t y cM ah h=>YBh▸H8 (PA ae aG cG ah YLq Z4J)
def JF:dj:=mn .In (λa b m Q=>lb b m λO O c es=>uy ZP2 Yvu Q) λK aG ae cG cP h f=>s6 h λp t c es cM ah h=>YBh▸PB YCK ae aG cG ah YLq YUK
def aiv:dj:=mn YPO (λa b m Q=>lb b m λO O c es=>uy ZP2 (! Yvu) Q) λK aG ae cG cP h f=>s6 h λp t c es cM ah h=>YBh▸H8 (PB YCK ae aG cG ah YLq Z4J)
def JG(a b:V)(Q:YFE):Y1:=b=Y7∧a.casesOn (Q true) Y3x YrU Y3x YrU Y3x YrU
theorem So{a b:V}{Q:YFE}(cG:Yfq)(cP:Yfr)(z:Z4j):plainIs cF dF=true∧Q (cF==dF):=by
 have aC:dF=Y7:=(z.1▸cP:aK h dF Y7)
 have z:=z.2;subst aC
 cases a with
 |none=>rw[(cG:cF=Y7)];exact YZK
 |int i=>exact cG.elim λt e=>by rw[e];exact YZK
 |ref p=>rw[(cG:YiQ)];exact YZK
 |tup vs=>exact cG.gj.elim λp q=>q.elim λxs q=>by rw[q.1];exact YZK
 |_=>exact z.elim
def Bu:dj:=mn .Is (λa b m Q=>Z4j) λ{g H k A s mh cF dF a b K R}K aG ae cG cP h f=>have z:=So cG cP h;wpAny_is_plain z.1 ZNc
def aiw:dj:=mn .IsNot (λa b m Q=>JG a b λr=>Q (!r)) λ{g H k A s mh cF dF a b K R}K aG ae cG cP h f=>have z:=So (Q:=λr=>_) cG cP h;wpAny_isNot_plain z.1 ZNc
def oLt:dj:=mn .Lt (λa b m Q=>rD a b λx y=>Q (decide (x<y))) λ{g H k A s mh cF dF a b K R}K aG ae cG cP h f=>tb cG cP h λx y t u aJ aC q=>aJ▸aC▸lt_int YUL
def oLe:dj:=mn .LtE (λa b m Q=>rD a b λx y=>Q (decide (x≤y))) λ{g H k A s mh cF dF a b K R}K aG ae cG cP h f=>tb cG cP h λx y t u aJ aC q=>aJ▸aC▸le_int YUL
def oJ:dj:=mn .Gt (λa b m Q=>rD a b λx y=>Q (decide (y<x))) λ{g H k A s mh cF dF a b K R}K aG ae cG cP h f=>tb cG cP h λx y t u aJ aC q=>aJ▸aC▸gt_int YUL
def aix:dj:=mn .GtE (λa b m Q=>rD a b λx y=>Q (decide (y≤x))) λ{g H k A s mh cF dF a b K R}K aG ae cG cP h f=>tb cG cP h λx y t u aJ aC q=>aJ▸aC▸ge_int YUL
def JH(e:aI):Bool:=PySem.Expr.casesOn e Y0o Y0o Y18 Y0o Y18 Y18 Y0o Y0o Y18 Y18 YrK Y18 Y0U Y0U Y0U Y18 Y18 Y18 Y0U Y0o Y0o Y0o Y0U Y0U Y0U Y0o Y1Y
theorem aiy(e:aI):JH e=true→∀o i:Value,subscripted e false o i=operate [o,i] (getItem o i):=p7 e Y1i Y1i Y85 Y1i Y85 Y85 Y1i Y1i Y85 Y85 (λO O O O O O O O=>rfl) Y85 ZA ZA ZA Y85 Y85 Y85 ZA Y1i Y1i Y1i ZA ZA ZA Y1i (λO O O O h O O=>Y0L)
abbrev JI(e:aI):=Option {x:YRJ×YRJ // ∃p,e=YEs x.1 x.2 none p}
def Sp(e:aI):JI e:=p7 (motive_1:=JI) e YX YX Yl YX Yl Yl YX YX Yl Yl Y4S Yl Yz Yz Yz Yl Yl Yl Yz YX YX YX Yz Yz Yz YX (λa b c p=>Option.casesOn (motive:=λc=>JI (YEs a b c p)) c (some ⟨YIx,p,rfl⟩) ZP)
abbrev Sq(P:yX):Y1:=∀{g:G}{k:Nat}{A:Around}{s:Shared}{mh:ag}{cF dF:Value}{a b:V}{Q:Yj},Z5→YU→YS5→YS6→Z6H→(∃T id,s.TypeIs cF T∧typeLookup Y66 "__getitem__"=pure (some YbJ))∧fW g A cX s mh (getItem cF dF) Zh
theorem aiz{c:bP}{P:yX}(ok:Sq P){x y:aI}{p:Pos}(hs:JH y=true)(h:ZOn):Ev g k env c.ns r mh (eval (Y6u x y p) env) Q:=λA s aG ae aN=>
 Subscript_ (YOS λcF s1 z=>z.elim λm1 z=>Y0g λa q=>YJN λdF s2 y=>y.elim λaH y=>YIK λb p=>by
  have w:=ok aG y.1 YHd p.1 p.2;exact w.1.elim λT dD=>dD.elim λid dD=>tail_any dD.1 dD.2 (nE YEI w.2) (aiy _ hs _ _))
def E5(P:yX)(ok:Sq P):dj:=lL ⟨λO O e=>pE (AL e) (λx=>JH Y1K) λx=>[Y2a,Y1K],Zgb⟩ Yru
 λ{g H k env c r mh e es Q}K L hm h=>j8 hm λx ao he=>Y2b λp z=>by
  replace h:=Y7d;exact aT z (aiz ok ao h)
def fi:dj:=E5 (λa b m Q=>a.eM False λvs=>b.iU False λn=>wu Y2Z YqD m Q) λaG ae cG cP h=>lJ h λvs bx h=>Bj h λn cM h=>wu.casesOn h λak v pF Bv=>by
 subst bx;subst cM;exact⟨cG.gj.elim λp q=>q.elim λxs q=>⟨"tuple",_,aV YHe YM5,ayh.lookup⟩,cP.elim λt e=>aX e (adV ae cG ak pF Bv)⟩
inductive JJ(m:ag)(a n:Nat)(Q:Yj):Y1
 |mk (t:Nat) (vs:Y3) (h:YVd) (l:Y2Z) (v:V) (aO:YqD=Ym) (q:Y37):JJ m a n Q
inductive JK(m:ag)(a:Nat)(b:V)(Q:Yj):Y1
 |mk (t c:Nat) (es:dm) (h:Ymp) (k:Ykk) (v:V) (aO:c8 es b=Ym) (q:Y37):JK m a b Q
def gW:dj:=E5 (λa b m Q=>a.oi False λp=>b.iU False λn=>JJ m p n Q) λaG ae cG cP h=>yC h λp bx h=>Bj h λn cM h=>JJ.casesOn h λt vs aD ak v pF Bv=>by
 subst cM;rw[YiR];refine⟨ae.list aD λxs ep aq O=>⟨"list",_,YWG,F.slot_list_getitem.lookup⟩,cP.elim λt e=>?_⟩;refine YgI;exact adW ae aD ak pF Bv
def fc:dj:=E5 (λa b m Q=>a.oi False λp=>JK m p b Q) λaG ae cG cP h=>yC h λp bx h=>JK.casesOn h λt c es aD ak v pF Bv=>by
 rw[YiR];exact⟨ae.dict aD λxs ep aq O O=>⟨"dict",_,mf aq,F.slot_dict_getitem.lookup⟩,ad8 ae aG aD ak cP pF Bv⟩
def JL:List Yui:=[((8,8),100,none),((1,1),43,none),((17,17),111,none),((21,21),112,none),((3,2),63,some 120),((4,2),63,some 121)]
def yY(n:Nat):Y0X:=(JL.find? λp=>ZWT).map (·.1.2)
theorem aiA:∀p∈JL,And (tab p.1.2=some Zmd) (tab p.1.1=some ZWV):=ZL
theorem Sr{n m:Nat}(h:yY n=Y2y):∃ch x,YXW=Zaj∧YHy=YQ∧(x=Y5o∨∃d,x=⟨#[ch,d]⟩):=
 YZi λp q=>
  have z:=aiA p (ayi q.1)
  ⟨YWK,ZWV,aV q.2 z.1,(eq_of_beq (@List.find?_some _ (λp:Yui=>ZWT) p JL q.1))▸z.2,by
   cases p.2.2 with
   |none=>exact Zj
   |some d=>exact YJ ⟨d,rfl⟩⟩
def aiB:dj:=E5 (λa b m Q=>a.onStr False λn=>b=YPc∧Yst) λ{g k A s mh cF dF a b Q}aG ae cG cP h=>by
 cases a with
 |str n=>
  exact⟨cG.elim λt e=>e.elim λx e=>⟨"str",_,e.2▸Zba,F.slot_str_getitem.lookup⟩,(aV h.1 cP:aK s.heap dF YPc).elim λu cM=>Yl7 λj aM=>(Sr aM.1).elim λch w=>w.elim λx w=>cG.elim λt e=>e.elim λfY e=>aT e.2 (aX cM (gz Yvs (PySem.P.getItem_str YC (ZdH (λz=>YYJ) λz=>z.elim λd z=>YYJ:(seqIndex? 0 x.length).bind (x.cps[·]?)=some ch) (me _ ae Yfy aM.2))))⟩
 |_=>exact h.elim
theorem aiC{n:Nat}{u:Tok}{a:Addr}{P:Y8}(aM:Zex)(cG:aK s.heap cF ZM)(hs:s.heap.IsSlice a none Za3 none)(aF:∀v tk,aK s.heap v YC9→P v YIS):WP g A (getItem cF YA) P s:=by
 refine(Sr aM).elim λch w=>w.elim λx w=>cG.elim λt e=>e.elim λfY e=>jL e.2 (Ax Yvs ?_);have key:∀{m:Made},sliceMade x t none Za3 none=m→m.post P s→WP g A (getItem Z26 YA) P s:=λe h=>wpAny_getItem_str_slice hs rfl (aa e h);refine ZdH (λz=>?_) λz=>z.elim λd z=>?_
 ·subst z;exact key (m:=.val Z27) rfl ZAy
 ·subst z;exact key (m:=Y4 Y5o) rfl ⟨by show 1≤sizeLine;decide,ZAy⟩
def E6(e:aI)(i:Int):Bool:=(Ei e).elim false λx=>decide (x.1=Y3S)
theorem JM{e:aI}{i:Int}(h:E6 e i=true):∃k p,e=Y4Z Y3S k p:=eP h λx O q=>x.2.imp λax z=>z.imp λp z=>aV YHV z
def JN(i:Int)(e:aI):Y67:=YuH none λx=>Yuq none λy=>y.1.2.elim none λu=>cond (E6 u i&&y.1.1.isNone) ZaW none
theorem Ss{e o s:aI}{lo up Su Sv:YRJ}{ps:Pos}(ex:e=Y6u o s pos)(fy:s=YEs lo up none ps)(fa:lo=Su)(rF:up=Sv):e=Y6u o (YEs Su Sv none ps) pos:=aj ex (aT fy (aa fa (yk rF rfl)))
theorem E7{i:Int}{e:aI}{es:Ye}{P:Y1}(h:JN i e=Y2J)(k:∀o ax p ps pos,e=Y6u o (YEs none ZZe none ps) pos→ZNC):P:=j7 h λx O h=>j7 h λy O h=>Y2b λpos ex=>Y5C λps fy=>j7 h λu rF h=>rB h λq h=>dG q λbD bC=>YuX λax z=>z.elim λp z=>
 k Y2a ax p ps pos (Ss ex fy Z2e ZYL) Y5r
theorem JO{e a b:aI}{p:Pos}(h:e=Y6u a b p):YB9:=YSK
def aiD:dj:=lL ⟨λO O e=>JN 1 e,λO vs m Q=>one vs False λa=>ZAE⟩ Zid
 λ{g H k env c r mh e es Q}K L hm h=>E7 hm λo ax ek ps p e3 he A s aG ae aN=>by
  replace h:=YHG;have h:Ev g k env c.ns r mh Y7h λa m=>ZAE:=h;refine aT e3 (Subscript_ (Y0p λcF s1 z=>z.elim λm1 z=>Y0g λa q=>?_))
  cases a with
  |str n=>
   refine YHf λj aM=>Y0K;intro aiE aiF;refine wpAny_Slice (wpAny_pure (Yci _ _ _ _ _ _ ax ek _ Zl));have b5:=hH s1.heap YYK;have cG:aK ZZB cF ZM:=q.1;refine YoE λt e=>e.elim λaAw e=>tail_any (ops:=[YQ3,cF]) (T:="str") (aa e.2 Zba) F.slot_str_getitem.lookup (aiC (u:=s1.toks) aM.1 cG Y6k λv tk bz=>?_) rfl;exact⟨m1,(YEH (s':=Zfo) b5 rfl rfl),Y0m (Step.grow (s':=Zfo) b5),_,bz,aM.2⟩
  |_=>exact YHf
def Sw(i:Int)(e:aI):Y67:=YuH none λx=>Yuq none λy=>y.1.1.elim none λu=>cond (E6 u i&&y.1.2.isNone) ZaW none
theorem Sx{i:Int}{e:aI}{es:Ye}{P:Y1}(h:Sw i e=Y2J)(k:∀o ax p ps pos,e=Y6u o (YEs ZZe none none ps) pos→ZNC):P:=j7 h λx O h=>j7 h λy O h=>Y2b λpos ex=>Y5C λps fy=>j7 h λu rF h=>rB h λq h=>dG q λbD bC=>YuX λax z=>z.elim λp z=>
 k Y2a ax p ps pos (Ss ex fy ZYL Z2e) Y5r
def kT:dj:=lL ⟨λO O e=>Sw 1 e,λO vs m Q=>one vs False λa=>ZAA⟩ (λhm=>Sx hm YrI)
 λ{g H k env c r mh e es Q}K L hm h=>Sx hm λo ax p ps pos e3 he A s aG ae aN=>by
  replace h:=YHG;have h:Ev g k env c.ns r mh Y7h λa m=>ZAA:=h;refine aT e3 (Subscript_ (Y0p λcF s1 z=>z.elim λm1 z=>Y0g λa q=>lJ q.2 λvs bx ck=>?_));have ck:=ck.un;refine(aV bx q.1:aK s1.heap cF ZZ).gj.elim λt w=>w.elim λxs w=>?_;have hlen:=w.2.2.length;refine aa w.1 (wpAny_Slice (Yci _ _ _ _ _ _ ax p _ Ze1));have b5:=hH s1.heap Zfc;have Sy:TupAt YHl t xs:=w.2.1.imp ZjQ;have bq:IsTup YHl t Z1:=jx Sy;have eB:(s1.heap.push {cls:=YQF,data:=ZY #[Z0U,Y7,Y7]}).IsSliceOf s1.heap.objs.size Z0U Y7 Y7:=ZFO;have a2:a5 g m1 YYP:=YEH (s':=YYP) b5 rfl rfl;have eX:Step cX s mh YYP m1:=Y0m (Step.grow (s':=YYP) b5);exact tail_any (ops:=Z9Q) (iz.type Sy) ayh.lookup (getItem_tuple_from bq eB YW (aL Y0D (aL hlen ck.1)) (hy.go eX (D9 (X:=cX) (t:=YX2) (Q:=Q) a2 ((w.2.2.drop 1).keep Y63) YGO.2.1 YGO.2.2)) (aj Y0D (aj hlen (fZ YGO.1)))) rfl
theorem a9.pick(r:Y0z)(f:Zfu)(l:ZC):∃ws,a9 h (l.filterMap λa=>Zel) ws∧∀w∈ws,w∈vs:=by
 induction l with
 |nil=>exact⟨[],a9.nil,ZgU⟩
 |cons a l ai=>
  refine ai.elim λws q=>aa Dm ?_
  cases e:Zel with
  |none=>exact⟨ws,q⟩
  |some x=>
   have aE:f a<vs.length:=ZCF;refine(r.get (dy aE)).elim YZ2;exact⟨_::ws,a9.cons ((ZIh:y=x)▸z.2) q.1,λw hw=>(dz hw).elim (λe=>aa e (v3 aE)) (q.2 w)⟩
def Sz(v:V)(m:ag)(Q:Y7D):Y1:=v.oi False λa=>∃t vs,m a=YpD∧YFV
def aiG:dj:=lL ⟨λO O e=>JN 40 e,λO vs m Q=>one vs False λa=>Z7y⟩ Zid
 λ{g H k env c r mh e es Q}K L hm h=>E7 hm λo ax p ps pos e3 he A s aG ae aN=>by
  replace h:=YHG;have h:Ev g k env c.ns r mh Y7h λa m=>Z7y:=h;refine aT e3 (Subscript_ (Y0p λcF s1 z=>z.elim λm1 z=>Y0g λa q=>yC q.2 λt bx f3=>f3.elim λtg f3=>f3.elim λvs f3=>?_));have aD:=f3.1;have ck:=f3.2;refine aa ZXW (wpAny_Slice (wpAny_pure (Yci _ _ _ _ _ _ ax p _ Zl)));have b5:=hH s1.heap Zfd;have a2:a5 g m1 YYQ:=YEH (s':=YYQ) b5 rfl rfl;have eX:Step cX s mh YYQ m1:=Y0m (Step.grow (s':=YYQ) b5);refine(a2.3 _ _ _ aD).elim λxs fz=>?_;have aq:=fz.1;have bg:=fz.2;have hlen:=bg.length;refine Yg;intro aAx aAy aAz;refine tail_any (ops:=Z9Q) (aq.elim λo z=>⟨o,z.1,Z4⟩) F.slot_list_getitem.lookup (wpAny_getItem_list_slice aq ZFO Y7 (YI 40 _) Y7 (λe=>sk _ e.symm) ((bg.pick id (sliceRange YHn.1 YPE.1 YPE.2)).elim λws w=>?_) (aj Y0D (aj hlen (fZ ck.1)))) rfl;have aJ:slicePick Z1 none YpH none=bT ((sliceRange YHn.1 YPE.1 YPE.2).filterMap λi=>xs[id i]?):=by
   refine congrArg bT (R8 λi O=>q8)
  have hle:=slicePick_size_le Z1 none YpH none
  (replace hle:=bN aJ hle;refine aa aJ ?_)
  exact hy.go eX (D8 (X:=cX) (t:=YX2) (Q:=Q) a2 w.1 (YGO ws (au (dH (cA w.1.length (eN _).symm)) (au hle (dH (YJB hlen)))) w.2))
def oTup:dj:=lL ⟨λO O e=>pE (rm e) Zkx Zky,λO vs m Q=>ux Y7m ZZ m Q⟩ Zih
 λ{g H k env c r mh e es Q}K L hm h=>j8 hm λx ao he A s aG ae aN=>Y2b λn z=>z.elim λpos z=>by
  refine Yj6;replace h:=Y7d;exact aT z (wpAny_Tuple (ZVH▸Yaw λxs s1 w=>w.elim λm1 w=>YqH λvs q=>⟨ZHl,hy.go w.2 (D9 (X:=cX) (t:=s1.toks) w.1 q.1 YoG.1 YoG.2)⟩))
def fj:dj:=lL ⟨λO O e=>pE (dList e) Zkx Zky,λO vs m Q=>ZEU⟩ Zig
 λ{g H k env c r mh e es Q}K L hm h=>j8 hm λx ao he A s aG ae aN=>Y2b λpos z=>by
  refine Yj6;replace h:=Y7d;refine aT z Y0K;intro aAA aAB;exact wpAny_List (ZVH▸Yaw λxs s1 w=>w.elim λm1 w=>YqH λvs q=>⟨ZHl,hy.go w.2 (D8 (X:=cX) (t:=s1.toks) w.1 q.1 Yq)⟩)
def run{α:Y4i}(lt:Y0y):YK9→α
 |YS a=>a
 |.ask i j k=>run lt (k YVb)
theorem run_bind(lt:Y0y)(f:Zfs)(t:YK9):run lt Zb7=run lt (f ZYi):=by
 induction t with
 |ret _=>rfl
 |ask i j k ai=>exact ai YVb
abbrev lO(lt:Y0y):Y1:=hR (∀x y,ZTy→Ymn) (∀x y z,Ymn→lt z y=false→lt z x=false)
noncomputable abbrev dR (p:ZB) (i:Nat):Nat:=p.getD i 0
theorem tc(p:ZB)(i:Nat):Y7g=(p[i]?).getD 0:=by simp[dR,sq]
def nS(lt:Y0y)(p:ZB)(n:Nat):Y1:=∀i j,ZRp
def Down(lt:Y0y)(p:ZB)(n:Nat):Y1:=∀i j,YGz→ZRz
theorem JP{n:Nat}(h:¬j<n)(h':j<n+1):j=n:=Nat.le_antisymm (hp h') YlU
theorem JQ(h:YGz)(q:¬i=j):i≤YDU:=Af (rb h q)
theorem td(h:i<j):YDU<j:=Nat.sub_lt (Ag h) Nat.one_pos
theorem eq2{n:Nat}(ak:n+1 - 1 - 0≤i)(av:YGz)(aP:j<n+1):i=j:=mG av (au (hp aP) ak)
theorem SA(gK:YGz)(aM:j<1):i=j:=(Am (au gK YlS)).trans (Am YlS).symm
theorem bz{n:Nat}(h:a≤k)(aR:k<n):a≤YfU∧YfU<n:=by
 have e:YfU=a+(Y9Q - k):=by exact aT (Nat.add_sub_assoc (Ag aR) ..) ((Nat.add_sub_assoc Z2c ..))
 rw[e];refine⟨Yk,fF (h7 h _) ?_⟩;refine aj (rd Z2c) ?_;exact td aR
theorem SD{c:Nat}(h:YGz):c - j≤c - i:=ayk h c
theorem mid{l r:Nat}(h:l<r):l≤Y9r∧Y9r<r:=⟨(ayl Dn).mpr (aj YK5 (c0 YUq l)),(aym Dn).mpr (aL YK5 (ayn h r))⟩
theorem lO.te{lt:Y0y}(W:Y4L)(x:Nat):lt x x=false:=by
 cases h:lt x x with
 |false=>rfl
 |true=>have:=W.1 x x h;replace this:=aQ h this;exact this
theorem lO.le{lt:Y0y}(W:Y4L){x:Nat}(h:ZTy):Ymn:=W.1 _ _ h
theorem nS.step{lt:Y0y}(W:Y4L){p:ZB}{n:Nat}(h:ZVQ)(e:n=0∨ZTv=false):nS lt p (n+1):=λi j gK aM=>by
 by_cases q:j<n
 ·exact ZPc
 ·obtain rfl:=JP q aM;by_cases ck:i=j
  ·subst ck;exact Y8g
  ·have gD:=ZYU;exact W.2 _ ZKg _ ZPa ZLi
theorem Down.step{lt:Y0y}(W:Y4L){p:ZB}{n:Nat}(h:YQc)(e:n=0∨ZTt):Z3Z:=λi j gK aM=>by
 by_cases q:j<n
 ·exact ZPc
 ·obtain rfl:=JP q aM;by_cases ck:i=j
  ·subst ck;exact Y8g
  ·have gD:=ZYU;exact W.2 _ ZKg _ ZLi ZPa
theorem rG{p:ZB}(aM:j≤p.size)(k:Nat):dR (kas_rev p i j) k=if And ZRq (k<j)then dR p (i+j - 1 - k)else YGU:=by
 (refine ZE9;rw[kas_rev];refine aT (getElem?_mirror_all aM ..) ?_)
 split <;> exact YPI
theorem uR(p:ZB)(i j:Nat):(kas_rev p i j).size=p.size:=mirror_size _ _ _ _
theorem tf(p:ZB)(i j:Nat):(kas_rev p i j).Perm p:=mirror_perm _ _ _ _
theorem SE{lt:Y0y}(W:Y4L)(p:ZB)(f n:Nat)(ak:YQK)(u:ZVQ):n≤YHi∧YHi≤n+f∧nS lt p YHi∧
   (YHi=n+f∨lt (dR p YHi) (dR p (YHi - 1))=true):=by
 induction f generalizing n with
 |zero=>exact⟨YW,YW,u,Zj⟩
 |succ f ai=>
  cases h:YVa with
  |true=>
   have e:ZYh=n:=(congrArg Y55 Ylu:)
   rw[e];exact⟨YW,Yk,u,YPb⟩
  |false=>
   have e:ZYh=run lt (kas_asc p f (n+1)):=(congrArg Y55 (if_neg (Dw h)):)
   rw[e];have z:=ai (n+1) Y1X (u.step W YPb);exact⟨ud z.1,YQd▸Z4,YYA,Z3.2.imp (λd=>d.trans YQd) id⟩
abbrev Bw(lt:Y0y)(p:ZB)(n q:Nat):Y1:=iG YQK (q<n) ZVk YQc (∀i j,ZUy→ZRp)
theorem Bw.rev{lt:Y0y}(W:Y4L){p:ZB}{n q:Nat}(h:Z2z):Down lt YmV n∧(∀k,n≤k→dR YmV k=YGU):=by
 refine⟨Zin,YOD⟩
 ·refine aX YWn (aT YWn ?_);by_cases ak:YVp≤i
  ·have af:=YkI;rw[if_pos ⟨ak,af⟩,if_pos ⟨ZEr,aM⟩];refine h.5 _ _ ?_ Z7h (bz ak af).2;rw[N2,ZPB];exact(bz ZEr aM).1
  ·rw[if_neg λz=>ak z.1]
   split
   ·next z=>exact h.4 _ _ (au (h9 (Dl ak)) ZI8.1) ZI8.2
   ·exact h.4 _ _ gK aM
 ·exact aj YWn ((if_neg λz=>ye aR z.2))
abbrev aiH(lt:Y0y)(f:Nat)(p:ZB)(n q:Nat)(P:Y1):Y1:=∀(dV:ZB)(ey bS:Nat),run lt (kas_desc f p n q)=(dV,ey,bS)→Bw lt dV ey bS→ey≤n+f→ZKp→dV.size=p.size→P
abbrev E8(lt:Y0y)(f:Nat)(p:ZB)(n q:Nat):Y1:=∀P:Y1,aiH lt f p n q P→P
theorem E8.step{lt:Y0y}{f:Nat}{p ek:ZB}{n q il:Nat}(e:Yoe=run lt (kas_desc f ek (n+1) il))(pm:ek.Perm p)(ps:ek.size=p.size)(h:E8 lt f ek (n+1) il):E8 lt (f+1) p n q:=
 h _ λdV ey bS bk d b m s=>(λO bA=>bA dV ey bS (e.trans bk) d (YQd▸b) (m.trans pm) (s.trans ps))
theorem aiI{lt:Y0y}(W:Y4L)(f:Nat)(p:ZB)(n q:Nat)(h:Z2z)(hz:n+f≤p.size):E8 lt f p n q:=by
 induction f generalizing p n q with
 |zero=>exact(λO bA=>bA p n q rfl h YW Y3U rfl)
 |succ f ai=>
  have dn:=h.1;have wR:n+1+f≤p.size:=YQd▸hz;have qC:n+1≤p.size:=ZEi;have aJ:YVa=true→Yoe=run lt (if YWd then kas_desc f YmV (n+1) 0 else kas_desc f p (n+1) 0):=λc=>Yw2
  have aC:YVa=false→Yoe=run lt (if ZTw=true then YS (p,n,q)else kas_desc f p (n+1) (q+1)):=λc=>Yvz
  cases c:YVa with
  |true=>
   have fx:=aJ c;by_cases aF:YWd
   ·have d:=h.rev W;refine .step (fx.trans (congrArg Y55 Ylr)) YNQ Ypi (ai _ _ _ ⟨Y1X,Y3G,by refine aL YXb ?_;exact qC,d.1.step W YJb,Zim⟩ (aL YXb wR))
    ·have f3:YVp≤Y9Q:=ayk (fp 1 q) n;exact aX (d.2 n YW) (aT YWn (aT (if_pos ⟨f3,YXX⟩) (W.2 _ _ _ (Z8W:ZTt) (h.4 _ _ (Af (bz f3 YXX).2) YXX:lt (dR p (YVp+n - 1 - Y9Q)) Y8y=false))))
    ·exact ZMt
   ·exact .step (fx.trans (congrArg Y55 Ylj)) Y3U rfl (ai _ _ _ ⟨Y1X,Y3G,qC,ZPp W (YJ Z8W),λi j ak av aP=>ZMt⟩ wR)
  |false=>
   have fx:=aC c
   cases d:ZTw with
   |true=>exact(λO bA=>bA p n q (fx.trans (congrArg Y55 (if_pos d))) h Yk Y3U rfl)
   |false=>
    refine .step (fx.trans (congrArg Y55 (if_neg (Dw d)))) Y3U rfl (ai _ _ _ ⟨Y1X,Nat.succ_lt_succ h.2,qC,ZPp W (YJ d),Zim⟩ wR);have ak:ZUy:=aj Z5Y (aX ZPB ak);by_cases ck:j<n
    ·exact h.5 i j ak av ck
    ·have fe:=JP ck aP;by_cases gD:i=j
     ·exact gD▸Y8g
     ·exact gT fe (W.2 _ Y8y _ (h.5 i Y9Q ak (fe▸JQ av gD) YXX) c)
theorem aiJ{lt:Y0y}{p:ZB}{n:Nat}(h:YQc)(hz:ZVk):nS lt YMF n:=λi j gK aM=>by
 have af:=YkI;rw[rG hz,rG hz,ZRW,ZRX];exact h _ _ Z7h Yvr
def Good(lt:Y0y)(nrem:Nat)(p:ZB)(r:Nat×ZB):Y1:=1≤r.1∧r.1≤nrem∧nS lt r.2 r.1∧r.2.Perm p∧r.2.size=p.size
variable{nrem:Nat}
theorem SF{lt:Y0y}(W:Y4L){p:ZB}{n:Nat}(h:YQc)(ak:YQK)(az:n≤nrem)(hz:YnS):Good lt nrem p (run lt (kas_tail3 n nrem p)):=by
 refine Yg1;have JR:=SE W YMF (nrem - n) n ak (aiJ h ZEu);exact⟨au ak JR.1,au JR.2.1 (dH YoX),JR.2.2.1,YNQ,Ypi⟩
theorem SG{lt:Y0y}(W:Y4L){p:ZB}{n:Nat}(h:Z3Z)(az:ZV1)(hz:YnS):Good lt nrem p (run lt (kas_descPart n nrem p)):=by
 refine Yg1;have cq:Bw lt p (n+1) 0:=⟨Y1X,Y3G,ZEu,h,λi j ak av aP=>by
  obtain rfl:=Yjq;exact Y8g⟩
 refine aiI W (nrem - (n+1)) p (n+1) 0 cq (aj YoX hz) _ λdV ey bS e d b pm ps=>?_;replace b:=bL YoX b;refine Y4n;dsimp only;by_cases aF:bS > 0
 ·refine bW Ylr ?_;obtain⟨g1,g2,g3,uS,uT⟩:=SF (nrem:=nrem) W (d.rev W).1 d.1 b (aL YXb ZBR);exact⟨g1,g2,g3,uS.trans ((tf _ _ _).trans pm),uT.trans ((uR _ _ _).trans ps)⟩
 ·refine bW Ylj ?_;obtain⟨g1,g2,g3,uS,uT⟩:=SF (nrem:=nrem) W d.4 d.1 b ZBR;exact⟨g1,g2,g3,uS.trans pm,uT.trans ps⟩
theorem aiK{lt:Y0y}(W:Y4L){p:ZB}(ak:1≤nrem)(hz:YnS):Good lt nrem p (run lt (kas_count nrem p)):=by
 refine Yg1;have bD:nS lt p 1:=λi j gK aM=>by
  obtain rfl:=Z7g;exact Y8g
 obtain⟨a,b,c,d⟩:=SE W p ZVf 1 YW bD;generalize run lt (kas_asc p ZVf 1)=n at *;revert n;refine Y17;intro n a b c d
 (replace b:=bL ZYW b;replace d:=bN ZYW d)
 by_cases e:(n==nrem)=true
 ·exact bW YLz Zn9
 ·refine bW YDQ ?_;have ne:n≠nrem:=λh=>e (beq_iff_eq.mpr h);have d:ZTv=true:=d.resolve_left ne;have nl:ZV1:=rb b ne;have zn:=au b hz;by_cases aC:n > 1
  ·refine bW ZRN ?_;show Good lt nrem p (run lt (if ZTx=true then YS (n,p)else ZSx))
   cases m2:ZTx with
   |true=>exact Zn9
   |false=>
    show Good lt nrem p (run lt ZSx);have al:∀i j,i<n→ZRz:=λi j af aM=>by
     exact W.2 _ Y8y _ (c j Y9Q (Af aM) (td aM):lt Y8y YTm=false) (W.2 _ (dR p 0) _ m2 (c 0 i Z0 af))
    have JS:Down lt YMF (n+1):=by
     refine Down.step W Zin YJb
     ·have af:=YkI;rw[YWo,YWo,ZRX,ZRW];exact al _ _ Yvr (bz Z0 aM).2
     ·have aE:=td a;rw[YWo,YWo,if_pos ⟨Z0,aE⟩,if_neg λz=>t9 _ z.2];exact W.2 _ Y8y _ Z8X (al _ _ (bz Z0 aE).2 aE)
    obtain⟨g1,g2,g3,uS,uT⟩:=SG (nrem:=nrem) W JS nl (aL YXb hz);exact⟨g1,g2,g3,uS.trans YNQ,uT.trans Ypi⟩
  ·refine bW ZRE ?_;obtain rfl:n=1:=mG (hq aC) a;have JS:Down lt p (1+1):=Down.step W (λi j gK aM=>by
    obtain rfl:=Z7g;exact Y8g) (YJ Z8X)
   exact SG W JS nl hz
theorem aiL{lt:Y0y}(W:Y4L)(p:ZB)(k:Nat)(u:YnK)(f l r:Nat)(ak:l≤r)(av:r≤k)(aP:r - l≤f)(a:Zls)(b:∀i,r≤i→Ylb):
   Yog≤k∧(∀i,i<Yog→ZTu)∧(∀i,Yog≤i→Ylb):=by
 induction f generalizing l r with
 |zero=>exact mG ak Z5h▸⟨ZEq,a,λi h=>b i (au Z5h h)⟩
 |succ f ai=>
  by_cases uU:l≥r
  ·have e:Yof=l:=(congrArg Y55 (if_pos uU):)
   rw[e];exact⟨ZEq,a,λi h=>b i (au uU h)⟩
  ·have M:=mid Z3Y
   cases c:lt (p.getD k 0) (p.getD Y9r 0)with
   |true=>
    have e:Yof=run lt (kas_place p k f l Y9r):=Yw1 Yw2;rw[e];refine ai l _ M.1 (au (h9 M.2) av) (hp (ew (Nat.sub_lt_sub_right M.1 M.2) aP)) a λi da fG=>?_
    cases q:YDe with
    |true=>rfl
    |false=>exact absurd (cA c (W.2 _ Y7g YGU (u Y9r i da fG) q)) vV
   |false=>
    have e:Yof=run lt (kas_place p k f (Y9r+1) r):=Yw1 Yvz;rw[e];exact ai _ r M.2 av (hp (ew (ayd Z3Y (x3 M.1)) aP)) (λi da=>W.2 _ (dR p Y9r) _ (u i Y9r (hp da) (ew M.2 av)) c) b
theorem SH{p:ZB}{l:Nat}(aR:ZSm)(aE:l≤k)(i:Nat):dR ZHO i=if i=l then YGU else if Yco then dR p (i - 1)else Y7g:=by
 (refine aj YNP (aT (getElem?_bubble aR _ Ye6 ..) ?_);refine aa (Nat.sub_sub_self aE) ?_)
 by_cases ak:i=l
 ·exact aL Yls (aT Yls YPI)
 ·refine aL Ylk (aT Ylk ?_);by_cases av:Yco
  ·exact aL Ylt (aT Ylt YPI)
  ·exact aL Yll (aT Yll YPI)
theorem aiM{lt:Y0y}(W:Y4L){p:ZB}{l:Nat}(SI:ZSm)(u:YnK)(a:l≤k)(b:Zls)(c:∀i,l≤i→Ylb):nS lt ZHO (k+1):=λi j gK aM=>by
 refine aX Z7i (aT Z7i ?_);by_cases e:i=j
 ·subst e;exact Y8g
 have E9:=rb gK e;have JT:=YlS;have jp:0<j→YDU<k:=λz=>ew (Nat.sub_lt z Nat.one_pos) JT;by_cases aJ:i=l
 ·have rH:l<j:=aJ▸E9;exact aX (if_pos aJ) (aT (if_neg (p8 rH)) (aT (if_pos ⟨rH,JT⟩) (W.1 _ _ (c YDU (Af rH) (jp (Ag rH))))))
 ·refine aX (if_neg aJ) ?_;by_cases aC:j=l
  ·have th:i<l:=aC▸E9;exact aT ZRN (aX (if_neg λz=>Nat.lt_asymm th z.1) (b i th))
  ·refine aT ZRE ?_;by_cases x:And (l<j) YmG
   ·refine aT (if_pos x) ?_;by_cases y:Yco
    ·exact aX (if_pos y) (u _ _ (Nat.sub_le_sub_right gK 1) ZSC)
    ·exact aX (if_neg y) (u _ _ (Af E9) ZSC)
   ·have Bx:j≤l:=hq λz=>x ⟨z,JT⟩;exact aT (if_neg x) (aX (if_neg λy=>t9 _ (ew (lD y.1 E9) Bx)) (u _ _ gK (ew (rb Bx aC) a)))
theorem aiN{lt:Y0y}(W:Y4L)(f:Nat)(p:ZB)(k:Nat)(u:YnK)(hz:k+f≤p.size):nS lt (run lt YVN) (k+f)∧(run lt YVN).Perm p∧(run lt YVN).size=p.size:=by
 induction f generalizing p k with
 |zero=>exact⟨u,Y3U,rfl⟩
 |succ f ai=>
  have e:run lt (kas_bin (f+1) p k)=run lt (kas_bin f (bubble p k (k - run lt (kas_place p k k 0 k))) (k+1)):=ZYj;rw[e];have z:=aiL W p k u k 0 k Z0 YW Ye6 (λi h=>YCe) (λi h h'=>absurd h' (ye h));have wR:k+1+f≤p.size:=Dp k f▸hz;have d:=ai _ (k+1) (aiM W ZEi u z.1 Z4 Z3) (by refine aL (bubble_size ..) ?_;exact wR);exact⟨Dp k f▸d.1,d.2.1.trans ZHP,d.2.2.trans (bubble_size _ _ _)⟩
theorem aiO{lt:Y0y}(W:Y4L){n:Nat}(ak:YQK):nS lt (run lt YVO) n∧(run lt YVO).toList.Perm Y6K∧(run lt YVO).size=n:=by
 unfold kas_sort;rw[run_bind];have hz:(bT Y6K).size=n:=Y6J
 obtain⟨a,b,c,d,e⟩:=aiK (nrem:=n) W (p:=Yha) ak (by refine aL hz ?_;exact YW);generalize run lt (kas_count n Yha)=r at *;obtain⟨m,p⟩:=r;dsimp only at *;by_cases fQ:m<n
 ·rw[ZRS];have az:m+ZUz=n:=rd b;refine aa ((N3 a:max m 1=m)) ?_;obtain⟨uV,i3,aiP⟩:=aiN W ZUz p m c (by refine aL e (aL hz (aj az ?_));exact YW);refine⟨by replace uV:=bL az uV;exact uV,?_,aiP.trans ZLj⟩;have:=(i3.trans d).toList
  simpa using this
 ·rw[ZRG];obtain rfl:m=n:=mG b ZQl;refine⟨c,?_,ZLj⟩;show p.toList.Perm _
  simpa using d.toList
def eF(v:V):Y3n:=V.rec (motive_1:=YYc) (motive_2:=YYb) Y1k Y0P (λi b=>b.mb false λj=>decide (i<j))
 (λn b=>b.onStr false λm=>decide Ytp) Y0P Y0P YYX ZjG (λa O x y l=>l.casesOn false λb r=>ZJm) v
def m3(vs:Y3):Y5L:=vs.rec ZjG λa O ai l=>l.casesOn false λb r=>cond Y1S Y6D YD1
def m4(v:V):Y3n:=V.rec (motive_1:=YYc) (motive_2:=YYb) Y1k Y0P Zgo Zgp Y0P Y0P YYX Y29
 (λa O x y l=>l.casesOn true λb r=>YAb&&ZJm) v
def mq(vs:Y3):Y5L:=vs.rec Y29 λa O ai l=>l.casesOn true λb r=>YAb&&cond Y1S Y6D YHN
theorem ti(vs ws:Y3):ZLy:=by
 suffices h:∀ws,ZLy from h ws
 induction vs with
 |nil=>exact Zm
 |cons a vs ai=>exact λws=>ws.casesOn rfl λb r=>congrArg (λz=>cond Y1S z YD1) Y6D
theorem uW(vs ws:Y3):ZUA:=by
 suffices h:∀ws,ZUA from h ws
 induction vs with
 |nil=>exact Zm
 |cons a vs ai=>exact λws=>ws.casesOn rfl λb r=>congrArg (λz=>YAb&&cond Y1S z YHN) Y6D
theorem rI(a b:V)(as bs:Y3):m3 Yfd ZFt=cond Y1S (m3 as bs) YD1:=rfl
theorem yZ(a b:V)(as bs:Y3):mq Yfd ZFt=(YAb&&cond Y1S (mq as bs) YHN):=rfl
theorem SJ(xs bf:Y3)(h:pre xs bf=true):m3 xs bf=ZL9:=by
 induction xs generalizing bf with
 |nil=>cases bf <;> rfl
 |cons x xs ai=>cases bf with
  |nil=>rfl
  |cons y bf=>
   exact dG h λbD bC=>aj YMw (dT bD (aj (cond_true ..) (aj (ai bf bC) (decide_eq_decide.mpr ayo.symm))))
theorem u8{m c:Nat}(h:ZA7):a+2*m<c:=fF (cx _ 20) h
theorem yJ{m c:Nat}(h:ZA6+20<c):a+1+2*m+20<c:=Zez
theorem Bc{m c:Nat}(h:ZA7):a<c:=DS (x:=0) h Z0
abbrev Fb(prog:Program)(w:World)(E:Y8)(v:V):Y1:=∀(u:V)(n m:Nat)(A:Around)(s:Shared)(x y:Value)(Q:Y8),Y7f→YTk→m4 v u=true→Z2Y→Y2k→Yfx→
  Q (YK (eF v u)) s→wpAny YR A ZYZ Q E s
abbrev Fc(prog:Program)(w:World)(E:Y8)(vs:Y3):Y1:=∀(us:Y3)(n m:Nat)(A:Around)(f:Z8U)(s:Shared)(xs bf:Yn)(Q:Z5n),
  (∀x y r(Q':Z46)s,wpAny YR A Yjr (λb s'=>if Y6F then YeZ else wpAny YR A ZYZ (λv Bp=>Q' (Y6w (some YPY,YZR)) Bp) E s') E s→ZdY)→
  YDh→Yn1→mq vs us=true→Z2Y→Y39→ZAe→
  ZWz→(ZWy→Q (some (Y6w (YS (YK (m3 vs us)))),YZR) s)→Zda
theorem aiQ{E:Y8}(vs:Y3)(ai:Z43):Fb prog w E ZZ:=by
 intro u n m A s x y Q d eJ c bj r bI h
 cases u with
 |tup us=>
  cases n with
  |zero=>exact YHT
  |succ n=>
  cases m with
  |zero=>exact YVv
  |succ m=>
  refine ZY8;have AD:=YM5;have wm:=YVA;refine YBC λDZ HU=>YL3 λadu wo=>ix q.1 (jg Y3D (wpAny_richCompare_same_room (op:=.Lt) AD wm F.slot_tuple_lt (wpAny_call_entry F.slot_tuple_lt AD F.entry_tuple_lt ?_ (F.args_tuple_lt_2 _ _)) (Bc bj)));show Zdq;refine ZGn;replace h:=bN YHz h;refine ai us n m _ _ _ _ _ _ Zkt YMS Ymx (uW vs us▸c) (yJ bj) Yq YAU YO8 YO8
  ·cases b with
   |true=>exact ZJN
   |false=>exact cb ZRM (bd (wpAny_rule (bd (wpAny_mono y (λv O z=>bd Ze2) Y3Q))))
  ·refine wpAny_pure ⟨_,rfl,YIi,?_⟩;show Q (YK (decide ((bT items).size<(bT HT).size))) s
   (refine aa Y0D (aa Y0D (aa YMp (aa YhZ (bN (SJ vs us aF) ?_)))))
   exact h
  ·exact wpAny_pure ⟨_,rfl,YIi,h⟩
 |_=>exact Y9R
theorem aiR{E:Y8}(v:V)(vs:Y3)(ak:Z42)(av:Z43):Fc prog w E Y0O:=by
 intro us n m A f s xs bf Q hf d eJ c bj r bI h h';refine ZYE
 cases us with
 |nil=>(refine ZCm);exact YqN
 |cons u us=>
  refine bI.un λmP AB bk jf kO=>Yj7;replace c:=Yg8;have c:=YTN
  (refine ZCr)
  refine bd (hf _ _ _ _ _ (yq u n m A s _ _ _ bD eg c.1 (u8 bj) a jf ?_));have ar:ZWx:=rfl
  (rw[ar]at h;rw[ar]at h')
  rw[rI]at h'
  cases q:YSb with
  |true=>(rw[q,xY]at h;rw[q,xY]at h');replace c:=YIM;exact aa Y0c (av us n m A f s _ _ Q hf bC d1 c.2 bj b kO h h')
  |false=>rw[q,NG]at h';replace c:=YIM;exact aa Y2s (ak u n m A s _ _ _ bD eg c.2 bj a jf Zdy)
theorem SK{E:Y8}{v:V}:Z42:=V.rec (motive_1:=Fb prog w E) (motive_2:=Fc prog w E) Zfz YIX
 (λi u n m A s x y Q d eJ c bj r bI h=>r.elim λt e=>by
  cases u with
  |int j=>exact bI.elim λdg bk=>aa e (bk▸lt_int h)
  |_=>exact Y9R)
 (λi u n m A s x y Q d eJ c bj r bI h=>r.elim λt e=>e.elim λz e=>by
  cases u with
  |str j=>
   refine bI.elim λdg bk=>bk.elim λk9 bk=>aa e.2 (bk.2▸PySem.P.lt_str ?_);have h:Q (YK ZL3) s:=h;rw[e.1,bk.1]at h;exact h
  |_=>exact Y9R)
 YIX YIX aiQ (λus n m A f s xs bf Q hf d eJ c bj r bI h h'=>ZI7) aiR v
theorem SM(a:V):ZM3:=V.rec (motive_1:=λa=>ZM3) (motive_2:=λa=>m3 a a=false) rfl Zm (λi=>decide_eq_false (Int.lt_irrefl i)) (λn=>decide_eq_false (List.lt_irrefl _)) Zm Zm
 (λvs ai=>(ti vs vs).trans ai) rfl (λa vs O h=>aj YMw (dT Y3r h)) a
theorem SN{b:V}{f:Int→Bool}{P:Y1}(h:b.mb false f=true)(k:∀j,b=YI j→Yk9):P:=by
 cases b with
 |int j=>exact YmI
 |_=>exact Y0L
theorem SO{b:V}{f:Z9}{P:Y1}(h:b.onStr false f=true)(k:∀j,b=YC9→Yk9):P:=by
 cases b with
 |str j=>exact YmI
 |_=>exact Y0L
theorem Fd{b:V}{f:Y5L}{P:Y1}(h:b.eM false f=true)(k:∀j,b=YD j→Yk9):P:=by
 cases b with
 |tup j=>exact YmI
 |_=>exact Y0L
theorem JU(a:V):ZlX:=V.rec (motive_1:=λa=>ZlX) (motive_2:=λa=>∀b c,ZU9→m3 b c=true→m3 a c=true)
 YIb YIa
 (λi b c h h'=>SN (b:=b) h λj e q=>SN (b:=c) (f:=λk=>decide (j<k)) ZHv λk bk bS=>by refine ZCR;exact decide_eq_true (Int.lt_trans YHV ZWC))
 (λi b c h h'=>SO (b:=b) h λj e q=>SO (b:=c) ZHv λk bk bS=>by refine ZCR;exact decide_eq_true (List.lt_trans YHV ZWC))
 YIa YIa
 (λvs ai b c h h'=>Fd (b:=b) h λws e q=>Fd (b:=c) (f:=λus=>eF Y8U (YD us)) (by replace h':=eT e h';cases c <;> exact h') λus bk bS=>by
  rw[e]at h
  (rw[ti]at h;replace bS:=aQ YHz bS)
  refine aX bk (aj YHz ?_);exact ai ws us h bS)
 (λb c h h'=>by
  cases b with
  |nil=>exact Y0L
  |cons y bf=>cases c with
   |nil=>exact nb h'
   |cons _ _=>rfl)
 (λx xs ak av b c h h'=>by
  cases b with
  |nil=>exact Y0L
  |cons y bf=>cases c with
   |nil=>exact nb h'
   |cons z zs=>
    (rw[rI]at h;replace h':=aQ YMw h';refine aj YMw ?_)
    cases aJ:YSc with
    |true=>
     rw[aJ]at h;rw[oo aJ]
     cases aC:b8 y z with
     |true=>rw[aC]at h';exact av bf zs h h'
     |false=>rw[aC]at h';exact h'
    |false=>
     rw[aJ]at h
     cases aC:b8 y z with
     |true=>rw[←oo aC,aJ];exact h
     |false=>
      rw[aC]at h';have t:=ak y z h h'
      cases c1:b8 x z with
      |true=>replace t:=aQ Z7j (eT (oo c1) t);exact nb t
      |false=>exact t) a
theorem aiS{n m:Nat}{s t:Str}(a:YBP)(b:YXW=YNJ)(h:s.cps.toList=t.cps.toList):n=m:=by
 refine AA a (b.trans ZJy);clear a b
 cases s;cases t
 exact congrArg Str.mk (HB h).symm
def strOk(v:V):Bool:=V.rec (motive_1:=Zgh) (motive_2:=Zgh) true Y29 Y29 (λn=>(tab n).isSome) Y29 Y29 (λO b=>b) true (λO O a b=>a&&b) v
def strsOk(vs:Y3):Bool:=vs.rec true λv O b=>strOk v&&b
theorem By(vs:Y3):strOk ZZ=strsOk vs:=by
 induction vs with
 |nil=>rfl
 |cons v vs ai=>exact congrArg (strOk v&&·) ai
theorem JV(a:V):Zlf:=V.rec (motive_1:=λa=>Zlf)
 (motive_2:=λa=>∀b,strsOk a=true→strsOk b=true→mq a b=true→a=b∨ZU9∨m3 b a=true)
 YIa YIY
 (λi b O O h=>YOW λj e=>by
  rw[e];rcases Int.lt_trichotomy i j with q | q | q
  ·exact Z0O
  ·exact YY ZJv
  ·exact YJ (YJ YjH))
 (λn b hs gB h=>YZs λm e=>by
  (rw[e]at gB;rw[e])
  obtain⟨s,es⟩:=OH hs;obtain⟨t,jy⟩:=OH (show(tab m).isSome=true from gB);by_cases q:Ytp
  ·exact Z0O
  ·by_cases bS:Ytn<Yto
   ·exact YJ (YJ (decide_eq_true bS))
   ·have aC:=List.le_antisymm (OI bS) (OI q);rw[es,jy]at aC;exact YY (congrArg V.str (aiS es jy aC)))
 YIY YIY
 (λvs ai b hs gB h=>Fd (b:=b) h λws e q=>by
  (rw[e]at h;rw[e]at gB;rw[e])
  refine sC YHz (OP YHz ?_);rw[uW]at h
  (rw[By]at hs;rw[By]at gB)
  exact(ai ws hs gB h).imp (congrArg V.tup) id)
 (λb O O h=>b.casesOn Zj λO O=>YbU)
 (λx xs ak av b hs gB h=>by
  cases b with
  |nil=>exact Z0S
  |cons y bf=>
   rw[yZ]at h;have h:=Y1q;refine dG hs λbD bC=>dG gB ZiG;rw[rI,rI,O8 y x]
   cases e:YSc with
   |true=>
    rw[e]at h;refine gz (oo e) ?_;exact(av bf bC d1 h.2).imp (congrArg (y::·)) id
   |false=>
    rw[e]at h;refine(ak y bD eg h.2).elim YBa YJ;replace e:=aQ Y3r (eT q e);exact YMc) a
theorem JW{a b:V}(h:YjT):YTx:=by
 cases q:YjU with
 |false=>rfl
 |true=>have t:=JU _ _ _ h q;replace t:=aQ Z7j t;exact nb t
abbrev m5(l:Y3):Y1:=hR (∀a∈l,∀b∈l,Ymu) (∀a∈l,YpT)
abbrev j9(l:Y3):Y1:=l.Pairwise Zh6
theorem aiT{l:Y3}{a b c:V}(C:m5 l)(aD:a∈l)(ah:b∈l)(ao:c∈l)(h:YTx)(h':eF c b=false):eF c a=false:=by
 rcases JV a b (C.2 a aD) Ycy (C.1 a aD b ah)with e | e | e
 ·exact aa e h'
 ·rcases JV b c Ycy (C.2 c ao) (C.1 b ah c ao)with bk | bk | bk
  ·exact aV bk h
  ·exact JW (JU _ _ _ e bk)
  ·replace bk:=aQ h' bk;exact nb bk
 ·replace e:=aQ h e;exact YMc
theorem JX{l l':Y3}(C:m5 l)(p:Ymc)(bI:j9 l')(r:j9 l):l'=l:=
 List.Perm.eq_of_pairwise (le:=Zh6) (λa b aD ah ak av=>by
  rcases JV a b (C.2 a ZWW) Ycy (C.1 a ZWW b ah)with e | e | e
  ·exact e
  ·replace e:=aQ av e;exact YMc
  ·replace e:=aQ ak e;exact YMc) bI r p
def kU(n:Nat)(t:YK9)(R:YIU):Y1:=KasT.rec (motive:=λO=>Y1) (λa=>R a) (λi j O ai=>i<n∧j<n∧∀b,YSN) t
theorem kU.bind{n:Nat}{f:Zfs}{R:β→Y1}{t:YK9}{S:YIU}(h:kU n t S)(k:∀a,S a→kU n (f a) R):kU n Zb7 R:=by
 induction t with
 |ret a=>exact k a h
 |ask i j q ai=>exact⟨h.1,YGr,λb=>ai b (Y9B b)⟩
def m6(n:Nat)(p:ZB):Y1:=∀k,YGU<n
theorem m6.of{n:Nat}{p dV:ZB}(h:YAy)(az:0<n)(pm:ZKp):m6 n dV:=λk=>by
 refine ZE9
 cases e:dV[k]? with
 |none=>exact az
 |some x=>
  refine(Array.mem_iff_getElem?.mp (pm.mem_iff.mp (Array.mem_of_getElem? e))).elim Zj7;have q:=h j;replace q:=eT aM (aQ YNP q);exact q
theorem SP{n:Nat}{p:ZB}(r:YAy)(f:Nat):∀k,kU n (kas_asc p f k) Y5n:=by
 induction f with
 |zero=>exact λk=>trivial
 |succ f ai=>exact λk=>⟨r _,r _,λb=>by cases b <;> first |exact trivial |exact ai (k+1)⟩
theorem aiU{n:Nat}(az:0<n)(f:Nat):∀(p:ZB)k q,YAy→kU n (kas_desc f p k q) λx=>m6 n x.1:=by
 induction f with
 |zero=>exact λp k q r=>r
 |succ f ai=>exact λp k q r=>⟨r _,r _,λb=>by
   cases b with
   |true=>
    show kU n (if YWd then _ else _) _;by_cases aF:YWd
    ·exact aj Ylr (ai _ _ _ YWl)
    ·exact aj Ylj ZDi
   |false=>
    exact⟨r _,r _,λb=>by
     cases b with
     |true=>exact r
     |false=>exact ZDi⟩⟩
theorem SQ{n:Nat}(az:0<n){m:Nat}{p:ZB}(r:YAy):kU n (kas_tail3 k m p) YsV:=
 kU.bind (SP YWl _ _) λO O=>YWl
theorem SR{n:Nat}(az:0<n){m:Nat}{p:ZB}(r:YAy):kU n (kas_descPart k m p) YsV:=
 kU.bind (aiU az _ _ _ _ r) λx aq=>by
  by_cases q:ZJ > 0
  ·exact aj ZU (SQ az (aq.of az YNQ))
  ·exact aj ZN (SQ az aq)
theorem aiV{n:Nat}(az:0<n){m:Nat}{p:ZB}(r:YAy):kU n (kas_count m p) YsV:=
 kU.bind (SP r _ _) λk O=>by
  by_cases q:(k==m)=true
  ·exact aj ZU r
  ·refine Ygu;by_cases q:k > 1
   ·refine ZE7;exact⟨r _,r _,λb=>by
     cases b with
     |true=>exact r
     |false=>exact SR az YWl⟩
   ·exact aj ZN (SR az r)
theorem aiW{n:Nat}{p:ZB}(r:YAy)(f:Nat):∀a b,kU n (kas_place p k f a b) Y5n:=by
 induction f with
 |zero=>exact λa b=>trivial
 |succ f ai=>
  intro a b;by_cases q:a≥b
  ·refine ZE7;trivial
  ·exact aj ZN (⟨r _,r _,λc=>by cases c <;> exact ai _ _⟩)
theorem aiX{n:Nat}(az:0<n)(f:Nat):∀(p:ZB)k,YAy→kU n YVN Y5n:=by
 induction f with
 |zero=>exact λp k r=>trivial
 |succ f ai=>exact λp k r=>kU.bind (aiW r _ _ _) λl O=>ai _ _ (r.of az ZHP)
theorem aiY{n:Nat}(az:0<n):kU n YVO Y5n:=by
 have r:m6 n Yha:=λk=>by
  refine aj YNP (aT (q8) ?_);by_cases h:k<n
  ·refine aT YMs ?_;exact h
  ·refine aT ZWb ?_;exact az
 refine kU.bind (aiV az r) YOH;by_cases q:x.1<n
 ·exact aj ZU (aiX az _ _ _ aq)
 ·refine Ygu;trivial
theorem aiZ{n:Nat}{cmp:Nat→Nat→Y1n→YP}{lt:Y0y}(h:∀i j C,i<n→j<n→C YVb s→cmp i j C s){Q:Y9e}{R:YIU}(t:YK9)(a:kU n t R)(q:Q ZYi s):t.kasWp cmp Q s:=by
 induction t with
 |ret a=>exact q
 |ask i j k ai=>exact h i j _ a.1 a.2.1 (ai YVb (a.2.2 _) q)
abbrev y0(vs:Y3):Y1:=jd (vs.length<64) YVf (∀a∈vs,ZKd)
theorem ET{c:Nat}(h:a+50<c):a+2*8<c:=Nat.lt_of_le_of_lt (c0 (Y2:16≤50) a) h
theorem EU{c:Nat}(h:a+50<c):a+2*8+20<c:=Nat.lt_of_le_of_lt (c0 (Y2:36≤50) a) h
theorem ai0{b fin:Bool}{Q:Y1n}(bj:YQR)(ms:Y3):∀(jQ:Y3)(xs bf:Yn)(i:Nat),i≠0→md ms 8=true→md jQ 8=true→mq ms jQ=true→ZAg→a9 s.heap bf jQ→
  (Yo6=true→Q fin s)→(Yo6=false→Z6n)→KatLex prog w A b fin Q Yqj i s:=by
 induction ms with
 |nil=>intro jQ xs bf i af d eJ c r bI h _;exact jL r.jh ZSy
 |cons m ms ai=>
  intro jQ xs bf i af d eJ c r bI h h';refine r.un λv vs e b6 dv=>?_
  cases jQ with
  |nil=>exact mK bI.jh (d9 NH ZSy)
  |cons ab jQ=>
   refine ZG5;replace c:=Yg8;have c:=YTN;refine ZS6;have ar:pre Y9L YKn=(YhG&&Yo6):=rfl
   (rw[ar]at h;rw[ar]at h')
   rw[rI]at h'
   cases q:YhG with
   |true=>
    (rw[q,xY]at h;rw[q,xY]at h')
    replace c:=YIM;exact kat_yes (ai jQ vs fX (i+1) (k5 i) bC d1 c.2 dv JY h h')
   |false=>
    rw[q,NG]at h';replace c:=YIM;refine ZSz;have ai1:(b&&i==0)=false:=aX (beq_false_of_ne af) (YgW);exact iy ai1 (kat_one _ _ (SK ab 8 8 _ _ _ _ _ bD eg c.2 Z3h b6 tj ZPh))
def uX(v:V):String:=v.casesOn "tuple" YYa (λO=>"int") (λO=>"str") YYa YYa YYa
theorem SS{v:Value}{m:V}(d:dI m 8=true)(r:Y3X):Looks M s.heap (typeOf v) (YE (uX m)):=by
 cases m with
 |int i=>exact r.elim λt e=>aa e (λA Q E s k h=>wpAny_typeOf (T:="int") (typeIs_int s i t) h)
 |str i=>exact r.elim λt e=>e.elim λz e=>aa e.2 (λA Q E s k h=>wpAny_typeOf (T:="str") Zbb h)
 |tup ms=>exact r.gj.elim λa q=>q.elim λxs q=>YBC λn ak=>aa q.1 (λA Q E s k h=>wpAny_typeOf (T:="tuple") ⟨_,k _ _ ak,rfl⟩ h)
 |_=>exact YHT
theorem SU{v ov:Value}{m ab:V}{Q:Y1n}(bq:ZmH)(c:m4 m ab=true)(b6:Y3X)(tj:aK s.heap ov ab)(h:Q (eF m ab) s):wpAny YR A (oneLt' true v ov) Q Y28 s:=by
 cases m with
 |int i=>refine(V.jM c).elim Zj9;subst e;exact b6.elim λt e=>tj.elim λdg bk=>aa e (bk▸oneLt_int h)
 |str i=>
  refine(V.kr c).elim Zj9;subst e;refine b6.elim λt e=>e.elim λz e=>tj.elim λdg bk=>bk.elim λk9 bk=>aa e.2 (bk.2▸oneLt_str ?_);have h:Q ZL3 s:=h;rw[e.1,bk.1]at h;exact h
 |tup x=>exact absurd rfl (bq x)
 |_=>exact Y9R
theorem ai2{b:Bool}{Q:Y1n}(bj:YQR){m ab:V}{jQ:Y3}(d:md Y9L 8=true)(eJ:md YKn 8=true)(c:mq Y9L YKn=true)(ah:Y6F→ZmH)(r:a9 s.heap xs Y9L)(bI:a9 s.heap bf YKn)(h:Q (m3 Y9L YKn) s):KatLex prog w A b ZL9 Q Yqj 0 s:=by
 refine aa r.length (aa bI.length (r.un λv vs e b6 dv=>ZG5));replace c:=Yg8;replace h:=aQ YMw h;have c:=YTN;refine ZS6
 cases q:YhG with
 |true=>
  (replace c:=YIM;replace h:=YGn)
  refine kat_yes (ai0 bj ms jQ vs fX 1 Nat.one_ne_zero bC d1 c.2 dv JY (λar=>?_) λar=>h);have h:Z6n:=h;replace h:=aQ (SJ ms jQ ar) h;exact(decide_eq_decide.mpr ayo:decide (ms.length+1<jQ.length+1)=_)▸h
 |false=>
  (replace c:=YIM;replace h:=YGn)
  refine ZSz;show wpAny _ _ (oneLt' (b&&true) v ov) _ _ _;refine iy Z2x ?_
  cases b with
  |false=>exact kat_one _ _ (SK ab 8 8 _ _ _ _ _ bD eg c.2 Z3h b6 tj h)
  |true=>exact SU (ah rfl) c.2 b6 tj h
theorem Bz(r:Y39){v:V}(af:YIC):aK s.heap Zeh v:=by
 refine(r.get af).elim λx q=>aj (ho) (dS q.1 ?_);exact q.2
theorem ai3{a b:V}(h:ZJl):uX a=uX b:=by
 cases a with
 |int i=>exact YOW Ys1
 |str i=>exact YZs Ys1
 |tup i=>exact YOX λj e=>ZCu
 |_=>exact Y0L
theorem ai4{xs:Yn}(hd:∀a∈vs,ZmY)(r:Y39):∃fs:Yn,KatTups s.heap xs fs∧fs.length=vs.length∧∀f∈fs,∃x r,Z8L∧aK s.heap f x:=by
 induction vs generalizing xs with
 |nil=>exact aa r.jh (⟨[],KatTups.nil,rfl,λf hf=>absurd hf cS⟩)
 |cons v vs ai=>
  refine r.un λy bf e b6 dv=>(ai (λa aD=>hd a ZMD) dv).elim λfs q=>(hd v b3).elim λx z=>z.elim λuQ ev=>?_;clear hd r;subst ev;refine b6.gj.elim λa w=>w.elim λitems w=>YqG λn aA=>w.2.2.un λz zs qA Fe O=>?_;replace aA:=HG qA aA;refine aa e (aa w.1 (⟨z::fs,KatTups.cons aA rfl rfl rfl q.1,congrArg Y3l YG,λf yF=>?_⟩));rcases dz yF with e | yF
  ·exact⟨x,uQ,b3,aa e Fe⟩
  ·exact(Yq f yF).imp λfY h=>h.imp λbI h=>⟨eI _ h.1,h.2⟩
theorem ai5{a b:V}{l:Y3}(h:Ymu)(e:a=YcY):∃m,b=YD m:=by subst e;exact Fd (b:=b) h λws e O=>⟨ws,e⟩
theorem SV{n:Nat}(h:Ycf):∃v r,vs=v::r:=by cases vs with
 |nil=>exact absurd h YC
 |cons a l=>exact⟨a,l,rfl⟩
theorem ai6{E:Y8}(bj:YQR)(av:Ycf)(d5:YNp)(r:Y39):
  ∃cN,ZlN∧
   Zln:=by
 have hlen:=r.length;have mem:∀{i:Nat}{a:V},YIB=Y0l→a∈vs:=λh=>YUF;have mQ:2≤xs.length:=aa hlen av;have flat:∀T,T≠"tuple"→(∀a∈vs,uX a=T)→(∀a∈vs,∀x,a≠YD x)→∃cN,ZlN∧
   Zln:=by
  intro T dJ aD ai7;refine⟨oneType',λQ aF=>kas_kind (T:=Y66) mQ Y89 (bne_iff_ne.mpr λe=>dJ (t8 e)) YSr aF,Zil⟩
  ·refine(pe aO).elim YER;have aE:Y7n:=aV hlen ((jJ af).elim Y6i);have e:=dy aE;exact(r.get e).elim λy q=>bN (c4 q.1 af) (fU (aD _ ZUT) (SS (d5.3 _ ZUT).1 q.2))
  ·exact cb (keyLt'_oneType ..) (SU (ai7 a Yn3) (Yj4 _ Yn3 _ ZUS) (Bz r af) (Bz r aM) ao)
 refine Yup λv0 z=>z.elim λrest ev=>?_;have m0:Yq6:=ZCv;have qD:=λa aD=>Yj4 v0 m0 a aD
 cases v0 with
 |int x=>exact flat "int" YC (λa aD=>Yut Ys1) λa aD y e=>Yut Zj8
 |str x=>exact flat "str" YC (λa aD=>Yuu λj e=>YCd) λa aD y e=>Yuu Zj8
 |tup t0=>
  have hd:∀a∈vs,ZmY:=λa aD=>(ai5 YMt rfl).elim λl e=>by
   cases l with
   |nil=>exact absurd e (d5.3 a aD).2
   |cons x r=>exact⟨x,r,e⟩
  refine(hd _ m0).elim λx0 z=>z.elim λll fx=>?_;have same:∀x r,Z8L→dI x 8=true∧Ypj=uX x:=λx r aq=>by
   have ak:=qD _ aq;replace ak:=aQ Zey (aQ Zbi (eT fx ak));have aP:=(d5.3 _ aq).1;replace aP:=aQ Ymw aP;exact⟨D0 _ _ (cL aP).1,ai3 (cL ak).1⟩
  refine(ai4 hd r).elim λfs q=>⟨tuples' (v8 Ypj !=Zcp),λQ aF=>kat_kind (T:=YE Ypj) q.1 (aL YG ZNT) Y89 YSr aF,Zil⟩
  ·refine(Yq v aO).elim λx z=>z.elim λbI z=>?_;have h:=same x bI z.1;exact bW h.2 (SS h.1 z.2)
  ·have wU:=Yn3;have JZ:=ZUS;refine(hd _ wU).elim λx z=>z.elim λbg ig=>(hd _ JZ).elim λy z=>z.elim λgA fe=>?_;subst ig fe;refine(Bz r af).gj.elim λp w=>w.elim λit w=>(Bz r aM).gj.elim λdV uY=>uY.elim λuM uY=>YqG λn aA=>uY.2.1.elim λey m7=>ix w.1 (jg uY.1 ?_);have ci:=Yj4 _ wU _ JZ;refine kat_lt aA rfl m7 rfl (aa Y0D ZCa);replace ci:=aQ Zbi ci;replace ao:=aQ YHz ao;refine ai2 bj (mO _ 8▸D0 _ _ ((d5.3 _ wU).1)) (mO _ 8▸D0 _ _ ((d5.3 _ JZ).1)) ci (λah z qA=>?_) Y3M uY.2.2 ao;have:=(same _ _ wU).2
   (replace ah:=Au this ah;rw[qA]at ah)
   exact absurd rfl (bne_iff_ne.mp ah)
 |_=>exact vV (qD _ m0)
theorem a9.map{f:Zfv}{k:Y6h}(bJ:∀i∈l,aK h (f i) (k i)):a9 h Ymg (l.map k):=by
 induction l with
 |nil=>exact a9.nil
 |cons i l ai=>exact a9.cons (bJ i b3) (ai λj aM=>bJ j ZME)
theorem ai8(vs:Y3)(v0:V):YaE Yrx=vs:=by
 refine Hi YSP λi ak av=>aj YBV (gT YK6 (aT ZLY ?_));rfl
theorem ai9{v0:V}(C:YVf)(h0:Yq6):lO YYn:=by
 have mem:∀i:Nat,YJR∈vs:=λi=>by
  cases e:YIB with
  |none=>exact h0
  |some x=>exact et e
 exact⟨λx y h=>JW h,λx y z h h'=>aiT C (mem x) (mem y) (mem z) h h'⟩
theorem aja(h:vs.length<2):j9 vs:=by
 cases vs with
 |nil=>exact Hk
 |cons x l=>cases l with
  |nil=>exact YRB
  |cons y l=>exact absurd h (ye (fp 2 l.length))
theorem BA{n:Nat}(h:n<64):ZVl:=fZ (au YUq Y2)
theorem SW{p:ZB}(h:i<p.toList.length):ZKh:=(sq ..).trans (by refine eT (l9) (aT YTu ?_);rfl)
theorem ajb{E:Y8}{P:Z6Y}{n:Nat}(bj:YQR)(aA:Y0u=some ZSA)(r:Y39)(d5:YNp)(h:∀h' bf fX,(∀b o,Y5W→YBG)→(∃e,Y6O=some (jZ bf e))→ZAb→YkN→j9 fX→P YJZ Yx):
  wpAny YR A (Builtin.«list.sort» ⟨Y8j,[]⟩) P E s:=by
 have hlen:=r.length;have BB:xs.length<64:=aa hlen d5.1;obtain⟨aJ,y1⟩:∃aJ,(s.heap.update a Ymi).get? a=ZaM:=⟨_,get?_update_seq aA λO=>#[]⟩
 have Ff:∀b o,Y5W→Y9X→YtS b=YB:=λb o ah e=>
  eu _ (eu _ (((km s.heap a Ymi).2 b ah).trans e))
 have uZ:YtS a=ZaM:=eu _ (eu _ y1);have J0:eU s.heap YZZ:=λb o e t=>Ff b o (λcM=>Az xs n (c4 aA (cM▸e)▸t)) e;refine cb (list_sort_plain ..) (bd (listItems_at aA rfl (bd (listUpdate_at aA rfl (bd (seqEpoch_at y1 rfl (bd (wpAny_newTuple (bd (wpAny_newList YXr Z0)) YQV)))) (aj Y0D YQV) Z0))));show wpAny YR A _ P E {s with heap:=YZZ};generalize SX:YZZ=H at Ff uZ J0 ⊢;revert H;refine Y17;intro H SX Ff uZ J0;clear SX;have fin:∀(bf:Yn)(fX:Y3),a9 H bf fX→YkN→j9 fX→P YJZ {s with heap:=H.update a ZTa}:=λbf fX gA pm mc=>by
  have s2:=km H a ZTa;exact h _ bf fX (λb o ah e=>(YDz b ah).trans (Ff b o ah e)) ⟨_,get?_update_seq uZ Zgr⟩ (gA.keep λb o e t=>(YDz b (λcM=>Az [] aJ (c4 uZ (aV cM e)▸t))).trans e) pm mc
 have b6:a9 H xs vs:=r.keep J0;by_cases qE:xs.toArray.size<2
 ·(refine cb ZRV (aa ZRV ?_))
  replace qE:=aQ Y0D qE;refine bd (wpAny_pure YGC);dsimp only;have J1:(arrOf (SortSt.mk' general' Zej #[] 7 none)).map Y1w=xs.toArray:=by
   show(xs.toArray.zip xs.toArray).map Y1w=xs.toArray;apply HB;simp[List.map_snd_zip]
  exact aa J1 (bd (seqEpoch_at uZ rfl (bd (listUpdate_at uZ rfl (cb ZRD (wpAny_pure (fin xs vs b6 Y3U (aja (aV hlen qE))))) Z0 (aj Y0D ZTD)))))
 ·(refine cb ZRJ (aa ZRJ ?_))
  replace qE:=um Y0D qE;have av:Ycf:=aV hlen ZQm;have qw:0<xs.length:=aa hlen ZNT;refine(ai6 (s:=YNw) (prog:=prog) (w:=w) (E:=E) bj av d5 b6).elim λcN aR=>bd (aR.1 _ (Yup λv0 z=>z.elim λO ev=>?_));obtain⟨bD,bC,d4⟩:=aiO (ai9 d5.2 (ZCv:Yq6)) (n:=xs.length) qw;have ask:(kas_sort xs.length).kasWp (kas_ask prog w A cN xs) (λp s'=>ZWd) YNw:=by
   refine aiZ (lt:=YYn) (n:=xs.length) (λi j C af aM ao=>?_) _ (aiY qw) Zn;have ig:=dy (aV hlen af:Y7n);have fe:=dy (aV hlen aM:j<vs.length);replace ao:=yj fe (OR ig ao);exact aR.2 i j _ _ C ig fe ao
  refine bd (wpAny_mono (kat_run (Q:=λsM s'=>∃p:ZB,arrOf sM=p.map (kas_item Zej)∧failedOf sM=none∧ZWd)
   rfl ZQm BB (λdV sM s' a1 a2 dB eb=>⟨dV,a2,dB,eb.1,eb.2⟩) ask) ?_ YEM)
  intro x s' aq;obtain⟨⟨⟩,sM⟩:=x;obtain⟨p,BC,hf,ar,es⟩:=aq;subst es;dsimp only
  (replace bD:=aj ar bD;replace bC:=aX ar bC;replace d4:=aX ar d4)
  refine aa ((kat_snds rfl BC)) (bd (seqEpoch_at uZ rfl (bd (listUpdate_at uZ rfl (iy hf (cb ZRD (wpAny_pure (fin _ (p.toList.map Yrx) (a9.map YER) ?_ ?_)))) Z0 (aj Y0D (aj YF (aj iv (aj d4 ZTD))))))))
  ·have:=bC.mem_iff.mp af;replace this:=bL hlen (Dq G5 this);have ig:=dy this;exact dS ig (Bz (s:=YNw) b6 ig)
  ·have:=bC.map Yrx;replace this:=bL (ai8 ..) (DE hlen this);exact this
  ·refine xZ G7 Zed;intro i j af aM gK;have ak:=bD i j (h9 gK) (by replace aM:=bL iv aM;exact aV d4 aM);have aJ:ZKh:=SW af;have aC:YTm=p.toList[j]:=SW aM;rw[aJ,aC]at ak;exact ak
theorem ajc{E:Y8}{xs:Z8}{Q:Y8}(hd:YwA)(aA:Y9Y)(dp:Q Y2B {s with heap:=s.heap.push {cls:=YE "dict_keyiterator",data:=ZY #[Y33,YBx,Z0Y,Z0X]}}):wpAny YR A (pyIter Y33) Q E s:=by
 have dJ:s.TypeIs Y33 "dict":=Y9j
 refine wpAny_pyIter_slot dJ F.slot_dict_iter (wpAny_call_entry F.slot_dict_iter dJ F.entry_dict_iter (bd (bd (wpAny_notOrdered_dict dJ Zl))) (F.args_dict_iter_1 _));show wpAny _ _ (Builtin.Dict.showsAll d >>= _) _ _ s;refine ix (if_neg (dS hd h8)) (bd (wpAny_pure (bd (wpAny_dictEntries aA rfl (bd (wpAny_dictEpoch aA rfl (bd (wpAny_newObj_type (wpAny_pure ⟨_,rfl,"dict_keyiterator",_,Yt4,ab8.lookup,?_⟩)))))))));have e:(rawInt Y2N)=Z0Y:=congrArg (λn:Nat=>Value.int Y0q 0) (AF xs);exact aa e.symm dp
theorem SY{E:Y8}{xs:Z8}{Q:Y5M}(hit:s.heap.IsKeyIter it d i xs.length ep)(aA:Y9Y){e:Z5m}(he:YEa=e)(h0:e=none→Zf∧Ysl)(ak:∀x,e=YQ→∀h',h'.IsKeyIter it d (i+1) xs.length ep→YMP→Q (some x.key) Yx):YNe:=by
 obtain⟨o,Fg,ao,hd⟩:=Ylf;refine bd (wpAny_attempt (wpAny_callSpecial?_slot (name:=YD3) hit.typeIs ab8
  (wpAny_call_entry ab8 hit.typeIs F.entry_dict_keyiterator_next ?_ (F.args_dict_keyiterator_next_1 _))))
 refine bd (wpAny_pure (bd Y6H))
 first | refine Yhk | refine Yhl
 refine bd (wpAny_fieldsOf Fg hd ?_);have ajd:Builtin.Dict_items.ownsTuple "dict_keyiterator"=false:=YC
 refine aa ajd ?_;show wpAny _ _ (if YxV then _ else _) _ _ s;refine cb (if_neg (show¬YxV from h8)) (bd (wpAny_pure (bd (wpAny_dictEntries aA rfl (cb Ylh (bd (wpAny_pure (bd (wpAny_dictEpoch aA rfl (cb Ylh Zl))))))))));dsimp only;refine iy he ?_
 cases e with
 |some x=>
  refine Y6H
  first | refine Yhk | refine Yhl
  refine bd (wpAny_isOneOf_keyiter hit.typeIs ?_);show wpAny _ _ (setField Y44 1 ZYS >>= _) _ _ s;refine bd (wpAny_setField Fg hd (show 1<4 by exact Y2) ?_);have ji:(ZZ7).IsKeyIter it d (i+1) xs.length ep:=
   ⟨_,q7 _ Fg ZFN,Yuj,by rw[NQ hd];rfl⟩
  refine bd (wpAny_holding (bd (wpAny_isOneOf_keyiter (s:={s with heap:=ZZ7}) ji.typeIs ?_)));show wpAny _ _ (pure x.key) _ _ _;exact wpAny_pure (wpAny_pure ⟨_,rfl,wpAny_pure (ak x rfl _ ji YMI)⟩)
 |none=>
  have S0:=h0 rfl;refine Y6H
  first | refine Yhk | refine Yhl
  show wpAny _ _ (setField Y44 0 Y7 >>= _) _ _ s;exact bd (wpAny_setField Fg hd (show 0<4 by exact Y2) (Ih (A:=A.in1) S0.1 λh' e k z=>bd (wpAny_isInstance (T:="StopIteration") (b:=true) z isSubtype_stop (wpAny_pure (S0.2 _ ZSR)))))
theorem aje{xs:Z8}(bJ:Zf)(I:Nat)(iA:d≠I):Walks prog w A I [I,d] [I] xs.length Zit (λi h=>h.IsKeyIter I d i xs.length ep∧YUl) where
 sub:=λb ah=>aL YCp b3
 frame:=λO O O st aR=>⟨YpQ λo e=>aR I b3 o e,aR d YGZ _ Zb⟩
 item:=λi s Q E af st dp=>by
  refine SY Y0f Zb (Eb Y2o) (λe=>cW e) λx e h' ji gB=>?_;exact dp _ h' s.toks ⟨_,aV e Y2o,rfl⟩ ⟨ji,gB.extBut _ _ iA Zb⟩ λb o ah e=>gB.extBut b o ZiW e
 done:=λs Q E st dp=>SY Y0f Zb (q8.trans Ynv) (λO=>⟨bJ,λh' rJ=>dp h' s.toks λb o ah e=>rJ b o ZiW e⟩) λx e=>Y4t
 self:=λO O O O st dp=>wpAny_pyIter_keyiter Y0f dp
theorem ajf{xs:Z8}(lo:YwA):KdlSrc prog w "dict" d d xs.length Zit (λh=>YUl) where
 type:=λO hm=>Zn5
 there:=λO hm=>⟨YkG,YkG⟩
 keep:=λO O hm aR=>aR d Zj _ hm
 notList:=YC
 notTuple:=YC
 hint:=λO O O O hm aF=>kdl_hint_dict Zn5 aF
 iter:=λO O bJ hm=>⟨_,_,(λO O aF=>ajc lo hm aF),aje bJ _ (ej YkG),⟨Y6k,eu _ hm⟩⟩
abbrev J2(x:Value):Y1:=∀{M:Model}{A:Around}{E:Y8}{s:Shared}{P:Y8}{pos:Pos}{l:Ydk},ZTP→wpAny M A (evalArgs x true l []) (λa s1=>wpAny M A (call x ([]++a.pos) a.kw) P E s1) E s→wpAny M A (callWith pos x [] l []) P E s
theorem Fh(n:String):J2 (ZK n):=λh w=>callWith_builtin h w
theorem y2(n:String):J2 Ycc:=λh w=>ayc h w
abbrev oK(nm:String)(x:Value):Y1:=hr YnP (Yhr=YQ) Yju (J2 x)
abbrev S1:=V→YCh
theorem ajg{c:bP}{nm:String}(B:Yne){n:Str}{p:Pos}{es:Ye}{R:Ys}(K:ZG)(L:ZI)(aq:n=Y3b)(hs:Y5e)(aR:YGG)(hd:Y5u)(h:gH g k env c.ns r es mh R)(go:∀{A:Around}{s:Shared}{m:ag}{vs:Y3}{xs:Yn},Z5→Y4l→Y39→R vs m→fW g A cX s m (call x xs) Zh):Z3j:=λA s aG ae aN=>by
 subst aq;exact wpAny_Call_NameR (AR K.1 ae aN YMz hd B.1 B.2 B.3 (ix YDk (B.4 YAR (uH lh (YPD λxs s1 z=>z.elim λm1 z=>Y0g λvs y=>nE z.2 (go aG z.1 y.1 y.2))))))
abbrev u0(x:Value)(P:S1):Y1:=∀{g:G}{H:ih}{k:Nat}{A:Around}{s:Shared}{mh:ag}{v:Value}{a:V}{Q:Yj},ZG→Z5→YU→aK s.heap v a→P a mh Q→fW g A cX s mh (call x [v]) Zh
def qF{nm:String}(B:Yne)(P:S1)(ok:u0 x P):dj:=lL ⟨λO c e=>pE Zet (λy=>decide (Y1v=Y3b)) λy=>Zi,λO vs m Q=>one vs False λa=>P a m Q⟩ Zif
 λ{g H k env c r mh e es Q}K L hm h=>j8 hm λy ao he=>y.2.1.elim λp z=>z.elim λpos z=>by
  exact aT z (ajg B K L Ynk YNo.1 YNo.2.1 YNo.2.2 ZCz λaG ae bg q=>rr q λa e q=>YaM λx w=>aV YID (ok K aG ae w.2 q))
def Fi(a:V)(m:ag)(Q:Y7D):Y1:=a.casesOn False Y3x Y3x Y3x (λp=>AU m p λO O vs=>YFV) Y3x Zki
theorem S2{a:V}{Q:Y7D}{P:Y1}(h:Fi a mh Q)(dC:∀vs,a=ZZ→YFV→P)(du:∀p t vs,a=Y0V→mh p=Y1h→YFV→P):P:=by
 cases a with
 |ref p=>exact AU.casesOn h λt vs h q=>du p t vs rfl h q
 |tup vs=>exact dC vs rfl h
 |_=>exact h.elim
theorem S3:oK "len" (ZK "len"):=YZF
theorem ajh:oK "tuple" Y2h:=YIl
theorem aji:oK "list" Y4c:=YIl
theorem ajj:oK "sum" Z06:=YZF
theorem ajk:oK "max" Z04:=YZF
theorem ajl:oK "int" (YE "int"):=YIl
theorem ajm:oK "range" YQE:=YIl
theorem y3:oK "sorted" YJY:=YZF
theorem Fj:oK "set" YCD:=YIl
theorem S4:oK "dict" YA7:=YIl
theorem S5(r:Y0z)(hz:Y2Z):YtU<YQM:=by rw[eN,r.length];exact fit hz
theorem S6(r:Y0z):YtU=YzG:=aX Y0D (congrArg _ r.length)
def i4:dj:=qF S3 (λa m Q=>Fi a m λvs=>ux Y2Z (YI YzG) m Q) λK aG ae bz h=>S2 h
 (λvs e q=>Ywt λp w=>w.elim λxs w=>YID▸len_tuple ZSO (S5 Y3M YDu) ((S6 Y3M).symm▸Yn2))
 (λp t vs e hm q=>YJ1▸ae.list hm λxs ep aA bg=>Calls.call_len_list YDS (S5 bg YDu) ((S6 bg).symm▸Yn2))
def nT:dj:=qF ajh (λa m Q=>Fi a m λvs=>D5 Y2Z Y7m ZZ m Q) λ{g H k A s mh v a Q}K aG ae bz h=>S2 h
 (λvs e q=>Ywt λp w=>w.elim λxs w=>YID▸call_tuple_tup ZSO (qj ae (aV w.1 YUI) YDv.2))
 (λp t vs e hm q=>YJ1▸ae.list hm λxs ep aA bg=>call_tuple_list YDS (λh' b5=>hy.go YCT (D9 (X:=cX) (s:=Yx) (t:=s.toks) YCg Yho YDv.1 YDv.2)) (H7 bg YDu))
theorem BD(ae:YU)(b5:Y7k)(cR:Y56)(aA:Y4P)(az:YDy)(aE:YWu=Y82)(r:ZAd)(h:alloc mh YC4 Q):
  hy g cX s mh Zh YA s':=
 (h a (ae.fresh az)).elim λt h=>⟨_,ae.new (t:=t) (o:=YC4) b5 az cR aA ⟨xs,ep,aE,r⟩,Step.new b5 az,_,Y7M,h⟩
theorem ajn{n:Nat}{acc:Y1N}(af:ItemsOf (λi v=>∃t,v=YI (Y6l+i*1) t) acc n):a9 h acc.toList YDl:=by
 have e:acc.toList=Y8H λi=>acc.getD i Y7:=by
  refine Hi (aL YF (aL fN af.1)) λi ak av=>aL YBV (dS YK6 ?_);simp at ak;simp[Array.getD,ak]
 refine aj e (a9.map λi hm=>?_);have hm:=jK hm;have aE:i<acc.size:=aa af.1 hm;refine(af.2 i acc[i] ZW6).elim λt jy=>⟨t,?_⟩
 refine aj (sq) (aT ZW6 ?_);exact jy.trans (aT (Int.zero_add ..) (aT (Int.mul_one ..) rfl))
theorem ajo{n:Nat}(h:YB4):Builtin.Range.small 0 Y0q 1=true:=small_one YC YC Z5Z Z4N
def ajp(a:V)(m:ag)(Q:Y7D):Y1:=a.casesOn False Y3x Y3x Y3x (λp=>∃t vs,m p=Y1h∧YFV) (λn=>YB4∧Q YDl) Zki
theorem ajq:u0 Y4c λa m Q=>ajp a m λvs=>Y2Z∧ZEU:=λ{g H k A s mh v a Q}K aG ae bz h=>by
 cases a with
 |ref p=>
  exact h.elim λt h=>h.elim λvs h=>gz (bz.fP rfl) (ae.list h.1 λxs ep aA bg=>call_list_seq p Zj aA rfl rfl (λh' ft b5 az=>BD (s':=Yx) ae b5 rfl rfl Y1f az Yho Y9B) (H7 bg YGr))
 |tup vs=>exact bz.gj.elim λp w=>w.elim λxs w=>YqG λn aA=>YID▸call_list_seq p Y61 aA rfl rfl (λh' ft b5 az=>BD (s':=Yx) ae b5 rfl rfl Y1f az (ZdI Y63) h.2) (H7 Y3M h.1)
 |kM n=>
  exact bz.elim λp w=>YNb λt1 w2=>w2.elim λcy w2=>w2.elim λt3 aA=>gz w.1 (call_list_range (n:=n) Y4m aA (ajo h.1) Qf (au h.1 Y2) λh' tk acc ft b5 az af=>BD (s':=Y0w) (xs:=acc.toList) ae b5 rfl rfl Y1f (az.trans (dU Array.toArray_toList rfl)) (ajn af) Y9B)
 |_=>exact h.elim
def BE:dj:=qF aji _ ajq
def intsOf(vs:Y3):Y8Y:=vs.map λv=>Zci
theorem Fl(aO:YIA)(r:Y0z)(i:Nat)(v:Value)(e:YEa=Ym):∃t,v=YI YOx t:=by
 replace e:=aQ (q8) e;have af:Y7n:=ZCF;refine Yus λn q=>Yar λx w=>?_;replace w:=fU q w;have aC:YOx=n:=by
  have ck:vs[i]=V.int n:=by replace q:=eT Y2o (aQ (ho) q);exact q
  (rw[intsOf];refine aj (ho) (aT (gy) (gT Y2o ?_)))
  show vs[i].mb 0 id=n;rw[ck];rfl
 exact aa aC (aV (c4 w.1 e) w.2)
theorem S7{b n:Nat}(aD:a<n){o:Obj}(az:n=h.objs.size)(ah:ZI9):b<(h.push o).objs.size:=by
 subst az;refine aL YBI ?_;rcases YLS with e | ah
 ·exact aa e YDo
 ·exact YCp▸p9 aD
theorem S8{ajr:Obj}(b5:∀b o,b∉[s.heap.objs.size]→(s.heap.push ajr).get? b=YB→YGq):Y9C:=λb o e=>b5 b o (λh=>ej YDB Y1T) YUr
theorem ajs:u0 Z06 λa m Q=>lst a m λO O vs=>YIA∧Q (YI (intsOf vs).sum) m:=λ{g H k A s mh v a Q}K aG ae bz h=>jN h λp t vs e hm q=>by
 refine ZPT;have aE:=YDS;have ne:ZXU:=Yji;refine call_sum_walkG (wpAny_pyIter_list aE ⟨s.heap.objs.size,_,_,_,_,_,λi=>YOx,rfl,ab9 (A:=A.in1) Yoo _ p ne Z1,Znj,ZhO,Fl q.1 bg,λh' tk dg b5=>?_⟩);have aJ:Y2N=(intsOf vs).length:=by(refine aj Y0D (aj bg.length ?_);rw[intsOf];exact(bt ..).symm)
 (refine aT (preSum_getD ..) (aa aJ (gT N0 ?_)))
 have ax:=S8 b5;exact⟨mh,ZDb,Z7t,_,Y4E,q.2⟩
def S9:dj:=qF ajj _ ajs
theorem ajt:u0 Z04 λa m Q=>lst a m λO O vs=>YIA∧vs≠[]∧∀i,YeP:=λ{g H k A s mh v a Q}K aG ae bz h=>jN h λp t vs e hm q=>by
 refine ZPT;have aE:=YDS;have pos:0<Y2N:=aL Y0D (aL bg.length (List.length_pos_iff.mpr YG));refine call_max_walk (wpAny_pyIter_list aE ⟨s.heap.objs.size,_,_,_,_,_,λi j=>decide (YxK j 0<YOx),rfl,ab9 (A:=A.in1) Yoo _ p (Yji:ZXU) Z1,Znj,ZhO,pos,λi j Jk aju s' Q' E' af aM aF=>?_,λv h' tk aO b5=>?_⟩)
 ·exact(Fl q.1 bg i Jk af).elim λt jy=>(Fl q.1 bg j aju aM).elim λu rF=>ix jy (jg rF (gt_int aF))
 ·refine(Fl q.1 bg _ v aO).elim λt jy=>ZEM;have ax:=S8 b5;exact⟨mh,ZDb,Z7t,_,Y4E,Yq _⟩
def ajv:dj:=qF ajk _ ajt
def Ta:dj:=qF ajl (λa m Q=>a.mb False λi=>YeP) λK aG ae bz h=>Jy h λn e q=>Yyo λt jy=>gz jy (call_int_int (qj ae Y4E q))
def qG:dj:=qF ajm (λa m Q=>a.iU False λn=>Q YJe m) λ{g H k A s mh v a Q}K aG ae bz h=>Bj h λn e q=>Yyo λt jy=>by
 refine gz jy (call_range_1 ?_);have b5:=hH s.heap {cls:=YQE,data:=ZY #[YI 0 s.toks,YI Y0q t,YI 1 YBH]};exact⟨mh,ae.grow b5 rfl rfl,Yep,YJe,⟨s.heap.objs.size,rfl,s.toks,t,YBH,ZW⟩,q⟩
def ajw(v:V)(m:ag):Y1:=v.oi False λa=>∃t vs,YVd
def ajx(v:V)(m:ag):Y1:=v.oi False λa=>∃t c es,Ymp
abbrev Fm(T:String)(p:Yj):Y1:=∀{g:G}{m:ag}{s:Shared}{x:Value}{v:V},Y4l→Y2k→p v m→s.TypeIs x T∧∀a,Y83→∃ob,And (Y0u=YpK) (ob.dict=none)
theorem Fn:Fm "list" ajw:=λae bz h=>yC h λa e h=>h.elim λt h=>h.elim λvs hm=>ae.list hm λxs ep aA O=>ZnF
theorem J3:Fm "dict" ajx:=λae bz h=>yC h λa e h=>h.elim λt h=>h.elim λc h=>h.elim λes hm=>ae.dict hm λxs ep aA O O=>ZnF
abbrev Tb:=V→YR4
abbrev ajy(id:String)(P:Tb):Y1:=∀{g:G}{H:ih}{k:Nat}{A:Around}{s:Shared}{m:ag}{x:Value}{v:V}{xs:Yn}{vs:Y3}{Q:Yj},ZG→Z5→Y4l→Y2k→Y39→Z6L→fW g A cX s m (call YbJ Yqd) Zh
def u1(nm:String){T id:String}{p:Yj}(ty:Fm T p)(eB:Slot T Y3b id)(ajz:typeOf YbJ=pure (YE "method_descriptor"))(rx:PlainAttrs T)(P:Tb)(ok:ajy id P):kR:=
 ⟨⟨λH c e=>YZl none λx=>cond (YEF==Y3b) ZaU none,p,λO v vs m Q=>Z6L⟩,
 λ{g H k env c r mh e x es Q}K L hm h=>E2 (f:=ZjX) hm λn apos pos q e3 ak av aP da=>by
   (refine aT e3 (aa Y1e ?_))
   refine QR ak av aP da (h.mono λa m q A s x pl s0 m0 aG ae aN bg st=>?_);have t:=ty ae bg q.1;refine getMethod_builtin t.1 rx eB ajz t.2 (jL (nJ aP ..) ?_);refine callWith_builtin YAR (uH lh ((rp q.2 aG ae aN).mono λxs s1 w=>w.elim λm1 w=>YqH λvs u=>nE Zau (ok K aG w.1 (bg.keep w.2.4) u.1 u.2))),
 λ{H c e y}hm=>E2 (x:=y.1) (es:=y.2) (f:=ZjX) hm Zg2⟩
def zero{α:YKM}(vs:Y3)(d f:α):α:=vs.casesOn f YYW
theorem ajA{f:Y1}{P:Y1}(h:zero vs False f)(k:vs=[]→f→P):P:=by
 cases vs with
 |nil=>exact YmK
 |cons _ _=>exact h.elim
def mr:kR:=u1 "append" Fn abV F.type_list_append N7 (λv vs m Q=>one vs False λx=>lst v m λa t l=>ux Ymf Y7 (upd m a (t,Y5 (l++[x]))) Q) λK aG ae bg rs h=>
 rr h λx e h=>jN h λa t l bx hm q=>YOq λy w=>gz YCs (gT w.1 (adX ae hm YDu w.2 YDv))
def Fo:kR:=u1 "extend" Fn F.slot_list_extend F.type_list_extend N7 (λv vs m Q=>one vs False λx=>lst v m λa t l=>lst x m λb u l'=>ux (l.length+l'.length≤1000000) Y7 (upd m a (t,Y5 (l++l'))) Q) λK aG ae bg rs h=>
 rr h λx e h=>jN h λa t l bx hm h=>jN h λb u l' cM ah q=>YOq λy w=>by(refine gz YCs (gT w.1 (aa (w.2.fP cM) ?_)));exact adY ae hm ah YDu YDv
def ajB:kR:=u1 "pop" Fn NL F.type_list_pop N7 (λv vs m Q=>zero vs False (lst v m λa t l=>wu Ymf (l[ZTT]?) (upd m a (t,Y5 (l.eraseIdx ZTT))) Q)) λK aG ae bg rs h=>
 ajA h λe h=>jN h λa t l bx hm q=>wu.casesOn q λil x IW IX=>by subst e;exact gz YCs (gT rs.jh (ad0 ae hm il IW IX))
def ajC:kR:=u1 "pop" Fn NL F.type_list_pop N7 (λv vs m Q=>one vs False λz=>z=YPc∧lst v m λa t l=>Ymf∧l.casesOn False λx r=>Q x (upd m a (t,Y5 r))) λK aG ae bg rs h=>
 rr h λz e h=>jN h.2 λa t l bx hm q=>YOq λy w=>(show aK _ y YPc from h.1▸w.2).elim λtk w2=>by
  (refine gz YCs (gT w.1 (aa w2 ?_)))
  cases l with
  |nil=>exact YHf
  |cons x r=>exact ad1 ae hm (NX q.1) q.2
def wV:kR:=u1 "get" J3 F.slot_dict_get F.type_dict_get N8 (λv vs m Q=>two vs False λx y=>lb v m λa t c es=>ux YUf ((c8 es x).getD y) m Q) λK aG ae bg rs h=>
 uI h λx y e h=>s6 h λa t c es bx hm q=>Ywv λp w=>w.elim λdV w=>gz YCs (gT w.1 (aef YCK ae aG hm YDu Y3i Y3M YDv))
def Tc:kR:=u1 "setdefault" J3 ax4 F.type_dict_setdefault N8 (λv vs m Q=>two vs False λx y=>lb v m λa t c es=>Y6M∧YUf∧(c8 es x).elim (Q y (upd m a (t,Y9 c (eE es x y)))) λv=>Y37) λK aG ae bg rs h=>
 uI h λx y e h=>s6 h λa t c es bx hm q=>Ywv λp w=>w.elim λdV w=>gz YCs (gT w.1 (aeg YCK ae aG hm q.1 YG Y3i Y3M Yq))
def ajD:kR:=u1 "pop" J3 F.slot_dict_pop F.type_dict_pop N8 (λv vs m Q=>one vs False λx=>lb v m λa t c es=>Y6M∧YUf∧∃y,c8 es x=Y06∧Q y (upd m a (t,Y9 c (qi es x)))) λK aG ae bg rs h=>
 rr h λx e h=>s6 h λa t c es bx hm q=>ZXY λy ck=>YOq λp w=>gz YCs (gT w.1 (aeh ae aG hm q.1 YG w.2 ck.1 YGO))
def Td:Op:=⟨λO O O=>YXI,Zg3⟩
theorem Te{c:bP}{es:Ye}{P:Y1}(hm:YXI=Y2J)(h:gH g k env c.ns r es mh Y28):P:=by replace h:=ZKT;exact Z41
theorem ajE:Td.pv:=⟨ZgA,ZgA⟩
def Tf:dj:=⟨Td,ajE⟩
def wW(vs:Y3)(m:ag)(Q:Yj):Y1:=YNp∧∀l,l.Perm vs→j9 l→alloc m YbZ Q
abbrev BF(s:Shared)(vs:Y3)(xs:Yn)(s':Shared):Y1:=hr Y56 Y4P Y7k ZAd
theorem ajF(h:YfS):a+1+1+50<9900:=DS (x:=52) h Y2
theorem Tg{P:Y8}(aG:Z5)(ao:wpAny Yu A.in1 ZJi (λxs s1=>∃vs,YNp∧BF s vs xs s1∧∀h' bf ep fX,YlL→h'.get? s1.heap.objs.size=some (jZ bf ep)→ZAb→YkN→j9 fX→P YQ3 YEK) lH s):WP g A ZJ8 P s:=by
 refine call_function_entry kind_sorted plain_sorted entry_sorted (args_sorted1 _) Yg;intro aAC aAD aAE;refine bd (m:=checkCount "sorted" 1 1 _) (wpAny_pure (bd (wpAny_mono ao (λxs s1 z=>?_) Y3Q)));obtain⟨vs,d5,z⟩:=z;refine Y0K;intro aAF aAG;refine bd (wpAny_newList ?_ (aj z.1.4.length (BA d5.1)));have aA:(s1.heap.push YX3).get? s1.heap.objs.size=some YX3:=ZW;refine bd (wpAny_holding (wpAny_call_entry slot_list_sort Y9j entry_list_sort ?_ (args_list_sort _)));have rK:=hH s1.heap YX3;refine ajb (s:={s1 with heap:=s1.heap.push YX3}) (vs:=vs) (ajF aG.2) aA (z.1.4.keep (.of rK)) d5 λh' bf fX dC bb gA pm mc=>⟨Y7,rfl,wpAny_pure ⟨_,rfl,bb.elim λep bb=>z.2 h' bf ep fX (λb o e=>dC b o Y6L (rK b o e)) bb gA pm mc⟩⟩
theorem J4(aG:Z5)(ae:YU)(ao:wpAny Yu A.in1 ZJi Z2r lH s)(h:wW vs mh Q):fW g A cX s mh ZJ8 Zh:=
 Tg aG (wpAny_mono ao (λxs s1 z=>⟨vs,h.1,z,λh' bf ep fX b5 bb gA pm mc=>hy.go (Step.grow z.3) (BD (s':=YEK) (ae.grow z.3 z.1 z.2) b5 rfl rfl Y1f bb gA (h.2 fX pm mc))⟩) Y3Q)
theorem ajG(ae:YU)(e:Y3u)(hz:Y2Z):wpAny Yu A Yim Z2r lH s:=ae.list e λxs ep aA bg=>by
 have b5:hU s.heap ((s.heap.push YHm).update s.heap.objs.size (l7 (·++Z1))):=λb o q=>by
  have fQ:=YkH;refine aj (aca _ _ _ _ YU2) (aj (Heap.get?_push_ne _ _ _ YU2) ?_);exact q
 exact collect_list (vs:=xs) YDS ⟨rfl,rfl,b5,Yho⟩ ZEF
theorem ajH(b5:Y2T){xs:Z8}(r:Y4w):a9 h' (xs.map (·.key)) Y9m:=by
 induction es generalizing xs with
 |nil=>rw[Yoq];exact a9.nil
 |cons m es ai=>exact r.un λe e6 ex ak av aP bI=>aa ex (a9.cons (av.keep b5) (ai bI))
theorem J5{acc:Y1N}{xs:ZC}{f:Zfv}(af:ItemsOf (λi v=>∃e,Yqm∧v=f e) acc xs.length):acc.toList=xs.map f:=by
 refine Hi (aL YF (aL iv af.1)) YOC;replace ak:=bL iv ak;replace av:=bL YF av;refine(af.2 i acc[i] (od ak)).elim λe w=>?_;replace w:=eT ZLY w;exact aL YBV (aj (Array.getElem_toList ..) (aj w.2 (bW (cu w.1) rfl)))
theorem ajI{c:Nat}(lo:YEV)(bJ:Zf)(ae:YU)(e:YVi)(hz:YUD):wpAny Yu A Yim (BF s Y9m) lH s:=ae.dict e λxs ep aA bg D=>
 kdu_collect (ajf (xs:=xs) (ep:=ep) Ygk) bJ aA ZEF λh' tk acc b5 af=>⟨rfl,rfl,b5,aj (J5 af) (ajH Y63 bg)⟩
theorem ajJ:u0 YJY λa m Q=>lst a m λO O vs=>wW vs m Q:=λK aG ae bz h=>jN h λp t vs e hm q=>YJ1▸J4 aG ae (ajG ae hm (au (h9 YWf) Y2)) q
def Fp:dj:=qF y3 _ ajJ
theorem ajK:u0 YJY λa m Q=>lb a m λO O O es=>wW Y9m m Q:=λK aG ae bz h=>s6 h λp t c es e hm q=>YJ1▸J4 aG ae (ajI YCK Y4m ae hm (by have:=YWf;replace this:=ZBa;exact au (h9 this) Y2)) q
def ajL:dj:=qF y3 _ ajK
abbrev ajM(h:Heap)(es:dm)(i:Nat)(k:Str)(v:Value)(P:Y1):Y1:=∀(n:Nat)(m:V),YHy=Y6e→YD7=some (ZM,m)→ZB6→P
abbrev ajN(h:Heap)(es:dm)(i:Nat)(k:Str)(v:Value):Y1:=∀P:Y1,ajM h es i k v P→P
abbrev u2(h:Heap)(iN:YCM)(es:dm):Y1:=hR (iN.length=es.length) (∀(i:Nat)(k:Str)(v:Value),iN[i]?=ZaJ→ajN h es i k v)
variable{iN:YCM}
theorem u2.keep(b5:Y2T)(x:YI3):u2 h' iN es:=⟨x.1,λi k v e=>(x.2 i k v e) _ λn m a b c=>(λO bA=>bA n m a b (c.keep b5))⟩
abbrev ajO(x:Value)(v:V)(P:Y1):Y1:=∀(n:Nat)(s:Str)(t:Tok),v=ZM→YBP→x=YJo→P
abbrev ajP(x:Value)(v:V):Y1:=∀P:Y1,ajO x v P→P
theorem ajQ{v:V}(aO:YEB)(r:Y2F):ajP x v:=(V.kr aO).elim λn e=>(show ZB7 from YUJ).elim λt q=>q.elim λs q=>(λO bA=>bA n s t e q.1 q.2)
abbrev ajR(prog:Program)(w:World)(h:Heap)(xs:Z8)(es:dm)(P:Y1):Y1:=∀(iN:YCM),Z6Z→(∀e∈xs,ZmT)→YI3→P
abbrev ajS(prog:Program)(w:World)(h:Heap)(xs:Z8)(es:dm):Y1:=∀P:Y1,ajR prog w h xs es P→P
theorem ajT{xs:Z8}(hs:∀e∈es,ZLc)(r:Y4w):ajS prog w h xs es:=by
 induction es generalizing xs with
 |nil=>exact(λO bA=>bA ([]) (aa Yoq YO) (λe he=>absurd (aV Yoq he) cS) ⟨rfl,λi k v e=>absurd (et e) cS⟩)
 |cons m es ai=>
  refine r.un λe e6 ex ak av aP bI=>(ai (λe he=>hs e YTy) bI) _ λiN p q kv=>(ajQ (hs m b3) av) _ λn s t em wX e3=>?_;have bJ:e.hash=Yal s:=by
   refine aj ak (aX em ?_);show YlN=_;refine ZOz;rfl
  have aR:Yy1 s e.key=true:=aa e3 Zay;refine aa ex ((λO bA=>bA ((s,e.val)::iN) (.cons aR rfl p) (λx aq=>YJ9 (λq=>aa q (⟨s,aR,bJ⟩)) λaq=>q x aq) ⟨congrArg Y3l kv.1,λi k v ig=>?_⟩))
  cases i with
  |zero=>
   have ig:=gQ Yir;exact(λO bA=>bA n m.2 (aV ig.1 wX) (congrArg some (iF em rfl)) (aV ig.2 aP))
  |succ i=>exact(kv.2 i k v ig) _ ZjS
theorem nodup_keys(x:YI3)(bZ:YEe):(iN.map Yh).Nodup:=by
 refine xZ Di Zed;intro i j af aM gK e
 (replace af:=bL YF af;replace aM:=bL YF aM)
 replace e:=aQ YBV (bL YBV e);refine(x.2 i _ _ Y2o) _ λn m wX ig O=>(x.2 j _ _ ZLW) _ λey ab ajU fe O=>?_;have fq:=AA wX (aa e ajU);have a1:Y9m[i]?=YXA:=by rw[gy,ig];rfl
 have a2:Y9m[j]?=YXA:=by refine aj (gy) (aX fe (fH fq ?_));rfl
 exact ej gK ((xX (aL YF (aV x.1 af)) bZ).mp (a1.trans a2.symm))
theorem J6{xs:Z8}(aA:YUl)(r:Y4w)(D:Ylg):∃iN,h.DictAt YHU d iN ep∧YI3:=
 (ajT (prog:=prog) D.2 r) _ λiN p q kv=>⟨iN,⟨_,_,aA,YtB,rfl,λe he=>q e Z3b,p,nodup_keys kv D.1⟩,kv⟩
theorem ajV{xs:Z8}{es:dm}(p:Z6Z)(aR:∀e∈xs,ZmT)(x:YI3):Y4w:=by
 induction p generalizing es with
 |nil=>cases es with
  |nil=>exact d2.nil
  |cons _ _=>exact absurd x.1 ZFP
 |cons ak av aP ai=>
  rename_i e kv xs iN
  cases es with
  |nil=>exact absurd x.1 Y7q
  |cons m es=>
   refine(x.2 0 kv.1 kv.2 rfl) _ λn v wX ig bz=>(acb ak).elim λt jy=>(aR e b3).elim λoq uY=>(acb uY.1).elim λdg ajW=>?_;have fx:m=(ZM,v):=Yir;have aO:ZMd=e.hash:=by
    refine dU fx (aL uY.2 (bW ((axR (cA ajW jy)).1:oq=kv.1) ?_));show YlN=_;refine ZOz;rfl
   exact d2.cons aO.symm (fx▸jy▸aK.ofStr wX t) (fx▸av▸bz) (ai (λe he=>aR e YTy) ⟨oc x.1,λi k v e=>(x.2 (i+1) k v e) _ ZjS⟩)
theorem ajX(hw:g.w=w)(hd:h.DictOf YHU a iN)(x:YI3)(D:Ylg):qf g h mh a YEv:=by
 obtain⟨o,xs,ep,aA,ao,hd,aR,ar,az⟩:=hd;obtain⟨m2,lj,iZ⟩:=ao;obtain⟨cl,oL,uj,eB⟩:=o;dsimp only at m2 lj iZ hd;subst m2 lj iZ hd;exact⟨xs.toList,ep,aA,aa hw (ajV ar (λe he=>aR e (Array.mem_toList_iff.mp he)) x),D.1,D.2⟩
theorem ajY:u0 YA7 λa m Q=>lb a m λO O c es=>c=1∧YUD∧alloc m YEv Q:=λ{g H k A s mh v a Q}K aG ae bz h=>s6 h λp t c es e hm q=>by
 obtain⟨rfl,hz,q⟩:=q;refine gz YT2 (ae.dict hm λxs ep aA bg D=>YuW λiN z=>kt_call_dict (ae.ys YCK hm) z.1.dictOf ZEQ λh' u3 gB=>?_);have b5:Y9C:=λb o e=>gB.extBut b o Y6L YUr;exact(q _ YKo).elim λt q=>⟨_,ae.new (s':=Yx) (t:=t) (o:=YEv) b5 Y1f rfl rfl (ajX rfl u3 (Y9d Y63) D),Step.new (s':=Yx) b5 Y1f,_,Y7M,q⟩
def ajZ:dj:=qF S4 _ ajY
def wY(p:Y69):V:=YD [p.1,p.2]
theorem Th{f:YIV}{b:β}(h:Ymg[i]?=Y6d):∃a,Y53=Y0l∧b=f a:=by
 replace h:=ZBb
 cases e:Y53 with
 |none=>replace h:=YKz;exact Y08
 |some a=>replace h:=YKz;exact⟨a,rfl,Y5r⟩
theorem a9.aj0{xs:Yn}(aE:Yqi)(af:∀(i:Nat)(x:Value)(v:V),Y3w→YIC→Y2F):Y0z:=by
 induction vs generalizing xs with
 |nil=>rw[p5 aE];exact a9.nil
 |cons v vs ai=>cases xs with
  |nil=>exact absurd aE ZFP
  |cons x xs=>exact a9.cons (af 0 x v rfl rfl) (ai YWC λi x v e bk=>af (i+1) x v e bk)
theorem aj1{v:Nat}(bJ:Zf)(ae:YU)(e:Y0d=YpC)(hz:YUD)(aO:s.heap.IsItemsView v a):
  wpAny Yu A (collect (Y0 v)) (BF s ZN6) lH s:=ae.dict e λxs ep aA bg D=>YuW λiN z=>
 kdx_collect bJ aO z.1 ZEQ λh' tk as b5 J7 G=>⟨rfl,rfl,b5,a9.aj0 (aL YF (aj YF (aj J7 Z4))) λi x v aJ aC=>by
  refine(Th aJ).elim λb cM=>(Th aC).elim λm em=>?_;obtain⟨key,ax,y,il,ck,gD⟩:=G.pairs i b cM.1;exact(Z3 i ax y il) _ λn u dD w2 kx=>(acb ck).elim λdg bq=>aj cM.2 (aL em.2 (bW (c4 em.1 w2:m=(ZM,u)) (iz.HK ⟨b,[key,y],rfl,⟨0,gD⟩,a9.cons (aa bq (aK.ofStr dD dg)) (a9.cons (kx.keep Y63) a9.nil)⟩ rfl)))⟩
def aj2(c:bP)(e:aI):Y67:=Yb7 none λx=>cond (decide (Y2a=YU9)) (l1 Y1K none λy=>(E1 y).elim none λz=>cond (Y6g.1==ZN2&&Y6g.2.isEmpty) (some [Y5D]) none) none
variable{lP:Pos}
theorem aj3{e y o:aI}{n m ey ab:Str}{l es:Ye}{p:Pos}(z:e=Y0Q Y42 l [] pos)(fy:l=[y])(u:y=Y0Q (Y2e o m apos) es [] lP)(aJ:n=ey)(aC:m=ab)(c1:es=[]):e=Y0Q (Y09 ey p) [Y0Q (Y2e o ab apos) [] [] lP] [] pos:=by exact aj z (dT fy (wi u (aa aJ (aa aC (aa c1 rfl)))))
theorem aj4{c:bP}{o:aI}{p:Pos}(K:ZG)(L:ZI)(aR:c.cN.lookup YU9=Y27)(hd:(YU9==Y1l)=false)(ah:YB7)(sU:(apos.endLine==lP.line)=true)(h:Ev g k env c.ns r mh Y7h λa m=>ZTq):
  Ev g k env c.ns r mh (eval (Y0Q (Y09 YU9 p) [Y0Q Yzc [] [] lP] [] pos) env) Q:=λA s aG ae aN=>by
 refine wpAny_Call_NameR (AR K.1 ae aN YMz hd y3.1 y3.2 y3.3 (ix (nJ (show noStar [ab4 Yzc [] [] lP]=true from rfl) ..) (callWith_builtin1 (cb YSS (ix YQf Yg)))));intro aiE aiF aAH;refine bd (Y0p λcF s1 z=>z.elim λm1 z=>Y0g λx q=>bd (wpAny_standAt (s6 q.2 λa t c es bx hm ck=>?_)));obtain⟨rfl,ck⟩:=ck;refine DD ZXW (z.1.dict hm λxs ep aA uQ D=>(J6 (prog:=g.prog) aA uQ D).elim λiN w=>?_);have qw:methodCallPos true o env apos lP=pure lP:=YSz
 dsimp only [methodCall];refine aa (show methodCallForm (([]:Ye).length+YZt) (backTo lP (starEach [] env)) (backToKw lP YmY)=true from rfl) (bd (wpAny_holding (getMethod_builtin (T:="dict") Y9j N8 F.slot_dict_items F.type_dict_items (λb e=>⟨_,aV (N6 e) aA,rfl⟩) (bd (wpAny_of_eq qw (callWith_builtin rfl (evalArgs_nil3 (call_meetsIn F.slot_dict_items Y9j F.entry_dict_items (F.args_dict_items_1 _) (meets_dict_items (o7 g.prog g.w) a (z.1.ys YCK hm)) ⟨⟨iN,w.1.dictOf⟩,?_⟩))))))));have b5:=hH s1.heap Yr5;have a2:a5 g m1 Zfn:=YEH b5 rfl rfl;have aE:=ck.1.1;replace aE:=aQ YF aE;exact nE (Y0m Yep) (J4 (s:=Zfn) aG a2 (aj1 (A:=A.in1) Yoo a2 hm (au (h9 aE) Y2) Y6k) ck)
def Ti:dj:=lL ⟨λO c e=>aj2 c e,λO vs m Q=>one vs False λa=>ZTq⟩
 (λhm=>YaK λx O=>YqU)
 λ{g H k env c r mh e es Q}K L hm h=>j7 hm λx O hm=>rB hm λq hm=>Jv hm λy fy hm=>j7 hm λw O hm=>rB hm λck hm=>dG ck λbD bC=>YNb λapos u=>u.elim λlP u=>YIG λp z=>z.elim λpos z=>by
  have aJ:=YHV;replace h:=ZKT;exact aT (aj3 z fy u.1 aJ Y95 ZZD) (aj4 K L (aJ▸YXu) (aJ▸YXv) u.2.1 YI2.1 h)
theorem wZ(mh:ag)(a:Nat)(c d:Y1D):upd Ypx a d=upd mh a d:=funext λb=>by
 by_cases q:b=a
 ·rw[q,bw,bw]
 ·exact aL Y7e (aj Y7e (Y7e))
theorem Tj{c:Y1D}(h:Yn7):Ypx=mh:=funext λb=>by
 by_cases q:b=a
 ·rw[q,bw,h]
 ·exact Y7e
theorem aj5:typeLookup Y2h "keys"=YMl:=YT1
theorem aj6:typeLookup Y2h "__getattr__"=YMl:=YT1
theorem aj7{g:Y78}{d:Drawn}{os:OsState}{a:Addr}{xs:Y1N}{n:Nat}{eB:YQS}{tk:Tok}{Q:YQk}{E':Y8}(bJ:Zf)(aq:ZQ2)(aF:∀h' tk e,Heap.NewAttrErr h h' e YA "keys"→E' Y43 ZnM):
  wpAny YR A (Builtin.«object.__getattribute__» ⟨[YA,Y4 "keys" tk],[]⟩) Q E' Y5F:=by
 have dJ:YbC YA "tuple":=Zn1
 have f4:=aj5
 repeat (any_goals (first | assumption | wp_step))
 exact wpAny_raiseAttrError bJ aF (attrMsg_fits ZL (by refine YS7;decide +kernel))
theorem aj8{E:Y8}{g:Y78}{d:Drawn}{os:OsState}{a:Addr}{xs:Y1N}{n:Nat}{eB:YQS}{tk:Tok}{Q:Y5M}(bJ:Zf)(aq:ZQ2)(aF:∀h' tk,(∀b o,YlA)→Q none ZnM):
  wpAny YR A (getAttr? YA "keys") Q E Y5F:=by
 have dJ:∀tk,(⟨h,g,d,tk,os⟩:Shared).TypeIs YA "tuple":=λO=>Zn1
 have f1:=sub_AttributeError;have f2:=N9.lookup;have cz:=N9.bind YA;have gL:=aj6;unfold getAttr? getAttrBy? getAttrBy
 repeat (any_goals (first | assumption | exact YLN | wp_step))
 refine codeAny_call_builtin N9.plain F.entry_tuple_ga (N9.check _ _ _ _ _ _ _ _ YLN (F.args_tuple_getattribute_2 _ _) (aj7 bJ aq λh' u4 e yw=>?_));obtain⟨dg,om,he⟩:=yw.there;show wpAny _ _ (getattributeRaised _ _ _ _ _ _ _) _ _ _;dsimp only [getattributeRaised]
 repeat (any_goals (first | assumption | wp_step))
 exact aF _ _ yw.keeps
theorem Tn:entryFor table "dict.update.loop"=some Builtin.«dict.update.loop»:=Yjk
theorem Fq:plainId "dict.update.loop"=true:=ZL
theorem aj9{ms:dm}{m:Y69}(D:ie 1 YUA):ZLx:=by
 cases q:ZRu with
 |none=>exact YzA
 |some i=>
  refine YzB;have hm:ZU8:=ZTG;have bZ:=D.1;replace bZ:=Yd5;exact absurd rfl (YAV.2 _ hm _ b3)
theorem ie.left{ms:dm}(D:ZR8):Ylg:=⟨by have bZ:=D.1;replace bZ:=Yd5;exact YCq,λe he=>D.2 e (ko _ he)⟩
theorem aka{T:Nat}{P:YR3}{E:Y8}(aA:s.heap.get? T=some (mM xs ep))(h:P xs s):wpAny YR A (Builtin.Dict.pairItems YPx) P E s:=by
 exact bd (wpAny_typeOf Y9j (cb ZRL (bd (wpAny_seqItems aA rfl Y1u))))
theorem To(iV:ZUe)(y4:ZOg):lI g Y2d mh:=λb ah=>by rw[show b=I from ah];exact⟨iV,y4⟩
theorem akb(bJ:Zf)(bj:Yck){R:Y48}(hz:YXn)(ms:dm):
  ∀(i:Nat)(es:dm)(mh:ag)(s:Shared),vs.drop i=ZUs→es.length≤i→s.heap.IsTupleIter I a i→Yeu→uo s.heap xs→Y39→I≠d→ZUe→ZOg→
   Y6V=YpC→YU→ZR8→
   (∀s',a5 g ZcS s'→(∃s1,Step Y2d s mh s1 ZcS∧j4 Y2d s1 s')→Z73)→
   codeAny Yu A (ZK "dict.update.loop" ⟨[Y33,Y1B,ZYT,Y7],[]⟩) R s:=by
 induction ms with
 |nil=>
  intro i es mh s J8 pj hit bq y5 r y6 iV y4 hd ae D gI;refine ZJg;show Zdf;have Fs:vs.length≤i:=OE J8;have az:YEa=none:=q8.trans (p6 (aj r.length Fs));refine bd (wpAny_pyNext_tuple_end bJ hit ZSK az λh' he=>?_);have c7:YM8:=⟨Zhd,sJ ZXN Zhd⟩
  have sW:=c7.abs ae Z87 rfl rfl
  (rw[eL]at gI;replace D:=bL Y1U D)
  rw[Tj hd]at gI;show wpAny _ A.in1 (Builtin.Dict.addKeywords d [] >>= λO=>ZYY) _ _ _;refine Y0K;intro akc akd;exact bd (wpAny_pure (wpAny_pure (gI _ sW ⟨s,Yy,c7⟩)))
 |cons m ms ai=>
  intro i es mh s J8 pj hit bq y5 r y6 iV y4 hd ae D gI;refine ZJg;show Zdf;have Ft:=drop_cons J8;refine(r.at Ft.1).elim YEU;replace z:=fU Ft.2.1 z;refine Y0K;intro Ph Pj;refine bd (wpAny_pyNext_tuple_item hit ZSK (pk z.1) λh' ji hs=>?_);have mv:=sL (wr:=Y2d) (s':=Yx) ae Z87 ZXN YId ZXO rfl rfl;refine(Y9d mv.2.4).gj.elim λT q=>q.elim λbf q=>YBC λep dJ=>YoG λeg aAI aJ b6 ck=>ck.un λd1 O5 aC dv gD=>aa q.1 Yg;intro aif aih aii;refine bd (wpAny_holding (bd (wpAny_tryCatch (aka (s:=Yx) dJ ?_))))
  (refine iy aJ (aa aC (aa gD.jh ?_)))
  show wpAny _ A.in1 (holding [eg,d1] (dictSet d eg d1)) _ _ _;have em:ZN4:=ZHb
  refine Yg;intro aAJ aAK aAL;refine wpAny_holding (wpAny_mono (H4 (X:=cX) (A:=A.in1) (R:=λO s2 aH=>aH=upd mh d (t,Y9 1 YD5)) mv.1 hd Z3F b6 dv bj (au pj (au (h9 Ft.1) hz)) λs2=>aa (aj9 D) rfl) (λO s2 z=>z.elim λaH z=>?_) Y0E);have A7:=z.3;subst A7;have eX:=z.2;have ake:s2.heap.IsTupleIter I a (i+1):=ji.elim λo w=>⟨o,eX.1 I o w.1 iV id,w.2⟩
  have kt:eU s.heap s2.heap:=mv.2.4.trans YGa;refine wpAny_pure ⟨ZWu,?_⟩
  (replace D:=bL em D;rw[em]at gI)
  refine ai (i+1) YD5 _ s2 Ft.2.2 (aj cj (dX pj)) ake (bq.keep kt y5) Zeq (r.keep kt) y6 (aj ZKW iV) y4 Yc z.1 D λs3 dB w=>w.elim λs4 w=>gI s3 ?_ ⟨s4,?_,w.2⟩
  ·exact aQ YNd dB
  ·exact(mv.2.trans (eX.weaken Y31)).trans (bL YNd w.1)
theorem akf(h:YfS):a+1+1+20<9900:=DS (x:=22) h Y2
theorem akg:u0 YA7 λa m Q=>a.eM False λvs=>∃ms:dm,vs=ZUs∧YXn∧ie 1 ms∧alloc m (Y9 1 ms) Q:=λ{g H k A s mh v a Q}K aG ae bz h=>lJ h λvs bx h=>h.elim λms h=>by
 obtain⟨ev,hz,D,h⟩:=h;refine(show ZBG from bx▸bz).gj.elim λa q=>q.elim λxs q=>YBC λn aA=>?_;have akh:Y7m:=by
  refine aX ev ?_
  cases ms with
  |nil=>rfl
  |cons m ms=>exact(V.kr (D.2 m b3)).elim λn e=>by cases ms <;> rfl
 have y5:=rl akh Yq;refine gz q.1 ?_;have dn:YnC:=YKo;obtain⟨t,h⟩:=h _ dn;have b5:=YlI;refine callType_codes (Q₁:=λobj hY=>obj=Y2B∧hY=YBX) F.kt_called_dict (F.kt_typeCall_dict_1 _) F.entry_dict_init (kt_code_dict_new _ Zn) ?_;intro obj hY aki;obtain⟨rfl,rfl⟩:=aki;have J9:Yyj:=ZW;have Tp:(YBX:Shared).TypeIs Y2B "dict":=⟨_,J9,rfl⟩
 refine⟨Tp,F.args_dict_init_2 _ _,Yg⟩;intro aAM aAN aAO;refine bd (bd (wpAny_notOrdered_dict Tp ?_));show wpAny _ _ (pure (s.heap.objs.size,[jX a])) _ _ _;refine Zl;show wpAny _ _ (Builtin.Dict.updateFrom "dict.__init__" s.heap.objs.size YA [] Y7) _ _ _;have y1:=ZFf;refine bd (wpAny_typeOf (T:="tuple") ⟨_,y1,rfl⟩ (cb ZRL Yg));intro aAP aAQ aAR;refine bd (aj8 (tk:=0) ZHU y1 λh' tk rK=>cb (if_pos ZHu) Yg);intro aAS aAT aAU;refine ZGs;have akj:=rK _ _ y1;refine Yg;intro aAV aAW aAX;refine bd (wpAny_pyIter_tuple (items:=Z1) ⟨_,akj,rfl,n,rfl⟩ ?_);have Tq:=hH h' YEJ;have Ka:hU s.heap ZPm:=λb o e=>Tq _ _ (rK _ _ YhC);have akk:(h'.push YEJ).get? s.heap.objs.size=Yp8:=Tq _ _ ZYM;have Br:a5 g ZcV YZH:=
  a5.new (s':=YZH) (t:=t) (o:=YPV) ae Ka Y1f rfl rfl ⟨[],0,akk,d2.nil,lC,YYk⟩
 have jA:Step cX YZM mh YZH ZcV:=
  Step.new (s':=YZH) Ka Y1f
 have Fu:ZYz=none:=by
  cases q:ZYz with
  |none=>rfl
  |some o=>have e:=rK _ _ (b5 _ _ q);replace e:=aQ ZQS e;exact Y4t
 have y6:h'.objs.size≠s.heap.objs.size:=λe=>by
  have aC:=ZYM;replace aC:=aQ ZQS (aX e aC);exact ZJ4
 have kt:=eU.of Ka;refine Yg;intro aAY aAZ aA0;refine wpAny_pure (⟨ZWu,akb (t:=t) ZHU (akf aG.2) hz ms 0 [] _ _ ev YW Y6k (TupAt.keep kt ⟨n,aA⟩ y5) Zeq (YDt kt) y6 (aj ZKW (ae.fresh Fu)) (AS ae Fu) Yc Br D λs' jf w=>w.elim λs1 w=>?_⟩)
 (replace jf:=aQ YNd jf;replace w:=bN YNd w)
 exact⟨rfl,_,jf,Step.unfresh (wr:=(·=h'.objs.size)) (w.2.step ((jA.weaken Y31).trans (w.1.weaken YO6)) λb ah=>ah▸Fu) λb ah=>aa ah Fu,_,Y7M,h⟩
def Kb:dj:=qF S4 _ akg
def Kc(i:Int):Op:=⟨λO O e=>pE (PE e) (λx=>decide (Y2a=.USub)&&E6 Y1K i) Y9h,λO O m Q=>Q YbV m⟩
theorem Tr{i:Int}{e:aI}{es:Ye}{P:Y1}{c:bP}(hm:(Kc i).nH H c e=Y2J)(f:∀ax p pos,e=Yzx→[]=es→P):P:=j8 hm λx ao he=>Y2b λp z=>by
 exact dG ao λbD bC=>(JM bC).elim λax w=>w.elim λdV w=>f ax dV p (aj z (dT Ynl (aT w rfl))) he
theorem akl(i:Int):(Kc i).pv:=⟨λ{g H k env c r mh e es Q}K L hm h=>Tr hm λax p pos e3 he=>by
  refine YgG;replace h:=Y7d;exact Sg h,λ{g H k env c r mh e es Q}K L hm h=>Tr hm λax p pos e3 he A s aG ae aN=>by
  rw[e3];replace h:=Y7d;refine Y0K;intro akm akn;exact wpAny_isTrue_value ((Sg (Q:=Y9J) h A s aG ae aN).mono Zht) rfl⟩
def Ts(i:Int):dj:=⟨Kc i,akl i⟩
def Kd(ps:Z5E):Yn:=ps.rec [] Zjm
def Ke(ms:dm):Y3:=ms.rec [] Zjm
theorem Kf{b:Bool}{o:Y7E}{a:α}(h:cond b o none=Y0l):Y6F∧YMg:=rB h λh k=>⟨h,k⟩
def Fv(keys:YFO):Ye→Y67:=keys.rec (λvs=>cond vs.isEmpty YXI none) λk O ai vs=>k.elim none λk=>vs.casesOn none λv vs=>(ai vs).elim none λl=>some (k::v::l)
theorem ako(keys:YFO):∀{vs es:Ye},Z47→keys.all (·.isSome)=true∧keys.length=vs.length:=by
 induction keys with
 |nil=>
  intro vs es h;exact fH (sA Z4p.1) Zn
 |cons k keys ai=>
  intro vs es h;refine j7 h λoq i5 h=>?_
  cases vs with
  |nil=>exact Y08
  |cons v vs=>exact j7 h λl fa O=>⟨lF ⟨aa i5 rfl,ZDl.1⟩,congrArg Y3l ZDl.2⟩
theorem akp{c:bP}(keys:YFO):∀{vs es:Ye}{mh:ag}{A:Around}{s:Shared}{Q:Ys},Z47→Ykf→Z5→YU→Y4H→
  fW g A cX s mh ZNS (λps s' ab=>∃l,a9 s'.heap YdY l∧Q l ab):=by
 induction keys with
 |nil=>
  intro vs es mh A s Q h aF aG ae aN;replace aF:=d9 (cu Z4p.2) aF;exact wpAny_pure ⟨mh,ae,Yy,[],a9.nil,aF⟩
 |cons Jr keys ai=>
  intro vs es mh A s Q h aF aG ae aN;refine j7 h λoM i5 h=>?_
  cases vs with
  |nil=>exact Y08
  |cons Tt vs=>
   refine j7 h λl fa h=>?_;replace aF:=d9 Y4u aF;refine aa i5 ?_;show wpAny _ _ (ZNR >>= λkv=>holding [kv] (ZNO >>= λx=>standAt pos >>= λO=>YDq) >>= λKg=>holding [kv,Kg] ZNS >>= λr=>pure ((kv,Kg)::r)) _ _ _;have aF:Ev g k env c.ns r mh ZNR λa m1=>Ev g k env c.ns r m1 ZNO λb aH=>gH g k env c.ns r l aH λws bF=>Q (a::b::ws) bF:=aF;refine Yg;intro aA1 aA2 aA3;refine bd (WP.mono (aF A s aG ae aN) λcF s1 f3=>f3.elim λm1 f3=>ZNv λx dD=>Yg);intro akq akr aks;refine bd (wpAny_holding (bd (WP.mono (dD.2 A s1 aG f3.1 ZBX) λdF s2 fz=>fz.elim λaH fz=>ZOb λy w2=>bd (wpAny_standAt Zl))));have eX:=ZNu;exact bd (wpAny_holding (WP.mono (ai fa Y5l aG fz.1 Yg4) λbc s3 mY=>mY.elim λbF mY=>ZUM λws kx=>wpAny_pure (⟨bF,mY.1,ZMZ,x::y::ws,a9.cons (ZKU (fz.2.trans mY.2).4) (a9.cons (w2.1.keep mY.2.4) kx.1),kx.2⟩)))
variable{kc:Nat}
theorem akt{ms:dm}{m:Y69}(D:ie kc YUA):ZLx:=by
 cases q:ZRu with
 |none=>exact YzA
 |some i=>
  refine YzB;have bZ:=D.1;replace bZ:=Yd5;exact absurd rfl (YAV.2 _ (ZTG:ZU8) _ b3)
theorem aku{P:PUnit→YP}{E:Y8}(bj:Y3V)(ps:Z5E):∀{ms es:dm}{mh:ag}{s:Shared},Y6V=some (t,Y9 kc es)→YU→a9 s.heap YdY YdZ→es.length+ms.length≤1000000→ie kc YD6→
  (∀s',a5 g ZcT s'→Step cX s mh s' ZcT→P PUnit.unit s')→wpAny Yu A (storeAll d ps) P E s:=by
 induction ps with
 |nil=>
  intro ms es mh s hd ae rs hz D h
  cases ms with
  |cons m ms=>exact rs.un λy bf e O O=>ZDJ
  |nil=>
   have h:=h s;rw[eL,Tj hd]at h;exact wpAny_pure (h ae Yy)
 |cons p ps ai=>
  intro ms es mh s hd ae rs hz D h
  cases ms with
  |nil=>exact absurd rs.jh Y03
  |cons m ms=>
   refine rs.un λy bf e b6 rs=>rs.un λd1 O5 aC dv rs=>?_;have aJ:=g4 (show p.1::p.2::YdY=YBW from e);have c1:=g4 (aJ.2.trans aC);refine ZJQ;have em:ZN4:=ZHb
   refine bd (bd (wpAny_mono (H4 (X:=cX) (R:=λO s2 aH=>aH=upd mh d (t,Y9 kc YD5)) ae hd Z3F (aa aJ.1 b6) (aa c1.1 dv) bj (au Yk hz:Y6M) λs2=>by exact aa (akt D) rfl) (λO s2 z=>z.elim λaH z=>Zl) Y0E));have A7:=z.3;subst A7;rw[em]at D h;refine ai Yc z.1 (aa c1.2 (rs.keep YIO)) (aT cj (au (dH (fO _ _ _)) hz)) D λs3 dB fJ=>?_;rw[wZ]at dB fJ;exact h s3 dB (Y0m fJ)
def tl(kc:Nat):dj:=lL ⟨λO O e=>pE (PH e) (λx=>ZeI&&x.1.2.isEmpty) Y9h,λO O m Q=>alloc m YPX Q⟩ Yru
 λ{g H k env c r mh e es Q}K L hm h=>j8 hm λx ao he A s aG ae aN=>Y2b λp z=>by
  refine dG ao λbD bC=>aT z (yk (sA bD) (gz ZZD ?_));replace h:=Y7d;refine wpAny_Dict_empty ?_;have b5:=YlI;exact((show alloc mh YPX Q from h) s.heap.objs.size YKo).elim λt q=>⟨_,ae.new (s':=YBX) (t:=t) (o:=YPX) b5 Y1f rfl rfl ⟨[],0,ZW,d2.nil,lC,YYk⟩,Step.new (s':=YBX) b5 Y1f,_,Y7M,q⟩
inductive BG(kc:Nat)(vs:Y3)(m:ag)(Q:Yj):Y1
 |mk (ms:dm) (e:vs=YdZ) (l:ZUr) (d:ZRA) (q:ZET):YQW
theorem BG.un(h:YQW):∃ms:dm,vs=YdZ∧ZUr∧ZRA∧ZET:=h.casesOn λms e l d q=>⟨ms,e,l,d,q⟩
theorem akv{c:bP}{keys:YFO}{values es:Ye}(hz:Fv keys values=Y2J)(h0:keys≠[])(hlen:keys.length≤15)(h:gH g k env c.ns r es mh λvs m=>YQW):Ev g k env c.ns r mh (eval (.Dict keys values pos) env) Q:=λA s aG ae aN=>by
 have b5:=YlI;have Br:a5 g mh YBX:=ae.grow (s':=YBX) b5 rfl rfl;have jA:Step cX s mh YBX mh:=Step.grow (s':=YBX) b5;have hd:Yyj:=ZW;have cq:YnC:=YKo;have Tu:=ako keys hz;refine wpAny_Dict_any Tu.1 Tu.2 h0 hlen (WP.mono (akp keys hz h aG Br (aN.ez jA)) λvs s2 z=>z.elim λaH z=>Y0g λl w=>w.2.un.elim λms w2=>?_);have Tv:aH s.heap.objs.size=none:=z.2.out hd cq;refine(Y5l.2.2 _ Tv).elim YsJ;have nU:a5 g Zby s2:=⟨Y5D,λb o e x aq=>Y6g b o e x (cA (dE (λcM=>by replace e:=aQ (AS ae YUs) (bN cM e);exact Y4t)) aq),λb u d e=>(by
   by_cases y:YSd
   ·replace e:=aQ Y6I (bN y e);have e:=ZOw;exact bL e.2 (aj y (⟨[],0,(Z4 _ _ hd cq id),d2.nil,lC,YYk⟩))
   ·replace e:=aQ (dE y) e;refine(z.1.3 b u d e).keep Y3U rfl λeJ dg bk=>⟨rfl,dE (λcM=>by replace bk:=aQ Tv (bN cM bk);exact cW bk.symm)⟩),z.1.4,z.1.5⟩
 have fJ:Step cX s mh s2 Zby:=by
  have y:=jA.trans z.2;refine⟨y.1,λb e=>?_,y.3,y.4⟩;by_cases fz:YSd
  ·exact YJ (aa fz Y1f)
  ·exact aT (dE fz) (y.2 b e)
 refine aku (kc:=kc) (t:=t) (es:=[]) (ms:=ms) aG.adG vs Yc nU (aV YEE w.1) (aT Hl (aj YDb (au Y5l.1 Y2))) Y5l.2.1 λs4 eb mT=>?_;rw[wZ]at eb mT;exact⟨_,eb,fJ.trans mT,_,Y7M,q⟩
def u5(kc:Nat):dj:=lL ⟨λO O e=>(PH e).elim none λx=>cond (! ZeI&&decide (x.1.1.length≤15)) (Fv Y2a Y1K) none,λO vs m Q=>YQW⟩ (λhm=>j7 hm Zkn)
 λ{g H k env c r mh e es Q}K L hm h=>j7 hm λx O hm=>Y2b λp z=>by
  have ak:=Kf hm;have av:=cL ak.1;exact aT z (akv ak.2 (λe=>by rw[e]at av;exact nb YG3) (of_decide_eq_true YG4) h)
theorem akw{lo af:Nat}(h:lo<af):lo≤Y5t∧Y5t<af:=⟨(ayl Y0J).mpr (aj YK5 (c0 YUq lo)),(aym Y0J).mpr (aL YK5 (ayn h af))⟩
abbrev y7(xs:ZB)(j p:Nat):Y1:=jd (p≤xs.size) (∀(i:Nat)(x:Nat),i<p→Zen) (∀(i:Nat)(x:Nat),p≤i→Zem)
abbrev nV(xs:ZB):Y1:=xs.toList.Pairwise YEo
theorem y8{xs:ZB}(r:YDm){x:Nat}(h:i<j)(af:Y3w)(aM:xs[j]?=Y06):x<y:=by
 (replace af:=aj (l9) af;replace aM:=ZE8)
 have Tw:=jJ af;have Tx:=jJ aM;exact aQ Tw.2 (bL Tx.2 (N5.mp r i j Tw.1 Tx.1 h))
theorem akx{xs:ZB}(r:YDm):∀(f lo af:Nat),lo≤af→af≤xs.size→af≤lo+f→(∀i x,i<lo→Zen)→(∀i x,af≤i→Zem)→y7 xs j (Oa xs j f lo af):=by
 intro f
 induction f with
 |zero=>
  intro lo af ak av aP da fG;have e:=mG ak aP;exact⟨e▸av,da,e▸fG⟩
 |succ f ai=>
  intro lo af ak av aP da fG;have fx:Oa xs j (f+1) lo af=if lo<af then(if Zeg<j then Oa xs j f (Y5t+1) af else Oa xs j f lo Y5t)else lo:=rfl
  refine aL fx ?_;by_cases fQ:lo<af
  ·refine aL ZRS ?_;have m:=akw fQ;have hs:Y5t<xs.size:=ew m.2 av;have cR:xs[Y5t]?=some Yqk:=od hs;have iW:Zeg=Yqk:=by refine aj (sq) (aT cR ?_);rfl
   refine aa iW ?_;by_cases q:Yqk<j
   ·refine aL ZU (ai _ af m.2 av (au aP ?_) Zix fG)
    ·exact aL (fO _ 1 f) (h7 m.1 (f+1))
    ·rcases Ao j5 with l | l
     ·exact lD (y8 r l aq cR) q
     ·replace aq:=aQ cR (bN l aq);exact cu aq▸q
   ·refine aL ZN (ai lo _ m.1 (h9 hs) (hp (ew m.2 aP)) da Zix);rcases Ob j5 with l | l
    ·exact h9 (fF Y9D (y8 r l cR aq))
    ·replace aq:=aQ cR (aX l aq);exact cu aq▸Y9D
  ·refine aL ZRG ?_;have e:=mG ak ZQl;exact⟨aa e av,da,aa e fG⟩
theorem BH{xs:ZB}(r:YDm)(j:Nat):y7 xs j YWD:=akx r xs.size 0 xs.size Z0 YW Y1X Ziv λi x h aq=>absurd (wh aq).1 (sm h)
theorem Kh{xs:ZB}{p q:Nat}(a:Zer)(b:Zes):p=q:=by
 have key:∀{p q:Nat},Zer→Zes→¬p<q:=λ{p q}a b h=>by
  have aq:xs[p]?=some (xs[p]'(ew h b.1)):=od _;exact absurd (b.2 p _ h aq) (sm (a.3 p _ (bV p) aq))
 exact mG (hq (key b a)) (hq (key a b))
theorem aky{xs:ZB}(r:YDm):oe xs 0=0:=Kh (BH r 0) ⟨Z0,Ziv,λi x O O=>dQ x⟩
theorem akz{xs:ZB}(r:YDm){x:Nat}(h:Y3w):oe xs (x+1)=i+1:=Kh Z2s ⟨YzJ,λk y aR bb=>by
  rcases Ao aR with l | l
  ·exact p9 (y8 r l bb h)
  ·replace bb:=aQ h (bN l bb);exact Yip▸o9 x,λk y aR bb=>y8 r aR h bb⟩
theorem Ki{xs:ZB}(r:YDm){x:Nat}(h:Y3w):oe xs x=i:=Kh Z2s ⟨h9 YzJ,λk y aR bb=>y8 r aR bb h,λk y aR bb=>by
  rcases Ob aR with l | l
  ·exact h9 (y8 r l h bb)
  ·replace bb:=aQ h (aX l bb);exact dH Yip⟩
theorem akA{xs:ZB}(r:YDm)(aM:∀i:Nat,Yql≠Y0N):nV (pb xs YWD j):=by
 have b:=BH r j;show(pb xs YWD j).toList.Pairwise _;refine aL YdI ?_;generalize YWD=p at b;have dv:(xs.toList.take p++xs.toList.drop p).Pairwise YEo:=aL Z2d r;have uK:=axN.mp dv;refine OJ ⟨uK.1,Dx ⟨YOH,uK.2.1⟩,λa aD x aq=>?_⟩
 ·obtain⟨i,af⟩:=pe aq;replace af:=aQ (l9) (aQ (acd) af);exact rb (b.3 _ x Yk af) λe=>aM _ (aa e af)
 ·rcases dz aq with e | aq
  ·obtain⟨i,af⟩:=pe aD;have li:i<p:=by
    have w:=YaZ;replace w:=bL List.length_take w;exact ew w (Nat.min_le_left _ _)
   replace af:=aQ (l9) (aQ (N1 li) af);exact aL e (b.2 i a li af)
  ·exact uK.2.2 a aD x aq
theorem Kj(t:SetTable)(j:Nat):YBO=if YpX then Y71 ZW8 else if YeC then YbO else Y2O:=rfl
theorem akB{t:SetTable}(r:YMa)(h:YpW):YpZ:=by
 rw[Kj,Ki r h,h];exact ZRK
theorem Fw{t:SetTable}(h:YpZ):YpW:=by
 replace h:=aQ (Kj ..) h;by_cases q:Yyz
 ·replace h:=Yg7;exact bN (SetTable.Slot.live.inj h) Y1e
 ·replace h:=Yg6;by_cases ck:YeC=true
  ·replace h:=aQ ZRR h;exact Hn h
  ·replace h:=aQ Yln h;exact Hn h
theorem Tz(j:Nat):SetTable.has #[] j=false:=rfl
theorem Kk{t:SetTable}(hd:YHt)(j:Nat):YXV∨∃i,YpZ:=by
 rw[Kj,hd,Tz];by_cases q:Yyz
 ·rw[ZU];exact YJ YOM
 ·refine aT ZN ?_;exact Zj
theorem Kl{t:SetTable}(r:YMa)(h:YXV)(i:Nat):YHu≠Y0N:=λe=>by
 replace h:=aQ (akB r e) h;exact Hn h
theorem akC{t:SetTable}{f:Z5c}{h:Int}(hd:YHt):∀(n:Nat)(p:SetTable.Probe)(j:Nat)(d:Y0X),p.dummy=none→qa t f h n p=ZZf→YXV∧d=none:=by
 have hc:∀p:v9,(t.advance p).dummy=p.dummy:=λp=>by
  by_cases q:Ynt
  ·exact ZCM
  ·exact ZCL
 intro n
 induction n with
 |zero=>exact λp j d O e=>Y4t
 |succ n ai=>
  intro p j d ar e;have fx:qa t f h (n+1) p=match t.slot p.j with
   |Y2O=>some (Y2O p.j p.dummy)
   |YbO=>qa t f h n (t.advance {p with dummy:=some p.j})
   |Y71 i=>if YUM then some (YbL p.j i YXP)else ZXl:=rfl
  replace e:=aQ fx e;rcases Kk hd p.j with q | ⟨i,q⟩
  ·replace e:=DC q e;have w:=SetTable.Met.empty.inj Y4G;exact⟨aV w.1 q,aV w.2 ar⟩
  ·replace e:=DC q e;by_cases z:YUM=true
   ·have e:YxH:=e;replace e:=aQ Ylw e;exact SetTable.Met.noConfusion Y4G
   ·have e:YxH:=e;replace e:=aQ Ylq e;exact ai _ j d ((hc p).trans ar) e
abbrev h1(n:Nat)(led:Bool)(t:SetTable):Y1:=iG ZbC YMa YHt YNM (n≤t.mask)
variable{led:Bool}
theorem h1.fits{n:Nat}{t:SetTable}(b:YLr):Zb8:=by
 delta ace Od;rw[b.3,b.1];exact lF ⟨Yhn,decide_eq_true b.5⟩
theorem h1.u6{t:SetTable}(n:Nat)(h:YNM):h1 n led (t.standIn n):=⟨Array.size_range,by show(Array.range n).toList.Pairwise _;refine aL Array.toList_range ?_;exact Ho,rfl,h,au (Oe n YJ4) Yk⟩
theorem h1.or{n m:Nat}{t:SetTable}(hs:ZbC)(rs:YMa)(bZ:YHt)(ld:YNM):h1 n led (t.orStandIn n):=by
 by_cases q:Zb8
 ·refine aL ZU ?_;unfold ace Od at q;have q:=of_decide_eq_true YAX.2;rw[bZ,hs]at q;exact⟨hs,rs,bZ,ld,q⟩
 ·exact aL ZN (.u6 n ld)
theorem Km(xs:YQT)(p:Nat)(x:α):(pb xs p x).size=xs.size+1:=by
 exact aQ iv (aj ((ayr xs p x).length_eq) (aj iv ((Array.size_push ..))))
theorem TA{n:Nat}{t:SetTable}(b:YLr)(h:YXV):Y3L.1.place.size=n+1∧nV Yb3∧Y3L.1.dummies=#[]∧Y3L.1.led=led∧YBs≤n∧Yb3=pb t.place YBs j:=by
 refine⟨(Km _ _ _).trans (congrArg Y3l b.1),akA b.2 (Kl b.2 h),?_,b.4,aV b.1 ((BH b.2 j).1),rfl⟩;show(if YeC then SetTable.eraseAt t.dummies (oe t.dummies j)else t.dummies)=#[];rw[b.3,Tz];rfl
theorem akD{t:SetTable}{es:Y0W}(b:YUn)(h:Int)(x:Value):∃p,Ymm.1.toList=ZNB++YBm::ZNA∧h1 Y4x led Ymm.2.1:=by
 have e:Ymm=match Zb9 with
  |some (slot,Fx)=>(pb es YNN.2 YBm,YNN.1.orStandIn Yy7,Fx,! YNN.1.fits Yy7)
  |none=>(es.push YBm,t.standIn Y4x,false,true):=rfl
 refine Y4n
 cases q:Zb9 with
 |none=>exact⟨es.size,by show(es.push YBm).toList=_;exact aj acf (HH iv (dS N0 (fH List.drop_length rfl))),.u6 _ b.4⟩
 |some z=>
  have aM:t.slot z.1=Y2O:=by
   unfold SetTable.freeSlot at q
   cases ck:t.probe (λO=>h+1) h (t.probeStart h)with
   |none=>replace q:=Ykt;exact Yia
   |some m=>cases m with
    |candidate _ _ _=>replace q:=Ykt;exact Yia
    |empty j d=>
     have w:=akC b.3 _ _ j d rfl ck
     (replace q:=Ykt;rw[w.2]at q)
     exact k7 YCv w.1
  have w:=TA b aM;refine⟨YpY.2,Hm _ _ _,?_⟩;show h1 _ _ (YpY.1.orStandIn (pb es YpY.2 YBm).size);exact bW (Km ..) (.or (m:=0) w.1 Y3i Y3M.1 Y3M.2.1)
theorem TB(owner:Z2g)(l:YV)(h:l.Pairwise YEo):((l.filterMap Ys2).map Yh).Pairwise YEo:=by
 induction l with
 |nil=>exact Hk
 |cons a l ai=>
  have h:=OK h;refine bW Dm ?_
  cases q:owner.getD a none with
  |none=>exact YSO
  |some k=>
   refine Dx ⟨λb ah=>YM,YSO⟩;obtain⟨z,hz,e⟩:=ee ah;obtain⟨c,ao,aC⟩:=yf hz;refine Yb
   cases ck:owner.getD c none with
   |none=>replace aC:=ZGO;exact ZJ4
   |some du=>
    replace aC:=ZGO;exact bL e (fU YGQ (h.1 c ao))
theorem akE{mask f m:Nat}{pl:Bool}{hs:YCG}{t:SetTable}{o:ZB}(h:Hp mask f m led pl hs=Y58):YMa∧YHt∧YNM∧t.mask=mask∧∃owner,Z5l=some owner∧t.place=(YtY Yh).toArray∧o=(YtY Y1w).toArray:=by
 unfold Hp at h
 cases q:Z5l with
 |none=>rw[q]at h;exact Y08
 |some owner=>
  rw[q]at h;have w:=gQ Y4u;rw[←w.1,←w.2];exact⟨TB owner _ Ho,rfl,rfl,rfl,owner,rfl,rfl,rfl⟩
theorem akF{t:SetTable}{es:Y0W}(h:YNM)(wanted:Nat):h1 YoY.1.size led YoY.2.1:=by
 have e:YoY=match ZbD with
  |some (dg,order)=>if coversAll order es.size&&dg.fits (ZWI).size then(ZWI,dg,false)else YaL
  |none=>YaL:=rfl
 rw[e]
 cases q:ZbD with
 |none=>exact .u6 _ h
 |some z=>
  by_cases c:(ZK3)=true
  ·show ZQA;rw[ZRQ];have f:=YTN.2;have w:=akE (t:=z.1) (o:=z.2) q;unfold ace Od at f;refine dG f YEP;have f2:=ZWB;rw[Y3i,Y95]at f2;exact⟨Y95,w.1,Y3i,Y3M.1.trans h,f2⟩
  ·show ZQA;rw[if_neg c];exact .u6 _ h
noncomputable abbrev gk (es:Y0W) (ep:Nat) (t:SetTable):Obj:={cls:=YCD,dict:=none,data:=.set es ep t}
def gX(w:World)(h:Heap)(l:Y36)(us:Y3):Y1:=ZAV∧YDa=ZcZ
variable{us:Y3}
theorem gX.len{l:Y36}(x:YGm):l.length=us.length:=by
 have e:=ZeJ;replace e:=aQ YF e;exact e
theorem gX.keep{l:Y36}(k:Y2T)(x:YGm):gX w h' l us:=⟨x.1.keep k,x.2⟩
theorem gX.ins{l:Y36}(x:YGm)(p:Nat){y:Value}{u:V}(r:Yfu):gX w h (ZTX++(Y0Z,y)::ZTQ) Zca:=by
 refine Zml
 ·exact aj dK (aX mF (aT acg (dU ach ((x.1.take p).append (a9.cons r (x.1.drop p))))))
 ·rw[dK,mF,acg,ach,x.2,dK,mF,acg,ach]
theorem gX.y9{l:Y36}{e:Z7}{u:V}:gX w h ZLo YNS↔ZLe∧YGm:=⟨λx=>x.1.un λy bf aJ r rs=>by
 have aJ:=g4 aJ;have aC:=g4 x.2;exact⟨⟨YAM,aj (show e.2=y from aJ.1) r⟩,by show ZAV;refine aj (show YVT=bf from aJ.2) ?_;exact rs,YAN⟩,λz=>⟨a9.cons Y6g Z4,by rw[mF,mF,Y5D,Z3]⟩⟩
theorem gX.Kn{l:Y36}{e:Z7}(x:gX w h ZLo us):∃u vs,us=u::vs:=by
 cases us with
 |nil=>exact absurd x.len Y7q
 |cons u us=>exact⟨u,us,rfl⟩
theorem gX.perm{l l':Y36}(p:Ymc):∀{us:Y3},YGm→∃d0,YTh∧gX w h l' d0:=by
 have key:∀{a b:Y36},a.Perm b→∀{us:Y3},gX w h a us→∃d0,YTh∧gX w h b d0:=by
  intro a b p
  induction p with
  |nil=>exact λ{us}x=>⟨us,Y3U,x⟩
  |cons e p ai=>
   intro us x;obtain⟨u,vs,rfl⟩:=x.Kn;have x:=ZP5;obtain⟨fX,dV,y⟩:=ai x.2;exact⟨u::fX,dV.cons u,gX.y9.mpr ⟨x.1,y⟩⟩
  |swap e f l=>
   intro us x;obtain⟨u,vs,rfl⟩:=x.Kn;have x:=ZP5;obtain⟨v,vs,rfl⟩:=x.2.Kn;have y:=gX.y9.mp x.2;exact⟨v::u::vs,Z28,gX.y9.mpr ⟨y.1,gX.y9.mpr ⟨x.1,y.2⟩⟩⟩
  |trans p q akG akH=>
   intro us x;refine YM;obtain⟨vs,ek,y⟩:=akG x;obtain⟨ws,cO,z⟩:=akH y;exact ax (⟨ws,cO.trans ek,z⟩)
 exact λ{us}x=>key p.symm x
theorem gX.at_{l:Y36}(x:YGm){e:Z7}(he:Y53=Y59):∃u,Yq2=YpM∧ZLe:=by
 have af:ZQw:=aV x.len YxT;have bj:Yq2=some Zcb:=Y2o;refine⟨_,bj,?_,?_⟩
 ·have aC:YOz[i]?=ZaY:=ZHy
  have c1:ZcZ[i]?=some (ef w Zcb):=by rw[gy,bj];rfl
  exact c4 aC ((congrArg (·[i]?) x.2).trans c1)
 ·obtain⟨y,bb,r⟩:=x.1.get bj;have aC:(YVT)[i]?=YpI:=ZHy
  exact c4 aC bb▸r
abbrev akI(w:World)(led:Bool)(h:Heap)(a:Nat)(us:Y3)(P:Y1):Y1:=∀(es:_)(ep:_)(t:_),YGs→YUn→Ykn→P
abbrev m8(w:World)(led:Bool)(h:Heap)(a:Nat)(us:Y3):Y1:=∀P:Y1,akI w led h a us P→P
theorem BI{es:Y0W}{t:SetTable}:¬kept h ZPD:=λk=>k.elim (λe=>absurd (t8 e.1) YC) λz=>z.elim λxs z=>z.elim λn z=>absurd (t8 ZJt) YC
theorem za{es:Y0W}{t:SetTable}(aA:YGs)(kq:Y0W)(dg:SetTable):(h.update a YXy).get? a=some (gk kq Y94 dg):=q7 YXy aA rfl
theorem TC{es:Y0W}{t:SetTable}(aA:YGs){kq:Y0W}{dg:SetTable}(b:h1 kq.size led dg)(x:gX w h kq.toList us):m8 w led (h.update a YXy) a us:=
 (λO bA=>bA kq Y94 dg (za aA kq dg) b (x.keep (qg aA BI (km h a YXy).2)))
abbrev zb(prog:Program)(w:World){K:Y4i}[YQb](knd:YRG)(ok:Y5Q)(key:YRf):Y1:=jd (∀{h:Heap}{x:Value}{u:V},Y7v→ZB9→knd.is YMG x=true∧x.scannable=true) (∀u,Y7v→YVP=Y0Z) (∀u v,Y7v→ok v→YMG=key v→u=v)
theorem zb.elems{K:Y4i}[YQb]{knd:YRG}{ok:Y5Q}{key:YRf}(C:Yr2){es:Y0W}(x:Ykn)(bj:∀u∈us,Y7v):ElemsOf knd es.toList:=λe he=>by
 refine YM;obtain⟨i,af⟩:=pe he;obtain⟨u,ak,av,aP⟩:=x.at_ af;refine Yb;have o:=bj u ZNJ;exact⟨⟨YMG,Z31.1,av.trans (C.2 u o).symm⟩,Z31.2⟩
theorem TF{E:Y8}{g:Bool→Z7k}(cR:∀(b:Bool)(s1:Shared)(Q':Y5P),Z6u→wpAny YR A (g b) Q' E s1){es:Y0W}{t:SetTable}(aA:Y3f){f6:Y0W}{t1:SetTable}(b1:h1 f6.size led t1)(c6:gX w s.heap f6.toList us)(ah:us.length<4096){Fx:Bool}{R:YeE→YP}(h:∀h' d0,YDf→YTh→ZUD→R YNK Yx):
  wpAny YR A (do
    storeSet a f6 t1
    if YtN then do
      g YWq.2.2
      storeSet a YWq.1 YWq.2.1
      ZXC
     else ZXC) R E s:=by
 have fZ:f6.size<scanBound:=aQ iv (aj c6.len ah);have s1:=km s.heap a (x6 f6 t1);refine bd (wpAny_storeSet_of aA rfl ?_ (fits_of_scanBound fZ));by_cases q:YtN
 ·refine ZJP;have ar:=relayAll_perm t1 f6 YqL;have hI:=akF (es:=f6) b1.4 YqL;generalize YWq=aA4 at ar hI ⊢;refine YM;obtain⟨d0,dV,cT⟩:=(c6.keep ZXq).perm ar;refine ax (bd (cR _ _ _ (bd (wpAny_storeSet_of ZfO rfl Zl (fits_of_scanBound ?_)))))
  ·exact h _ d0 (s1.trans ZTB) dV (TC ZfO hI cT)
  ·exact aQ iv (aj ar.length_eq (aj iv fZ))
 ·exact cb ZN (wpAny_pure (h _ us s1 Y3U (TC aA b1 c6)))
theorem akJ{n:Nat}{t:SetTable}(b:YLr):h1 n led {t with plain:=false}:=⟨b.1,b.2,b.3,b.4,b.5⟩
theorem akK{K:Y4i}[YQb]{knd:YRG}{ok:Y5Q}{key:YRf}{E:Y8}(C:Yr2){u:V}(Z:m8 w led s.heap a us)(bj:∀u∈us,Y7v)(pG:Y7v)(bg:YKj)(ah:ZcX<4096){Q:Y1n}(h0:Yq4)(ak:YE9→∀h' d0,YDf→YTg→ZUD→YeX):Zdc:=by
 refine bp λax=>Z _ λes ep t aA hI hX=>Yb;have fa:=C.elems hX bj;have lp:=C.1 pG bg;have fZ:es.size<scanBound:=aQ iv (aj hX.len (Nat.lt_of_succ_lt ah));refine Zdu;dsimp only;refine aa (byScan_of lp.2 fZ fa) (bd (bd (wpAny_rule (aV Z32 (bd (wpAny_setScan_of lp.1 aA rfl hI.fits fa ?_))))))
 cases bo:List.findIdx? (λe=>knd.is YMG e.2) es.toList with
 |some j=>
  refine YM;have TG:=List.findIdx?_eq_some_iff_getElem.mp bo;obtain⟨v,aP,da,fG⟩:=hX.at_ (dy TG.1);refine Yb;have BJ:=ZH5;have e:=C.3 u v pG BJ (knd.inj _ _ _ TG.2.1 (C.1 BJ fG).1);exact wpAny_pure (wpAny_pure (h0 (aa e ZNI)))
 |none=>
  have tm:YE9:=λhm=>by
   refine YM;obtain⟨i,af⟩:=pe hm;have li:ZQu:=aa hX.len YaZ;obtain⟨v,aP,da,fG⟩:=hX.at_ YjP;refine Yb;have w:=List.findIdx?_eq_none_iff.mp bo _ Zcm;replace w:=aQ ((C.1 ZH5 fG).1) (Au (c4 af aP) w);exact nb w
  have Ko:∀(b:Bool)(s1:Shared)(Q':Y5P),Z6u→wpAny YR A (match b with | true=>rule "set.scan.the-table-gave-way" | false=>YWb) Q' E s1:=λb s1 Q' q=>by cases b <;> first | exact Ze4 | exact wpAny_rule q
  refine YM;obtain⟨p,BK,u7⟩:=akD hI YVP x;refine Yb;generalize layNew t es YVP x=L at BK u7 ⊢;have BK:L.1.toList=ZNB++(YVP,x)::ZNA:=BK;rw[Z32]at BK;have rL:=hX.ins p bg;replace rL:=aj BK rL;have pm:(YXh++YXZ).Perm YNS:=by
   refine ZDU;rw[Ai]
  have qC:L.1.size=Y4x:=by rw[←iv,rL.len,pm.length_eq,g5,←hX.len,iv]
  have u7:h1 Y4x led Y7B:=u7;replace u7:=d9 qC u7;have ip:(YXh++YXZ).length<4096:=aj pm.length_eq ah;have fin:=λh' d0 hW(dV:d0.Perm Zca)z=>ak tm h' d0 hW ZKq z;refine Yg;intro aA5 aA6 aA7;refine bd (Ko _ _ _ ?_)
  split
  ·refine bd (cb (hashByValue_scannable 8 lp.2) (wpAny_pure (TF Ko aA ?_ rL ip ZiP)))
   split
   ·exact u7
   ·exact akJ u7
  ·exact bd (wpAny_pure (TF Ko aA u7 rL ip ZiP))
noncomputable abbrev u9 (m:Nat):SetTable:={mask:=m,place:=#[],dummies:=#[],finger:=0,led:=true,moves:=0,plain:=true}
def hc(m n:Nat)(p:v9):v9:=n.rec p λO q=>Y9t q
noncomputable abbrev ka (m i pt:Nat):v9:={j:=i,more:=Y6R,i:=i,perturb:=pt,dummy:=none}
noncomputable abbrev mu (m i pt n:Nat):Nat:=YaR
theorem TH(m a b:Nat)(p:v9):hc m (a+b) p=hc m b (hc m a p):=by
 induction b with
 |zero=>rfl
 |succ b ai=>exact congrArg Y9t ai
theorem zc{m:Nat}(h:Y9H):i≤Z7l∧Y7o≤i+9∧Y7o≤m:=by
 unfold iS;by_cases q:i+9≤m
 ·rw[ZU];exact⟨Yk,YW,q⟩
 ·rw[ZN];exact⟨YW,Yk,h⟩
variable{pt:Nat}
theorem TJ{m:Nat}:∀k,i+k≤Z7l→ZQY={j:=i+k,more:=ZR5,i:=i,perturb:=pt,dummy:=none}:=by
 intro k
 induction k with
 |zero=>exact Zm
 |succ k ai=>
  intro h;have e:hc m (k+1) Y2u=Y9t ZQY:=rfl;exact aj e (aX (ai (ud h)) (if_pos (acj h:ZR5 > 0)))
theorem TK{m:Nat}(h:Y9H):ZQX=ka m YJJ YP1:=by
 have e:ZQX=Y9t (hc m Y6R Y2u):=rfl;have hs:i+Y6R=Y7o:=rd (zc h).1
 (refine aj e (aX (TJ _ (dH hs)) (aa hs (aa Yoa ?_))))
 exact if_neg ZbH
theorem Fy(m i pt:Nat):YJJ≤m:=ZQh
def kb(m n:Nat)(x:Y0j):Y0j:=n.rec x λO y=>ZUG
theorem Kp(m a b:Nat)(x:Y0j):kb m (a+b) x=kb m b (kb m a x):=by
 induction b with
 |zero=>rfl
 |succ b ai=>exact congrArg (λy:Y0j=>ZUG) ai
theorem TL{m:Nat}(h:Y9H)(n:Nat):(kb m n YaV).1≤m:=by
 cases n with
 |zero=>exact h
 |succ n=>exact YQl
theorem akL{m:Nat}(h:Y9H)(L:Nat):∃n,n≤10*L∧YlO=ka m YJH YHB.2:=by
 induction L with
 |zero=>exact⟨0,YW,rfl⟩
 |succ L ai=>
  refine YM;obtain⟨n,az,e⟩:=ai;refine Yb;have aE:=TL (pt:=pt) h L;refine⟨n+(iS m YJH - YJH+1),?_,?_⟩
  ·exact gR az (dX (Nat.sub_le_iff_le_add'.mpr (zc aE).2.1))
  ·rw[TH,e,TK aE];rfl
theorem akM(m:Nat)(x:Y0j)(n:Nat):Yxd=x.2 / 32 ^ n:=by
 induction n with
 |zero=>exact(Nat.div_one _).symm
 |succ n ai=>
  show Yxd / 32=_;exact aT ai (aj (Nat.div_div_eq_div_mul ..) (bW ZeU rfl))
def Kq(m:Nat):Nat→YL
 |0,i=>i
 |n+1,i=>Kq m n YaU
def meets(m:Nat):Bool:=(List.range (m+1)).all λi=>(di (m+1)).all λe=>(di (m+1)).any λc=>Kq m c i==e
theorem akN(m:Nat):∀n i,(kb m n YOv)=(Kq m n i,0):=by
 intro n
 induction n with
 |zero=>exact λi=>rfl
 |succ n ai=>
  intro i;have e:kb m (n+1) YOv=kb m n ZT1:=aT YDH (Z4q);have aJ:ZT1=(YaU,0):=by
   show mH m i 0=_;exact congrArg _ (Nat.zero_div ..)
  exact aj e (aX aJ (ai YaU))
theorem akO{m:Nat}(hm:YVg)(af:Y9H)(he:YLe):∃c,c≤m∧(kb m c YOv).1=e:=by
 have h:meets m=true:=by rcases hm with q | q <;> exact ZJx <;> decide +kernel
 have h:=ju (ju h i (og (x3 af))) e (og (x3 he));refine YM;obtain⟨c,ao,h⟩:=OF h;exact ax (⟨c,hp (jK ao),aX (akN ..) Y15⟩)
theorem TM{m:Nat}(hm:YVg)(af:Y9H)(ar:pt<Yce)(he:YLe):∃L,L≤13+m∧YJH=e:=by
 have av:YmW.2=0:=aj (akM ..) (Nat.div_eq_of_lt (ew ar Y2));refine YM;obtain⟨c,ao,mR⟩:=akO hm (TL (pt:=pt) af 13) he;exact ax (⟨13+c,c0 ao 13,aX Z4q (dU (show YmW=(YmW.1,0)from iF rfl av) mR)⟩)
theorem akP{m:Nat}(hm:YVg)(af:Y9H)(ar:pt<Yce)(he:YLe):∃n,n<10*YQs∧ZUv=e:=by
 refine YM;obtain⟨L,eW,kd⟩:=TM hm af ar he;obtain⟨n,az,fq⟩:=akL (pt:=pt) af L;refine ax (⟨n,fF az (Nat.mul_lt_mul_of_pos_left (fF eW ?_) Y2),?_⟩)
 ·show Z2O;rw[gi];exact ZDV
 ·show YaR=e;exact aX fq kd
theorem TN(h:Int):SetTable.bits h<Yce:=by
 exact(Int.toNat_lt (Int.emod_nonneg _ YC)).mpr (Int.emod_lt_of_pos _ YC)
noncomputable abbrev w0 (m:Nat) (h:Int):Nat:=YpP
theorem zd(m:Nat)(h:Int):YXo≤m:=ZQh
noncomputable abbrev f7 (m:Nat) (h:Int) (n:Nat):Nat:=mu m YXo YHr n
noncomputable abbrev oN (m:Nat) (h:Int) (n:Nat):v9:=hc m n (ka m YXo YHr)
theorem akQ(m:Nat)(h:Int)(n:Nat):(oN m h n).dummy=none:=by
 have a:∀p:v9,(Y9t p).dummy=p.dummy:=λp=>by
  by_cases q:Ynt
  ·exact ZCM
  ·exact ZCL
 induction n with
 |zero=>rfl
 |succ n ai=>exact(a _).trans ai
theorem akR{t:SetTable}{f:Z5c}{h:Int}(hd:YHt):∀(fuel n ne:Nat),n≤ne→ne<n+fuel→t.slot (f7 t.mask h ne)=Y2O→
  ∃k,n≤k∧k≤ne∧(∀i,n≤i→i<k→∃x,t.slot (f7 t.mask h i)=Y71 x∧f x≠h)∧
   ((ZbF=Y2O∧ZXk=some (Y2O YUV none))∨
    ∃x,ZbF=Y71 x∧f x=h∧ZXk=some (YbL YUV x (oN t.mask h (k+1)))):=by
 intro fuel
 induction fuel with
 |zero=>exact λn ne ak av O=>absurd ak (su av)
 |succ fuel ai=>
  intro n ne ak av he;have fx:ZXi=match t.slot YLi with
   |Y2O=>some (Y2O YLi (oN t.mask h n).dummy)
   |YbO=>qa t f h fuel (t.advance {YMh with dummy:=some YLi})
   |Y71 i=>if YUM then some (YbL YLi i Ynf)else ZXj:=rfl
  rcases Kk hd YLi with q | ⟨x,q⟩
  ·exact⟨n,YW,ak,Zij,YY ⟨q,aj fx (As q (dU (akQ ..) rfl))⟩⟩
  ·by_cases z:f x=h
   ·exact⟨n,YW,ak,Zij,YJ ⟨x,q,z,aj fx (As q (if_pos (beq_iff_eq.mpr z)))⟩⟩
   ·refine YM;obtain⟨k,dC,du,gs,jl⟩:=ai (n+1) ne (rb ak λe=>by replace he:=aQ q (dU e he);exact Hn he:n+1≤ne) (aL Y98 av) he;refine Yb;have aJ:ZXi=ZXj:=by
     exact aj fx (As q (if_neg λw=>z (eq_of_beq w)))
    refine⟨k,ud dC,du,λi a b=>?_,by rw[aJ];exact jl⟩;rcases Ob a with a | a
    ·exact gs i a b
    ·exact aV a (⟨x,q,z⟩)
theorem Kr{α:Y4i}[Y8W][Y8X]{L:ZC}:ZmK:=by
 induction L with
 |nil=>exact ZgH
 |cons a L ai=>
  intro M bZ h;have bZ:=YE7;have aD:=YGp;have:=ZDf;replace this:=ZG8;exact ZEl
theorem akS{n:Nat}{t:SetTable}(b:YLr):∃e,e≤t.mask∧t.slot e=Y2O:=by
 refine ZHK;have aE:∀e,e∈di ZbB→e∈t.place.toList:=λe he=>by
  rcases Kk b.3 e with q | ⟨x,q⟩
  ·exact absurd ⟨e,ZQi,q⟩ az
  ·have w:=Fw q;replace w:=aj (l9) w;exact et w
 have w:=Kr (x9 (n:=ZbB)) aE;replace w:=bL b.1 (bL iv ZBk);exact absurd (au w b.5) (ayw _)
abbrev Own:=Z2g
theorem Ks{o:Own}:(o.getD j YNH).isNone=true↔YWB=Y3K:=by
 refine gT (sq) ?_
 cases YWB with
 |none=>exact⟨nb,Yrr⟩
 |some x=>cases x with
  |none=>exact⟨Zm,Zm⟩
  |some k=>exact⟨nb,λh=>cW Y4u⟩
theorem akT{n:Nat}{p:Z9}(h:(List.range n).find? p=Y6e):k<n∧p k=true∧∀i,i<k→p i=false:=by
 refine YM;obtain⟨bX,as,bs,e,aD⟩:=List.find?_eq_some_iff_append.mp h;refine Yb;have lp:∀i(l:Nat),YvR=YE3→l=i:=λi l q=>by
  replace q:=aT e q;refine YM;obtain⟨li,fa⟩:=jJ q;refine Yb;replace fa:=aQ YK6 fa;exact fa.symm
 have i5:=lp as.length k ZI2;refine⟨jK (ayi h),bX,YER⟩;replace af:=bL i5 af;have aq:YvR=some (as[i]'af):=by refine aj ZXm ?_;exact Y2o
 have w:=aD _ Zcl;replace w:=k7 (lp i _ aq) w
 cases q:p i with
 |false=>rfl
 |true=>replace w:=YCo;exact nb w
theorem akU{m:Nat}{o:Own}:∀(fuel i pt:Nat),Y9H→(∃L,L<fuel∧o[YJH]?=Y3K)→
  ∃N,Hr m o fuel i pt=some ZUt∧o[ZUt]?=Y3K∧∀k,k<N→ZW3:=by
 intro fuel
 induction fuel with
 |zero=>exact λO O O z=>z.elim λL z=>absurd z.1 (pa L)
 |succ fuel ai=>
  intro i pt af z;obtain⟨L,eW,az⟩:=z;have fx:Hr m o ZOW i pt=match YwD with
   |Y6e=>some (i+k)
   |none=>Hr m o fuel YJJ YP1:=rfl
  have w:∀k,YlW→ZUu=i+k:=λk h=>by
   show(hc m k Y2u).j=i+k;exact congrArg _ (TJ k h)
  cases q:YwD with
  |some k=>
   have f:=akT q;have aR:YlW:=hp (by have z:=Nat.add_lt_of_lt_sub' f.1;exact z);refine⟨k,by exact aj fx (dT q (bW ZdE rfl)),by refine aX ZdE ?_;exact Ks.mp f.2.1,λa aD e=>?_⟩;replace e:=bN (w a (au (c0 (h9 aD) i) aR)) e;have z:=f.2.2 a aD;replace z:=aQ Z4r z;exact nb z
  |none=>
   have full:∀k,k≤Y6R→ZW3:=λk aR e=>by
    have BL:YlW:=au (c0 aR i) (dH ZYV);replace e:=bN (w k BL) e;have z:=List.find?_eq_none.mp q k (og (Nat.lt_sub_of_add_lt (by rw[gi];exact x3 BL)));exact z Z4r
   cases L with
   |zero=>
    have z:=full 0 Z0;exact absurd az z
   |succ L=>
    rw[gi,Kp]at az;refine YM;obtain⟨N,ak,av,aP⟩:=ai YJJ YP1 YQl ⟨L,Nat.lt_of_succ_lt_succ eW,az⟩;refine Yb;have ad:∀k,mu m i pt (YV4+k)=mu m YJJ YP1 k:=λk=>by
     show(hc m _ Y2u).j=_;exact aX (TH ..) (dU (TK af) rfl)
    refine⟨YV4+N,by refine aj fx (dT q (bW ZDa ?_));exact ak,by refine ZCI;exact av,YOD⟩;by_cases z:k≤Y6R
    ·exact full k z
    ·obtain⟨d,iW⟩:=ayx (Dl z)
     (rw[ZZR]at aR;refine dU ZZR ?_)
     refine ZCI;exact aP d (ayy aR)
abbrev rM(m:Nat)(hs:Y8Y)(o:Own)(n:Nat):Y1:=hr (o.size=m+1) (∀(j k:Nat),Yni→k<n) (∀(k:Nat)(h:Int),k<n→hs[k]?=YpJ→∃N,o[Y97]?=Y5h∧∀i,i<N→∃oq,o[f7 m h i]?=some (some oq)) (∀(j h2 k:Nat),Yni→o[h2]?=Y5h→j=h2)
variable{hs:Y8Y}
theorem rM.TO{m n:Nat}{o:Own}(x:YoV)(aM:j≤m)(h:YWB≠Y3K):∃k,Yni:=by
 have l:j<o.size:=aL x.1 (x3 aM)
 cases q:o[j]'l with
 |none=>exact absurd ZHV h
 |some k=>exact⟨k,ZHV⟩
theorem rM.room{m n:Nat}{o:Own}(x:YoV)(h:YB5):∃e,YLe∧o[e]?=Y3K:=by
 refine ZHK;have kv:∀e,e∈di (m+1)→o[e]?=some (some Yth):=λe he=>((λe he=>x.TO he λq=>az ⟨e,he,q⟩:∀e,YLe→∃k,o[e]?=Y5h) e ZQi).elim λk q=>by rw[q];rfl
 have w:=Kr (M:=Y6K) (yg (ayz (λ{a b}aD ah n e=>n (x.4 a b _ (kv a aD) (aa e (kv b ah)))) (x9 (n:=m+1))):((di (m+1)).map λe=>Yth).Nodup) λk aR=>(ee aR).elim λe z=>aV z.2 (og (x.2 e _ (kv e z.1)));replace w:=aQ fN ZGG;exact absurd (au w h) (ayw m)
theorem Kt{m:Nat}(af:Y9H)(n:Nat):ZUv≤m:=by
 have key:∀n,YxC≤m∧YaR+(hc m n Y2u).more=iS m YxC:=by
  intro n
  induction n with
  |zero=>exact⟨af,ZYV⟩
  |succ n ai=>
   have e:hc m (n+1) Y2u=Y9t YlO:=rfl;rw[e];generalize YlO=p at ai;by_cases q:Ynt
   ·have aC:Y9t p={p with j:=p.j+1,more:=p.more - 1}:=ZU;rw[aC];refine⟨Y7R,Eq.trans ?_ YCi⟩;exact aj ZO (congrArg _ (rd q))
   ·have aC:Y9t p={p with j:=YP2,more:=iS m YP2 - YP2,i:=YP2,perturb:=YMQ.2}:=ZN;rw[aC];exact⟨YQl,rd (zc YQl).1⟩
 have k:=key n;exact au (au Yk (dH k.2)) (zc k.1).2.2
theorem rM.put{m n N:Nat}{o:Own}(x:YoV){h:Int}(bJ:hs[n]?=YpJ)(aJ:o[Y97]?=Y3K)(aC:∀k,k<N→o[ZNx]?≠Y3K):rM m hs YW6 (n+1):=by
 have rH:Y97<o.size:=(wh aJ).1;have g:∀i,Yak=if Y97=i then some Y5i else o[i]?:=λi=>by
  refine aj (Array.getElem?_setIfInBounds) ?_;by_cases q:Y97=i
  ·exact aL ZU (aj ZU ((if_pos rH)))
  ·exact aL ZN (ZN)
 have up:∀{i k:Nat},ZW2→Yak=Y5h:=λ{i k}q=>by
  (refine aj YkY ?_;rw[if_neg]);exact q
  intro e;replace aJ:=aQ q ZGP;exact sk _ YLK
 have of:∀{i k:Nat},Yak=Y5h→(i=Y97∧k=n)∨ZW2:=λ{i k}q=>by
  replace q:=aQ YkY q;by_cases z:Y97=i
  ·replace q:=ZBc;exact YY ⟨z.symm,(cu YCv).symm⟩
  ·replace q:=aQ Ylq q;exact YJc
 refine⟨by refine aj Array.size_setIfInBounds ?_;exact x.1,λj k q=>(of q).elim (λz=>aa z.2 (o9 n)) λz=>p9 (x.2 j k z),λk h' aR aF=>?_,λj h2 k q bS=>?_⟩
 ·rcases Ao aR with l | l
  ·refine YM;obtain⟨M,a,b⟩:=x.3 k h' l aF;exact ax (⟨M,up a,λi af=>(b i af).imp λoq z=>up z⟩)
  ·replace aF:=aQ bJ (bN l aF);have akV:=cu aF;subst akV;refine⟨N,by exact aj YkY (aj Y0c (fH l rfl)),λi af=>YM⟩;obtain⟨oq,z⟩:=x.TO (Kt Yr3 i) (aC i af);exact ax (⟨oq,up z⟩)
 ·rcases of q with z | z
  ·rcases of bS with k9 | k9
   ·exact aj z.1 (k9.1.symm)
   ·exact absurd (x.2 _ _ k9) (dS z.2 ZbI)
  ·rcases of bS with k9 | k9
   ·exact absurd (x.2 _ _ z) (dS k9.2 ZbI)
   ·exact x.4 j h2 k z k9
theorem akW{m:Nat}(hm:YVg){hs:YCG}(aE:hs.size≤m+1):∃o,Of m hs=YB∧rM m hs.toList o hs.size:=by
 have key:∀(l d:Y8Y)(o:Own),hs.toList=d++l→rM m hs.toList o d.length→∃o',l.foldl (λ(acc:Option (Own×Nat))h=>do
   let (owner,k) ←acc;let j ←Hr m owner YQs YpP YHr
   pure (owner.setIfInBounds j Y6e,k+1)) (some (o,d.length))=some (o',hs.toList.length)∧rM m hs.toList o' hs.toList.length:=by
  intro l
  induction l with
  |nil=>exact λd o e x=>⟨o,by refine aa e (aa Y1U ?_);rfl,by rw[show hs.toList.length=d.length by rw[e,eL]];exact x⟩
  |cons h l ai=>
   intro d o e x;have gY:d.length<hs.toList.length:=by refine bW e (aL cj (bW g5 ?_));exact ZDB
   have hd:hs.toList[d.length]?=YpJ:=YSx
   refine YM;obtain⟨r,bo,fB⟩:=x.room (hp (ew gY (by refine aj iv ?_;exact aE)):d.length≤m);obtain⟨L,eW,kd⟩:=TM hm Yr3 (TN h) bo;obtain⟨N,f1,f2,cz⟩:=akU (o:=o) YQs YXo YHr Yr3 ⟨L,fF eW (by show Z2O;rw[gi];exact ZDV),by refine aX kd ?_;exact fB⟩;have ld:(d++[h]).length=Y5Y:=YGE
   obtain⟨o',bk,z⟩:=ai (d++[h]) _ Yhz (by refine aL ld ?_;exact(x.put hd f2 cz));refine ax (⟨o',?_,z⟩);refine aj NI (bL bk (aa ld ?_));refine congrArg (λa=>Hc _ a l) ?_;show(do
    let j ←Hr m o YQs YpP YHr
    pure (o.setIfInBounds j (some d.length),Y5Y))=_
   refine aT f1 ?_;rfl
 have no:∀j k:Nat,(Array.replicate (m+1) (none:Y0X))[j]?≠Y5h:=λj k q=>by
  rw[Array.getElem?_replicate]at q;by_cases z:j<m+1
  ·replace q:=ZBc;exact absurd (cu q).symm ZZV
  ·rw[Ylq]at q;exact Yia
 refine YM;obtain⟨o,e,x⟩:=key hs.toList [] (Array.replicate (m+1) none) rfl ⟨Array.size_replicate,λj k q=>ZDL,λk h q=>absurd q ZWn,λj h2 k q=>ZDL⟩;refine ax (⟨o,?_,by replace x:=bL iv x;exact x⟩);unfold Of;refine bN (Array.foldl_toList ..) ?_;exact(congrArg (Option.map Yh) e)
def BM(m:Nat)(place:ZB)(es:Y36):Y1:=∀(i:Nat)(e:Z7)(j:Nat),YD7=Y59→place[i]?=Y0N→∃N,f7 m e.1 N=j∧∀k,k<N→∃f5:Nat,ZWs=some (f7 m e.1 k)
theorem TP{f:YO1}{g:YIV}(h:∀x∈l,f x=some (g x)):ZTR=l.map g:=by
 induction l with
 |nil=>rfl
 |cons a l ai=>exact aj Dm (dT YGp (aL mF (congrArg _ (ai λx aq=>h x ZMF))))
theorem akX{f mv:Nat}{pl:Bool}{es:Y0W}(az:es.size≤31):∃t o,Z4O=Y58∧Yxy=es.size∧YUn∧YXT∧(YMe).toList.Perm es.toList∧BM 31 t.place (YMe).toList:=by
 refine YM;obtain⟨lg,aJ,x⟩:=akW (m:=31) Y61 (hs:=Y1W) (by refine aj Array.size_map ?_;exact kn az);refine Yb;replace x:=bL Array.size_map x;have aq:∀{k:Nat}{e:Z7},ZND→(Y1W).toList[k]?=ZaY:=λh=>by rw[Array.toList_map,gy,l9,h];rfl
 generalize kd:((di (31+1)).filterMap λj=>(lg.getD j none).map ZjF)=L;revert L;refine Y17;intro L kd;have aC:Z4O=some ({mask:=31,place:=(YKB).toArray,dummies:=#[],finger:=f,led:=led,moves:=mv,plain:=pl},(YQy).toArray):=by
  dsimp only [Hp];refine aT aJ (aV kd ?_);rfl
 have mem:∀{z:Y0j},z∈L↔z.1≤31∧lg[z.1]?=some (some z.2):=λ{z}=>by
  have mS:∀{j k:Nat},ZTs=Y6e↔lg[j]?=Y5h:=λ{j k}=>by
   refine aT (sq) ?_
   cases q:lg[j]? with
   |none=>exact⟨Yrr,Yrr⟩
   |some y=>exact⟨λh=>ZJz,λh=>Y4u⟩
  refine eT kd (aj (propext abN) ?_);refine⟨λh=>h.elim λj w=>?_,λh=>⟨z.1,og (x3 h.1),by rw[mS.mpr h.2];rfl⟩⟩
  cases q:ZTs with
  |none=>rw[q]at w;exact cW w.2.symm
  |some k=>
   rw[q]at w;rw[←cu w.2];exact⟨hp YVE,mS.mp q⟩
 have rs:(YKB).Pairwise YEo:=aV kd (TB lg _ Ho);have pr:(YQy).Perm (di es.size):=(Dr (yg (ayz (λ{a b}aD ah n e=>absurd (x.4 a.1 b.1 a.2 (mem.mp aD).2 (aa e ((mem.mp ah).2))) (ej n)) (HC rs)):(YQy).Nodup) x9).mpr λk=>by
  refine⟨λh=>Ywo λz w=>og (x.2 z.1 k (aV w.2 ((mem.mp w.1).2))),Y6j⟩;have lk:=jK h;refine YM;obtain⟨N,a,_⟩:=x.3 k _ lk (aq Ynj);exact ax (kp ⟨(_,k),mem.mpr ⟨Kt ZfP N,a⟩,rfl⟩)
 have ex:∀z∈L,ZNE=some Yjv:=λz hz=>by
  rw[sq,od (x.2 z.1 z.2 ZUU.2:z.2<es.size)];rfl
 have jy:((YQy).toArray.filterMap Y4Y).toList=L.map ZlE:=by
  refine aj Array.toList_filterMap (aj ayA ?_);exact TP ex
 have BN:L.length=es.size:=by
  have w:=pr.length_eq;replace w:=ZGG;exact w
 have akY:(L.map ZlE).Perm es.toList:=by
  have w:=pr.filterMap Y4Y;replace w:=aQ ayA (bL (filterMap_getElem?_range ..) w);refine aV (TP (f:=Y4Y ∘ Y1w) ex) ?_;exact w
 refine⟨_,_,aC,by rw[←iv,jy,bt,BN],⟨?_,rs,rfl,rfl,az⟩,rfl,by refine ZEM;exact akY,λi e j he aM=>?_⟩
 ·show(YKB).toArray.size=es.size;exact aL Ac (aj YF (BN))
 ·rw[jy,gy]at he;have aM:(YKB)[i]?=Y0N:=by refine bL aM ?_;exact(q8).symm
  replace aM:=aQ (gy) aM
  cases q:L[i]? with
  |none=>rw[q]at aM;exact cW aM.symm
  |some z=>
   rw[q]at he aM;have hz:z∈L:=et q;have m1:=ZUU;refine YM;obtain⟨N,a,b⟩:=x.3 z.2 e.1 (x.2 _ _ m1.2) (aq ((ex z hz).trans he:ZNE=Y59));refine ax (⟨N,(x.4 _ _ _ a m1.2).trans (cu aM:z.1=j),YOD⟩);obtain⟨oq,c⟩:=b k aR;obtain⟨f5,j5⟩:=pe ((@mem (f7 31 e.1 k,oq)).mpr ⟨Kt ZfP k,c⟩);refine⟨f5,?_⟩;rw[q8,gy,j5];rfl
theorem Fz{v:V}(h:Y9G):YTl:=ZXs.1
theorem akZ{v u:V}(h:Y9G)(h':YM4):YGP:=ZXs.2.2 u h'
abbrev ak0(h:Heap)(x:Value)(P:Y1):Y1:=∀(a:Nat)(y:Value)(bf:Yn),Y83→TupAt h a YBW→(∃s t,y=YJo)→(∀z∈bf,ZmR)→P
abbrev ak1(h:Heap)(x:Value):Y1:=∀P:Y1,ak0 h x P→P
theorem ze{v:V}(aO:Y9G)(r:Y2F):ak1 h x:=by
 refine YM;obtain⟨vs,e,aO⟩:=V.ph (show Zce=true from aO);refine Yb;subst e;refine r.gj.elim λa r=>r.elim λitems r=>?_
 cases vs with
 |nil=>exact nb aO
 |cons u us=>
  have aO:=cL aO;refine r.2.2.un λy bf e b6 dv=>(λO bA=>bA a y bf r.1 (aV e YWj) ?_ YOJ)
  ·obtain⟨n,fq⟩:=V.kr aO.1;subst fq;exact b6.elim λt w=>w.elim λs w=>⟨s,t,w.2⟩
  ·refine YM;obtain⟨i,af⟩:=pe hz;have li:ZQw:=aV dv.length YaZ;obtain⟨k9,ak,av⟩:=dv.get YjP;obtain⟨n,fq⟩:=V.jM (ju aO.2 _ Zcm);refine Yb;replace av:=bL fq av;exact aa (c4 af ak) (av.elim λt w=>⟨n,t,w⟩)
theorem TQ{E:Y8}{v:V}(aO:Y9G)(r:Y2k){Q:Y1n}(h:YCQ):wpAny YR A (ofAClassStatement 8 x) Q E s:=by
 refine ze aO r _ λa y bf e k8 bb TR=>jg e (k8.elim ZjD);delta ofAClassStatement;show wpAny _ _ (typeOf YA >>= _) _ _ _;refine bd (wpAny_typeOf ZRm (bd (wpAny_pure ZJL)));show Zdn;refine Z2f;have it:∀z∈YBW,(∃s t,z=YJo)∨ZmR:=λz hz=>(dz hz).elim (λe=>YY (aa e bb)) λhz=>YJ (TR z hz);generalize YBW=l at it;show wpAny _ _ (forIn l _ _) _ _ s
 induction l with
 |nil=>exact ZJR
 |cons z l ai=>
  refine Yig;intro ak2 ak3;refine bd (bd (wpAny_of_eq (a:=false) ?_ Zl))
  ·rcases it z b3 with⟨s,t,e⟩ | ⟨i,t,e⟩ <;> subst e <;> rfl
  exact ai λz hz=>it z ZMG
theorem ak4{E:Y8}{v:V}(aO:Y9G)(r:Y2k){Q:Y1n}(h:YCQ):wpAny YR A (hashByValue 8 x) Q E s:=by
 refine ze aO r _ λa y bf e k8 BO TR=>?_;obtain⟨TS,ty,fy⟩:=BO;refine jg e (k8.elim λk aA=>bd (wpAny_specialOf ZRm G9.lookup Yhi));show Zdn;refine Z2f
 (refine cb Y4O (aa fy ?_))
 exact bd (bd (wpAny_pure (wpAny_pure YNf)))
theorem ak5{E:Y8}{v:V}(aO:Y9G)(r:Y2k){l:Yn}(aE:∀y∈l,∃u,YM4∧Yfx){Q:Y1n}(h:YCQ):wpAny YR A (searchCouldBeSeen x l) Q E s:=by
 refine Y6H
 induction l with
 |nil=>exact ZJR
 |cons y l ai=>
  obtain⟨u,bj,gA⟩:=aE y b3;have ai:=ai λz hz=>aE z ZMG;refine Yig;intro Jm Jn;refine bd (bp λax=>ze aO r _ λa O O bx O O O=>ze bj gA _ λb O O cM O O O=>Yb);subst bx;subst cM;show wpAny _ _ (if Yv8 then _ else _) _ _ _;by_cases q:Yv8
  ·exact cb ZU Ze3
  ·refine cb ZN Y0K;intro aA8 aA9;exact bd (HQ 8 _ _ _ _ (Fz aO) r (cb Y2s (bd (HQ 8 _ _ _ _ (Fz bj) gA (cb Y2s (bd (TQ aO r (cb Y2s (bd (TQ bj gA (cb Y2s Ze3)))))))))))
abbrev FA(n:Nat)(led:Bool)(t:SetTable)(es:Y36):Y1:=jd YLr ((YXU∧n≤4)∨YXT) (BM t.mask t.place es)
theorem FA.way{n:Nat}{t:SetTable}{es:Y36}(x:FA n led t es):t.gaveWay=false∧(YXU∨YXT):=by
 unfold SetTable.gaveWay;rcases x.2 with h | h
 ·rw[h.1];exact YZI
 ·rw[h];exact ZnV
theorem ak6{E:Y8}{Q:Y9e}{c:Bool}{m:YFf}{T U:Y7G}(hm:∀R:Y1n,R false s→wpAny M A m R E s)(h:wpAny M A T Q E s):wpAny M A (if c=true then m >>= λb=>if Y6F then U else T else T) Q E s:=by
 cases c with
 |true=>exact bd (hm _ h)
 |false=>exact h
theorem ak7{E:Y8}(bj:Y3V){u:V}(az:∀v∈us,Y9G)(tm:YM4)(bg:YKj){es:Y0W}{t:SetTable}(aA:Y3f)(T:Z3w)(hX:ZP4){Q:SetFound→YP}(BP:Yq3→Q (.there none) s)(J1:YE9→∀N,ZbE→(∀k,k<N→∃f5:Nat,t.place[f5]?=some ZNy)→Q (Y6y YUU false) s):wpAny YR A (setSearch a x Y0Z true) Q E s:=by
 have hI:=T.1;refine YM;obtain⟨e,he,hs⟩:=akS hI;obtain⟨ne,iA,ak8⟩:=akP (pt:=Zal) T.way.2 (zd t.mask Y0Z) (TN _) he;refine Yb;have ak9:ne<100000:=lD iA (by rcases T.way.2 with q | q <;> refine dU q ?_ <;> decide);have hs:t.slot (f7 t.mask Y0Z ne)=Y2O:=by
  show t.slot (mu t.mask (w0 t.mask Y0Z) Zal ne)=_;exact aX ak8 hs
 have fa:∀{i:Nat}{v:V},Yq2=Ym→∃y,YD7=some (YU1,y)∧aK s.heap y v:=λ{i v}h=>by
  have li:ZQu:=aa hX.len (YmA.1);have bb:=YjP;refine YM;obtain⟨ov,ak,av,aP⟩:=hX.at_ bb;refine Yb;have ev:=c4 h ak;subst ev;replace bb:=aQ (l9) bb;exact⟨(es.toList[i]'li).2,aj bb (HG av rfl),aP⟩
 have FC:∀N,ZbE→(∀k,k<N→Zmc)→YE9:=λN cf aO hm=>by
  obtain⟨i,af⟩:=pe hm;obtain⟨y,bb,_⟩:=fa af;have li:i<t.place.size:=by exact aL hI.1 ((wh bb).1)
  have ar:YHu=some (t.place[i]'li):=od li;obtain⟨M,FD,ala⟩:=T.3 i _ _ (by refine aj (l9) ?_;exact bb) ar;rcases Nat.lt_trichotomy M N with l | l | l
  ·obtain⟨z,hz,Eo⟩:=aO M l;have dD:=Fw hz;replace dD:=fU FD dD;have qA:z=i:=aQ (Ki hI.2 dD) ((Ki hI.2 ar));exact Eo (aa qA af)
  ·replace cf:=bN FD (dU l cf);exact Kl hI.2 cf i ar
  ·obtain⟨f5,h'⟩:=ala N l;exact Kl hI.2 cf f5 h'
 have loop:∀d n fuel(u6:Option v9),n+d=ne→d<fuel→u6.getD (t.probeStart Y0Z)=ZVx→(∀k,k<n→Zmc)→wpAny YR A (setSearchFrom a x Y0Z true fuel u6) Q E s:=by
  intro d
  induction d using Nat.strongRecOn with
  |ind d ai=>
   intro n fuel u6 hd hf alb aO
   cases fuel with
   |zero=>exact absurd hf (pa d)
   |succ fuel=>
   refine YM;obtain⟨k,dC,du,gs,jl⟩:=akR (f:=λi=>(es[i]?.map Yh).getD 0) (h:=Y0Z) hI.3 (10*Hq t.mask) n ne (aV hd (cx n d):n≤ne) (ew iA Y1X) hs;refine Yb;have Ku:∀i,i<k→∃y:Nat,t.slot (f7 t.mask Y0Z i)=Y71 y∧Zcc:=λi af=>by
    by_cases q:i<n
    ·exact aO i q
    ·obtain⟨y,ak,av⟩:=gs i Y9D af;refine⟨y,ak,λe=>av YM⟩;obtain⟨z,hz,_⟩:=fa e;refine ax (gT hz ?_);rfl
   refine YL4;dsimp only;refine aa T.way.1 (aa alb Yif);generalize cR:t.probe _ _ ZVx=mt;rcases jl with⟨gZ,oO⟩ | ⟨y,gZ,oO,BQ⟩
   ·exact iy (cA cR oO) (wpAny_pure (J1 (FC k gZ Ku) k gZ λi af=>(Ku i af).elim λy z=>⟨y,Fw z.1⟩))
   ·refine iy (cA cR BQ) ?_;have BR:y<us.length:=by exact bL hX.len (aL iv (bL hI.1 ((wh (Fw gZ)).1)))
    refine YM;obtain⟨z,hz,Fe⟩:=fa ZLV;refine Yb;have Kv:=az _ Zck;refine ak6 (λR q=>ak5 tm bg Y89 q) ?_
    ·refine YM;obtain⟨bk,rJ,ev⟩:=YTz;refine Yb;have m1:bk∈es.toList:=by
      have dD:=rJ;replace dD:=bL Array.toList_filter dD;exact(ri dD).1
     refine YM;obtain⟨i,af⟩:=pe m1;obtain⟨ov,ak,_,aP⟩:=hX.at_ af;exact ax (⟨ov,az ov ZNJ,aV ev aP⟩)
    refine iy hz (bd (wpAny_holding (yq _ 8 8 _ _ _ _ _ (Fz Kv) (Fz tm) (akZ Kv tm) YLj Fe bg YL4)));by_cases q:us[y]'BR=u
    ·exact aa q (aa Y3r (wpAny_pure (BP (aV q Zck))))
    ·refine aa (ic q) (bp λax=>ze Kv Fe _ λJu O O qA O O O=>Yb);have nI:t.sameMemory t.moves t.mask=YNK:=ZRK;refine aa nI (aa gZ ?_);show wpAny _ _ (match es[y]? with | some (fst,mP)=>_ | none=>_) _ _ _;refine iy hz ?_;show wpAny _ _ (isSame z z >>= _) _ _ _;refine aa qA (bd (wpAny_isSame_ref_self YGC));obtain⟨eJ,u3⟩:=ayx (rb du λe=>by replace hs:=aQ gZ (dU e hs);exact Hn hs:k<ne);have ld:eJ<d:=by
      have w2:n+eJ<n+d:=aL (hd.trans u3:n+d=k+1+eJ) (aL Y98 (x3 (h7 dC eJ)));exact ayy w2
     refine ai eJ ld (k+1) fuel YHq u3.symm (ew ld (hp hf)) rfl YER;rcases Ao af with l | l
     ·exact Ku i l
     ·refine⟨y,aa l gZ,λe=>q ?_⟩;replace e:=aQ ZLV e;exact Y4G
 exact loop ne 0 100000 none (l8 ne) ak9 rfl λk h=>absurd h ZWn
theorem alc{m:List β}{p:Nat}{a x:α}{b y:β}(aE:l.length=m.length)(ar:p≤l.length)(aq:(ZTX++a::ZTQ)[i]?=YQ)(bb:(m.take p++b::m.drop p)[i]?=Y06):(x=a∧y=b)∨∃k:Nat,l[k]?=YQ∧m[k]?=Y06:=by
 have l1:(l.take p).length=p:=Oi ar;have l2:(m.take p).length=p:=Oi (aV aE ar);by_cases q:i<p
 ·replace aq:=aQ Z5X (aQ (qb ZTY) aq);replace bb:=aQ Z5X (aQ (qb ZTZ) bb);exact YJ ⟨i,aq,bb⟩
 ·have q:=Y9D;replace aq:=k7 l1 (aQ (ra ZTY) aq);replace bb:=k7 l2 (aQ (ra ZTZ) bb)
  cases e:i - p with
  |zero=>
   (replace aq:=YhT;replace bb:=YhU)
   exact YY ⟨(cu aq).symm,(cu bb).symm⟩
  |succ d=>
   (replace aq:=aQ (acd) (aQ (ayB) YhT);replace bb:=aQ (acd) (aQ (ayB) YhU))
   exact YJ ⟨p+d,aq,bb⟩
theorem TU{xs:YQT}{p:Nat}{j x:α}(h:Y3w):∃f5:Nat,(pb xs p j)[f5]?=YQ:=by
 have m:x∈(pb xs p j).toList:=(ayr xs p j).mem_iff.mpr (by
  exact aj acf (ko _ (et (by rw[l9];exact h))))
 obtain⟨f5,h'⟩:=pe m;exact⟨f5,by refine aQ (l9) ?_;exact h'⟩
theorem ald{m p N:Nat}{place:ZB}{es:Y0W}{h:Int}(hs:es.size=place.size)(ar:p≤place.size)(r:BM m place es.toList)(aO:∀k,k<N→∃f5:Nat,ZWs=some ZNx):BM m (pb place p Y97) (pb es p YBm).toList:=λi e j he aM=>by
 have aE:es.toList.length=place.toList.length:=aL iv (aL iv hs);replace he:=eT YdI he;replace aM:=eT YdI ZE8;rcases alc aE (aL iv (aL hs ar)) he aM with⟨aJ,aC⟩ | ⟨k,ak,av⟩
 ·refine aa aJ (⟨N,aC.symm,YOD⟩);obtain⟨f5,h'⟩:=aO k aR;exact TU h'
 ·replace av:=aQ (l9) av;refine YM;obtain⟨M,a,b⟩:=r k e j ak av;refine ax (⟨M,a,λoq aR=>?_⟩);obtain⟨f5,h'⟩:=b oq aR;exact TU h'
abbrev ale(w:World)(led:Bool)(h:Heap)(a:Nat)(us:Y3)(P:Y1):Y1:=∀(es:_)(ep:_)(t:_),YGs→Z3w→Ykn→P
abbrev qH(w:World)(led:Bool)(h:Heap)(a:Nat)(us:Y3):Y1:=∀P:Y1,ale w led h a us P→P
theorem qH.set(x:qH w led h a us):m8 w led h a us:=x _ λes ep t c6 cT eY=>(λO bA=>bA es ep t c6 cT.1 eY)
theorem alf{n m:Nat}(h:(m=7∧n≤4)∨(m=31∧n≤18)):decide (n*5≥m*3)=false:=decide_eq_false (su (by
 rcases h with⟨e,h⟩ | ⟨e,h⟩
 ·exact ZKk
 ·exact ZKk))
theorem alg{E:Y8}{es:Y0W}{t:SetTable}(aA:Y3f)(hI:YUn)(hX:ZP4)(fG:es.size=5){Q:Y5P}(h:∀h' d0,YDf→YTh→ZXd→Q () Yx):wpAny YR A (setRelay a ZdN) Q E s:=by
 refine YM;obtain⟨dg,o,aJ,aC,BS,TV,pm,rc⟩:=akX (f:=t.finger) (mv:=t.movedTo 31) (led:=t.led) (pl:=t.plain) (es:=es) (by refine aj fG ?_;decide);obtain⟨d0,dV,Kw⟩:=(hX.keep (qg aA BI (km s.heap a (x6 (YMe) dg)).2)).perm pm;refine ax (bd (wpAny_setState_of aA rfl hI.fits (cb (if_neg (by refine bW sizeLine_eq ?_;decide)) ?_)));refine bd (jg (aJ:t.relaid Y9m ZdN=some (dg,o)) ?_);show wpAny _ _ (if(Yxy !=es.size)=true then _ else _) _ _ _;refine cb (if_neg (by refine OP aC (dS Yhq ?_);decide)) ?_;refine wpAny_pure (wpAny_storeSet_of aA rfl (h _ d0 ZTB dV (λO bA=>bA _ _ _ (za aA _ dg) ⟨?_,YJ TV,d9 TV rc⟩ Kw)) (by refine aj aC (aj fG YS7);decide));exact d9 aC (⟨BS.1,BS.2,BS.3,BS.4.trans hI.4,BS.5⟩)
theorem alh{E:Y8}(bj:Y3V){u:V}(az:∀v∈us,Y9G)(tm:YM4)(bg:YKj)(Z:qH w led s.heap a us)(ah:Yq1){Q:Y1n}(h0:Yq4)(ak:YE9→∀h' d0,YDf→YTg→ZXd→YeX):Zdc:=by
 refine bp λax=>Z _ Yrn;have hI:=T.1;refine ze tm bg _ λaBa O O ex O O O=>ax Zdu;dsimp only;rw[show byScan x es=false by rw[ex];rfl];refine bd (ak7 bj az tm bg aA T hX (λhm=>wpAny_pure (h0 hm)) λhm N cf aO=>YL4);have pt:=TA hI cf;have fZ:ZN9:=by exact ZGH
 generalize aM:YUU=j at cf pt ⊢;have rL:=hX.ins YBs bg;rw[←Hm]at rL;have pm:(us.take YBs++u::us.drop YBs).Perm YNS:=by
  refine ZDU;rw[Ai]
 have rc:=ald (x:=x) (hI.1.symm) (aa hI.1 YWa.2.1) T.3 aO;rw[aM,←YWa.2.2]at rc;have qC:(pb es YBs (Y0Z,x)).size=Y4x:=Km _ _ _;generalize pb es YBs (Y0Z,x)=f6 at rL rc qC ⊢;have main:∀cy:SetTable,cy.place=Yb3→cy.dummies=#[]→cy.led=led→cy.mask=t.mask→wpAny YR A (do
   storeSet a f6 cy
   if(!false&&cy.tooFull)=true then do
    setRelay a (wa Y4x)
    YMm
   else YMm) Q E s:=λcy ek cO ky kS=>by
  have s1:=km s.heap a ZeT;have dC:=ZXq;have Kx:ZN8:=aV fZ.symm ah;have cp:cy.tooFull=decide (Y4x*5≥t.mask*3):=by
   delta SetTable.tooFull Od;refine aa ek (aa cO (aa pt.1 (aa kS ?_)));rfl
  have ali:Y4x≤cy.mask:=by
   refine aL kS ?_;rcases T.2 with q | q
   ·refine aL q.1 ?_;exact au (dX q.2) Y2
   ·refine aL q ?_;exact ZEn
  have TX:h1 f6.size led cy:=by refine d9 qC ?_;exact⟨ek▸pt.1,ek▸pt.2.1,cO,ky,ali⟩
  have alj:BM cy.mask cy.place f6.toList:=by refine aj ek (d9 kS ?_);exact rc
  refine bd (wpAny_storeSet_of aA rfl ?_ (by refine aj qC YS7;exact ZEn));have fin:Yyy→Q true {s with heap:=s.heap.update a ZeT}:=λq=>ak hm _ _ s1 pm (λO bA=>bA f6 Y94 cy ZfN ⟨TX,by rw[kS,qC];exact q.imp id λq=>q.1,alj⟩ ZYN);by_cases q:Yyy
  ·refine aa cp (aa (alf q) ?_);exact wpAny_pure (fin q)
  ·have rN:YXU∧es.size=4:=by
    rcases T.2 with z | z
    ·refine⟨z.1,mG z.2 (hq λl=>q (YY ⟨z.1,l⟩))⟩
    ·exact absurd (YJ ⟨z,Kx⟩) q
   refine aa cp (aa rN.1 (aa rN.2 ?_));exact bd (alg ZfN TX ZYN (by exact aj qC (congrArg _ rN.2)) λh' d0 hW dV z=>wpAny_pure (ak hm h' d0 (s1.trans hW) ZKq z))
 show wpAny _ _ (if Yz1 then _ else _) _ _ _;by_cases pl:Yz1
 ·rw[if_pos pl];exact bd (ak4 tm bg (main {Y3L.1 with plain:=false} rfl YHa.1 YWa.1 rfl))
 ·rw[if_neg pl];exact bd (wpAny_pure (main Y3L.1 rfl YHa.1 YWa.1 rfl))
abbrev BU(prog:Program)(w:World)(S:Nat)(inv:Z5J)(ok:Y5Q):Y1:=hr (∀{A:Around}{E:Y8}{s:Shared}{us:Y3}{u:V}{x:Value}{Q:Y1n},Y3V→(∀v∈us,ok v)→ZRf→Y7v→YKj→Yq1→Yq4→(YE9→∀h' d0,mE S s.heap h'→YTg→ZRd→YeX)→wpAny YR A (setAddHashed S x Y0Z) Q E s) (∀{us:Y3}{h h':Heap},ZRe→Y2T→Yl4→Yly) (∀{A:Around}{E:Y8}{s:Shared}{u:V}{x:Value}{Q:YdL},Y3V→Y7v→YKj→(∀tk,Q Y0Z YIS)→Zdb) (∀{us:Y3}{h:Heap},ZRe→ZmP)
abbrev lQ(us vs:Y3):Y1:=hR us.Nodup ZmC
theorem lQ.snoc{d0:Y3}{u:V}(m:YMJ)(bj:YE9)(p:YTg):lQ d0 Zd6:=⟨p.nodup_iff.mpr (ma ⟨bj,m.1⟩),λv=>aj (propext p.mem_iff) (aj YHZ (aL YMk (bW ZX7 (aX ZX1 ZWG))))⟩
theorem lQ.same{u:V}(m:YMJ)(bj:Yq3):lQ us Zd6:=⟨m.1,λv=>by
 exact aj ZX1 (aL YMk (bW ZX7 (⟨YY,λh=>h.elim id λe=>aa e ((m.2 u).mp bj)⟩)))⟩
theorem lQ.len(m:YMJ):us.length≤vs.length:=by
 have:∀{L M:Y3},Ydb:=λ{L M}=>by
  classical
  exact @Kr V instBEqOfDecidableEq inferInstance L M
 exact this m.1 λv aO=>Yxk
variable{inv:Z5J}
theorem alk{R:Y48}{S l:Nat}{ok:Y5Q}(C:Z2t)(bJ:Ycj)(bj:Yck)(alm:l≠I)(FE:S≠I)(Ky:S≠l)(aR:∀v∈vs,ok v)(jR:YNZ):
  ∀(rest d:Y3)(s:Shared)(us:Y3),vs=YLL→s.heap.IsListIter I l d.length→YN3→YRw→ZRf→lQ us d→
   (∀h' tk d0,ZRd→lQ d0 vs→(∀b o,YGF→ZIA)→R YPi Y0w)→
   codeAny YR A Z05 R s:=by
 have W:=ab9 (prog:=prog) (w:=w) bJ I l alm items;intro rest
 induction rest with
 |nil=>
  intro d s us e iV eW bo af m gI;have fq:items.size=d.length:=bL iv (aj bo.length (aX e ZJw));refine ZJh;intro aBb aBc aBd;refine bd (W.done s _ _ ⟨aa fq iV,eW⟩ λh' tk k=>?_);have aln:S∉[I]:=Zk2;refine YM;obtain⟨es,ep,t,aA⟩:=C.4 af;refine Yb;have ax:∀b o,ZIA:=Zhc;replace e:=ZGC;refine wpAny_pure (gI h' tk us (C.2 af (λb o q z=>ax b o (λcM=>?_) q) ((k S _ aln aA).trans aA.symm)) (aa e m) λb o O n q=>ax b o n q);obtain⟨AO,qn,ao,_⟩:=iV;replace q:=ZBm;replace z:=ZBJ;exact ZfE
 |cons u rest ai=>
  intro d s us e iV eW bo af m gI;have gY:d.length<items.size:=bL iv (aL bo.length (bW e (aL cj ZDB)));have hd:vs[d.length]?=YpM:=YSx
  have TY:Y7v:=aR u (et hd);refine ZJh;intro akq akr aks;refine bd (W.item d.length s _ _ gY ⟨iV,eW⟩ λv ak tk dk sM k=>?_);have ax:∀b o,b≠I→Y9X→ZES=YB:=Zhc;have dC:eU s.heap ak:=λb o q z=>ax b o (λcM=>by
   obtain⟨AO,qn,ao,_⟩:=iV;replace q:=ZBm;replace z:=ZBJ;exact ZfE) q
  obtain⟨es,ep,t,aA⟩:=C.4 af;have TZ:=C.2 af dC ((k S _ (Zk2:S∉[I]) aA).trans aA.symm);have zf:=bo.keep dC;obtain⟨ov,Kz,bz⟩:=zf.get hd;replace Kz:=aQ dk (aQ (l9) Kz);have ev:=cu Kz;subst ev;have aC:vs=Yiy++rest:=Yhz
  have alo:(d++[u]).length=Y5Y:=YGE
  have alp:Yq1:=au (dX m.len) (au (bW e (aL cj YL9)) jR);have go:∀av w1 d0,inv d0 av→lQ d0 Yiy→mE S ak av→wpAny YR A.in1 (again Z05) ZiJ Zi9 Zfg:=λav w1 d0 dt aH hW=>by
   have get:∀b,YGF→ZF6=ZES:=hW.2;refine wpAny_pure ⟨plainId_quiet acm _,ai Yiy Zfg d0 aC ?_ ?_ (zf.keep (qg (ax S _ FE aA) BI hW.2:ZMW)) dt aH λaP alq alr als bF gs=>gI aP alq alr als bF λb o dn fI q=>gs b o dn fI ((get b dn).trans (ax b o fI q))⟩
   ·refine aL alo ?_;obtain⟨AO,qn,z⟩:=sM.1;exact⟨AO,(get I (q6 FE)).trans qn,z⟩
   ·obtain⟨ol,uF,z⟩:=sM.2;exact⟨ol,(get l (q6 Ky)).trans uF,z⟩
  refine bd Zdv;intro aBe aBf aBg;refine wpAny_holding (bd (C.3 bj TY bz λw1=>C.1 (s:={s with heap:=ak,toks:=w1}) bj (λv aO=>aR v (aj e (ko _ Yxk))) TZ TY bz alp Zic λhm av d0 hW p dt=>?_))
  ·exact go ak w1 us TZ (m.same hm) (ayf S ak)
  ·exact go av w1 d0 dt (m.snoc hm p) hW
def lq(w:World):Bool:=! YNc
theorem alu{E:Y8}(a:Value){Q₁:Y8}(h:Q₁ Y2B Zfh):
  codeAny YR A (Y5x (ZK "set.__new__") Ysz) ZdO s:=by
 refine YLI;show wpAny _ A.in1 (do checkBuiltinCall "set.__new__" Ysz;again (ZK "set.__new__" Ysz)) _ _ s;refine bd (wpAny_of_eq (PySem.F.newCall_set_1 a) (wpAny_pure ⟨plainId_quiet ayD _,codeAny_builtin PySem.F.entry_set_new (kK (Ah ayD _) ?_)⟩));have qk:=sub_set_self;refine Yg;intro alv alw alx
 wp_walk
 exact wpAny_askSetting (wpAny_pure (bd (wpAny_alloc YNf)))
theorem T1{E:Y8}{m:Y7G}{Q:Y9e}(h:∀(Q':Y9e)(E':Y8),ZlQ→Zlk→wpAny M A m Q' E' s):wpAny M A m Q E s:=h Q E Y3Q Y3Q
theorem aly{E:Y8}{T newId T2:String}{args:Yn}{Q Q₁:Y8}(iB:TypeCalled T newId T2)(aBh:checkTypeCall T ⟨args,[]⟩=YWb)(alz:codeAny YR A.in1 (Y5x (ZK newId) ⟨Y66::args,[]⟩) ZdO s)(alA:∀obj hY,Q₁ obj hY→hY.TypeIs obj T∧codeAny YR A.in1 (Y5x (ZK T2) ⟨obj::args,[]⟩) (wants (λr yI=>r=Y7∧Q obj yI) E) hY):wpAny YR A (call Y66 args) Q E s:=by
 obtain⟨c,BV,FF⟩:=iB.mro;have aBi:=iB.made;have qk:=iB.sub;refine YqM;show wpAny _ _ (callAny Y66 _) _ _ _;refine wpAny_pure ⟨ZDW,codeAny_builtin PySem.F.entry_type_call (kK (Around.under_plain (weight_type_call_type T args []) rfl) (T1 λQ' E' aF he=>?_))⟩;replace aF:∀v s',YeY→Q' YPY s':=λv=>aF YPY;replace he:Zlk:=he;have ak:=iB.notType;have av:=iB.canCreate
 repeat (any_goals (first | assumption | wp_step))
 refine codeAny_mono alz λr hY bo=>?_
 cases r with
 |error e=>exact he _ _ bo
 |ok eA=>cases eA with
  |ret obj=>
   obtain⟨dJ,z⟩:=alA _ _ bo;have aBj:=iB.init.lookup;have aBk:=iB.init.bind obj
   repeat (any_goals (first | assumption | wp_step))
   refine codeAny_mono z λalB yI KA=>?_
   cases alB with
   |error e=>exact he _ _ KA
   |ok alC=>cases alC with
    |ret r=>
     obtain⟨rfl,bo⟩:=KA;replace bo:=aF _ _ bo
     repeat (any_goals (first | assumption | wp_step))
    |_=>exact KA.elim
  |_=>exact bo.elim
theorem alD{E:Y8}{S l:Nat}{Q:Y8}{ok:Y5Q}(bJ:Zf)(bj:Ycl)(tn:ZYy=YXF)(aE:YN3)(Ky:S≠l)(bo:YRw)(aR:∀v∈vs,ok v)(jR:YNZ)(C:Z2t)(qD:∀h:Heap,YAp=YXF→ZRc)(h:∀(h':Heap)(tk:Nat)(us:Y3),Yly→YMJ→(∀b o,YGF→YBG)→Q Y7 Y0w):
  codeAny YR A.in1 (Y5x (ZK "set.__init__") ⟨[YJl,Y75],[]⟩) (wants Q E) s:=by
 refine codeAny_call_builtin ayE.init.plain PySem.F.entry_set_init (check_set_init_1 Zn8 (T1 λQ' E' aF O=>?_));replace aF:∀s',Q Y7 s'→Q' YJZ s':=λs'=>aF YJZ s';obtain⟨⟨c,lb,uj,eB⟩,uF,ao,nl,hd⟩:=aE;replace ao:c=Y4c:=ao;replace hd:uj=Y45 items nl:=hd;subst ao hd;have aBl:=PySem.F.sub_list_set;have aBm:=PySem.F.sub_list_frozenset;have iA:(Zcn==v8 "dict")=false:=YC
 unfold Builtin.«set.__init__» noKeywords Builtin.Frozenset.updateFrom;generalize alE:pyIter=aBn
 wp_walk
 subst alE;have mw:YN3:=⟨_,uF,rfl,nl,rfl⟩
 refine Yg;intro aBo aBp aBq;refine wpAny_pyIter_list mw (bd (wpAny_runValue ?_));have kt:eU s.heap (s.heap.push {cls:=Z2H,data:=Z0J}):=YF1;refine alk (A:=A.in1.in1) C bJ (fF Y6J bj) (ej (fE uF)) (ej ZNz) Ky aR jR vs [] _ [] rfl Y6k (mw.push _) ZHA (qD _ (eu _ tn)) ⟨lC,λv=>Hs⟩ λh' tk us i m k=>?_;refine Zl;show wpAny _ _ ZYY _ _ _;exact wpAny_pure (aF _ ((h h' tk us i m λb o ah e=>k b o ah Y6L Y5Z)))
theorem KC{E:Y8}{l:Nat}{Q:Y8}{ok:Y5Q}(bJ:Zf)(bj:Ycl)(aE:YN3)(bo:YRw)(aR:∀v∈vs,ok v)(jR:YNZ)(C:BU prog w s.heap.objs.size inv ok)(qD:∀h:Heap,h.get? s.heap.objs.size=YXF→ZRc)(h:∀(h':Heap)(tk:Nat)(us:Y3),Yly→ZTj):
  ZdX:=by
 have kt:eU s.heap ZZ4:=YF1;have BW:l<s.heap.objs.size:=aE.elim λo z=>fE z.1;refine aly (Q₁:=λobj hY=>obj=Y2B∧hY=Zfh) ayE (PySem.F.typeCall_set_1 Y75) (alu Y75 Zn) λobj hY z=>?_;obtain⟨rfl,rfl⟩:=z;have tn:(s.heap.push YAo).get? s.heap.objs.size=YXF:=ZW;exact⟨Zn8,alD bJ bj tn ZAx (p8 BW) ZHA aR jR C qD λh' tk us i m k=>⟨rfl,h h' tk us i m λb o ah e=>k b o (ej ah) Y5Z⟩⟩
theorem T3{x:α}(h:Yml):(x::l.eraseIdx i).Perm l:=by
 have T4:=YmA;refine aX (List.eraseIdx_eq_take_drop_succ ..) (eT T4.2 (aci.symm.trans ?_));rw[←NV T4.1,Ai]
theorem alF(next:YL):∀(n k:Nat)(l:ZC)(o:YQT),ZTU→(aco next n k l o).toList.Perm (o.toList++l):=by
 intro n
 induction n with
 |zero=>exact λk l o e=>bW YWN (aL Y1U Y3U)
 |succ n ai=>
  intro k l o e;have lt:YMd<l.length:=Oh _ (aa e ZS5)
  have h:l[YMd]?=some (l[YMd]'lt):=dy lt;have fx:aco next (n+1) k l o=match l[YMd]? with
   |YQ=>aco next n (k+1) (l.eraseIdx YMd) (o.push x)
   |none=>o:=rfl
  refine aX fx (ac0 h ?_);have p:=T3 h;exact(ai (k+1) _ (o.push _) ZW4).trans (aT acf (aj Y0k (p.append_left _)))
theorem alG(next:YL)(xs:YQT):(pickOrder next xs).toList.Perm xs.toList:=alF next xs.size 0 xs.toList #[] rfl
theorem alH{E:Y8}{src:Source}{n:Nat}{Q:YRE}(h0:n≠0)(h:∀i d,i<n→Q i Zff):wpAny M A (choose src n) Q E s:=λpn p O=>⟨h0,h _ _ (Oh _ (acp h0))⟩
theorem alI{E:Y8}:∀(n:Nat)(l:ZC){Q:ZC→YP}{s:Shared},ZTU→(∀l' d,Ymc→Q l' Zff)→wpAny M A (drawOrder n l) Q E s:=by
 intro n
 induction n with
 |zero=>
  intro l Q s e h
  (rw[YWN]at h;refine jg YWN ?_)
  exact wpAny_pure (h [] s.drawn Y3U)
 |succ n ai=>
  intro l Q s e h
  cases l with
  |nil=>exact absurd e.symm (k5 n)
  |cons a t=>
   refine bd (alH Y7q λi d af=>?_);have g:Yfe[i]?=some (Yfe[i]'af):=Y2o;have p:=T3 g;show wpAny M A (match Yfe[i]? with
    |YQ=>do return x::(←drawOrder n Yv7)
    |none=>unsupported "internal:drawOrder") Q E _
   exact iy g (bd (ai Yv7 ZW4 λl' eJ dV=>wpAny_pure (h _ eJ ((dV.cons _).trans p))))
theorem rO:Slot "set_iterator" "__next__" "set_iterator.__next__":=
 .of (owner:="set_iterator") (n:="__next__") YT1 ZL ZL ZL
  Yhw YSy
theorem T5:Slot "set_iterator" "__iter__" "set_iterator.__iter__":=
 .of (owner:="set_iterator") (n:="__iter__") YT1 ZL ZL ZL
  Yhw YSy
theorem FG:entryFor table "set_iterator.__next__"=some Builtin.«set_iterator.__next__»:=Yjk
theorem alJ:entryFor table "set_iterator.__iter__"=some Builtin.«dict_keyiterator.__iter__»:=
 entryFor_alias (id':="dict_keyiterator.__iter__") Y1F ZHX ZL Y1F
theorem alK:entryFor table "set.__iter__"=some Builtin.«frozenset.__iter__»:=
 entryFor_alias (id':="frozenset.__iter__") Y1F ZHX ZL Y1F
theorem T6:Manifest.owners.lookup (String.ofList ['r','o','t','a','r','e','t','i','_','t','e','s'].reverse)=some Manifest.sig_set_iterator:=Y1F
theorem FH(a:Value):argsOk "set_iterator.__next__" Zms:=by
 refine dT (signature?_of (id:="set_iterator.__next__") (n:=['_','_','t','x','e','n','_','_']) (o:=Z99) Y1F T6) ?_;kernel_rfl
theorem alL(a:Value):argsOk "set_iterator.__iter__" Zms:=by
 refine dT (signature?_of (id:="set_iterator.__iter__") (n:=['_','_','r','e','t','i','_','_']) (o:=Z99) Y1F T6) ?_;kernel_rfl
noncomputable abbrev pH (f:Value) (i a n ep:Nat):Obj:={cls:=Z2I,data:=ZY #[f,YI i 0,YA,YI n 0,Z0X]}
theorem alM{E:Y8}{es:Y0W}{t:SetTable}{Q:Y5M}{f dZ:Nat}(af:ZZ1)(aA:Y3f)(iB:YBN)(g:∀{A:Around}{E:Y8}{Q:YFT},Q (some (x,dZ)) s→Zdd)(h:∀h',Yl6=some (pH (YI dZ 0) (i+1) a es.size ep)→YMP→Q YQ Yx):YNe:=by
 have dJ:YN2:=YZD
 refine YSo;refine Y0K;intro aBr aBs;refine Yhg;intro aBt aBu aBv;refine YSp;dsimp only;refine Yg;intro afO afP aBw;refine bd (bd (wpAny_setState_of aA rfl iB (wpAny_pure (cb YLy (bd (g ?_))))));have ak:=q7 (x5 (YNz 0 (rawInt dZ))) af rfl;refine Yg;intro akm akn aBx;refine bd (wpAny_setField af rfl YwK (bd (wpAny_setField ak rfl YwN ?_)));have av:=q7 YPK ak rfl;exact wpAny_pure ⟨_,rfl,wpAny_pure (h _ av (Yxg ZTC))⟩
theorem T7{E:Y8}{Q:Y5M}{h0:Heap}{Q':Y9e}(bJ:Zf)(aR:Zcy)(h:∀h',Zcx→YeV):
  wpAny YR A.in1 ZVX Q' (λe s'=>wpAny YR A (do if ←isInstance e YJq then return none else throw e) Q E s') s:=
 Ih (A:=A.in1) bJ λh' e k z=>bd (wpAny_isInstance (T:="StopIteration") (b:=true) z isSubtype_stop (wpAny_pure (h _ (k aR))))
theorem alN{E:Y8}{es:Y0W}{t:SetTable}{Q:Y5M}{f:Nat}(bJ:Zf)(af:ZZ1)(aA:Y3f)(iB:YBN)(g:∀{A:Around}{E:Y8}{Q:YFT},Z6s→Zdd)(h:Ysl):YNe:=by
 have dJ:YN2:=YZD
 refine Yg;intro PY PZ P0;refine YSo;refine Yhg;intro P1 P2 P4;refine YSp;dsimp only;exact bd (bd (wpAny_setState_of aA rfl iB (wpAny_pure (cb YLy (bd (g (bd (wpAny_setField af rfl YwS (T7 (h0:=s.heap) bJ (km s.heap it _).extBut h)))))))))
variable{J:Nat}
theorem alO{E:Y8}{es:Y0W}{t:SetTable}{Q:Y5M}{ps:Y1N}{tk c:Nat}{x:Z7}(af:YX1=YpA)(aA:Y3f)(iB:YBN)(va:ZYx)(ar:YWZ=You)(aq:es[k]?=YQ)(h:∀h',Yl6=some (pH Z1W (i+1) a es.size ep)→YMP→Q (some x.2) Yx):YNe:=by
 have dJ:YN2:=YZD
 refine YSo;refine ZGp;dsimp only;refine bd (bd (wpAny_setState_of aA rfl iB (wpAny_pure (cb YLy (bd (wpAny_seqItems va rfl (DD (show ZXA=You from ar) (bd (bd (wpAny_setState_of aA rfl iB (cb (if_neg (mL (show((ep:Nat):Int).toNat=ep from rfl) ZKi)) (iy (show es[((k:Nat):Int).toNat]?=YQ from aq) Zl))))))))))));have ak:=q7 YPK af rfl;refine Yg;intro aBy aBz aBA;exact bd (wpAny_setField af rfl YwN (wpAny_pure ⟨_,rfl,wpAny_pure (h _ ak (km s.heap it _))⟩))
theorem alP{E:Y8}{es:Y0W}{t:SetTable}{Q:Y5M}{ps:Y1N}{c:Nat}(bJ:Zf)(af:YX1=YpA)(aA:Y3f)(iB:YBN)(va:ZYx)(ar:YWZ=none)(h:Ysl):YNe:=by
 have dJ:YN2:=YZD
 refine YSo;refine ZGp;dsimp only;refine Yg;intro akc akd aBB;refine bd (bd (wpAny_setState_of aA rfl iB (wpAny_pure (cb YLy Yg))));intro Jm Jn RZ;refine bd (wpAny_seqItems va rfl (DD (show ZXA=none from ar) ?_));have ak:=q7 (x5 (YNz 0 YWp)) af rfl;exact bd (wpAny_setField af rfl YwK (bd (wpAny_setField ak rfl YwS (T7 (h0:=s.heap) bJ (Yxg ZTC).extBut h))))
abbrev Given(ord:Y36)(i:Nat)(v:Value):Y1:=∃e,Yno∧v=e.2
theorem T8{o:Obj}{E:Y8}{Q:Y8}(af:YX1=YB)(ao:o.cls=Z2I)(h:Q Y44 s):wpAny YR A (pyIter Y44) Q E s:=by
 have dJ:YN2:=⟨_,af,ao⟩
 exact wpAny_pyIter_slot dJ T5 (wpAny_call_entry T5 dJ alJ (wpAny_pure ⟨_,rfl,"set_iterator",_,dJ,rO.lookup,h⟩) (alL _))
theorem FI(x:Heap.ExtBut I h h')(b:Nat)(o:Obj)(ah:b∉[I])(e:YDK):YGq:=x b o (λq=>ah (je q)) e
theorem T9{es:Y0W}{t:SetTable}(bJ:Zf)(ne:a≠I)(iB:YBN)(ord:Y36)(f:YL)(g:∀(i:Nat)e,Yno→∀{A:Around}{E:Y8}{s:Shared}{Q:YFT},Y3f→Q (some (e.2,f (i+1))) s→wpAny YR A (setNext a (f i) i ep) Q E s)(m9:∀{A:Around}{E:Y8}{s:Shared}{Q:YFT},Y3f→Z6s→wpAny YR A (setNext a (f ord.length) ord.length ep) Q E s):
  Z8i where
 sub:=ZhP
 frame:=λi h h' st k=>⟨ZSS,k a ZMC _ Zb⟩
 item:=λi s Q E af st k=>alM Y0f Zb iB (g i _ Y2o Zb) λh' ak hW=>k _ h' s.toks Zn3 ⟨ak,YxB Zb⟩ Z3x
 done:=λs Q E st k=>alN bJ Y0f Zb iB (m9 Zb) ZiO
 self:=Zis
theorem alQ{es:Y0W}{t:SetTable}{c:Nat}{ps:Y1N}(bJ:Zf)(ne:a≠I)(alR:J≠I)(iB:YBN)(ord:Y36)(aE:ps.size=ord.length)(g:∀(i:Nat)e,Yno→∃(k:Nat)(tk:Nat),YWZ=You∧ZND):
  Walks prog w A I [I,a,J] [I] ord.length YK4 (λi h=>Yl9=YpA∧YGs∧h.get? J=YpO) where
 sub:=ZhP
 frame:=λi h h' st k=>⟨ZSS,k a (eI _ YhB) _ YE6,k J (eI _ ZMC) _ YXL⟩
 item:=λi s Q E af st k=>(g i _ Y2o).elim λn z=>z.elim λtk z=>alO Y0f YE6 iB YXL z.1 z.2 λh' ak hW=>k _ h' s.toks Zn3 ⟨ak,YxB YE6,(hW.2 J alR).trans YXL⟩ Z3x
 done:=λs Q E st k=>alP bJ Y0f YE6 iB YXL (acq (dH aE)) ZiO
 self:=Zis
theorem KD{E:Y8}{b:Bool}(ah:YNc=b){Q:Y1n}(h:Q b s):Zde:=bd (wpAny_askSetting (wpAny_pure (aV ah.symm h)))
theorem Ua{es:Y0W}{t:SetTable}{E:Y8}(ah:YNc=true)(iB:YBN){eB:Nat}{Q:YFT}(aA:Y3f)(h:Q (((pickOrder ZdK es)[i]?).map λe=>(e.2,eB)) s):wpAny YR A (setNext a eB i ep) Q E s:=by
 refine bd (wpAny_setState_of aA rfl iB Yg);intro Ub Uc alS;exact bd (KD ah (cb Y0c (cb YLy (bd (bd (wpAny_setState_of aA rfl iB (bd (KD ah (cb Y0c (bd (wpAny_askSetting YNf)))))))))))
theorem Ud{es:Y0W}{t:SetTable}{E:Y8}(ah:YNc=false)(T:ZQB)(pl:YtO){eB:Nat}(hs:oe t.place eB=i){Q:YFT}(aA:Y3f)(h:Q (match YD7,YHu with | some (_,x),Y0N=>some (x,j+1) | _,_=>none) s){n:Nat}:wpAny YR A (setNext a eB n ep) Q E s:=by
 refine bd (wpAny_setState_of aA rfl T.fits (bd (KD ah Yif)));show wpAny _ _ (if YIm=true then Zbm else _) _ _ _
 (refine aa pl Yif)
 show wpAny _ _ ((if YtM=true then Zbm else YWb) >>= λO=>_) _ _ _;rw[show YtM=false by rw[T.4];rfl,YDR];refine YGC;subst hs;exact Y1u
abbrev Ue(prog:Program)(w:World)(A:Around)(s:Shared)(a:Nat)(es:Y0W)(I:Nat)(s1:Shared):Y1:=iG (∃kQ ord St,Ydt∧Walks prog w A I kQ [I] ord.length YK4 St∧St 0 s1.heap∧∀b∈kQ,b=a∨YN6) (hU s.heap s1.heap) (s1.gens=s.gens) (s1.os=s.os) (s.heap.objs.size≤I)
theorem alT{n b:Nat}(h:ZI9):b=a∨n≤b:=YBk (λe=>YJ (dH e.symm)) λh=>YY Y1T
theorem alU{es:Y0W}{t:SetTable}{Q:Y8}{A0:Around}(aA:Y3f)(ord:Y36)(p:ZWH)(f:YL)(f0:f 0=0)(W:∀I,a≠I→Z8i)(h:ZlK):Z6l:=
 h _ _ ⟨⟨_,ord,_,p,W _ Yji,⟨aV f0.symm ZW,Yjz⟩,λb ah=>alT ah⟩,λb o e=>Y5Z,rfl,rfl,YW⟩
theorem alV{E:Y8}{Q:Y1n}(h:∀b,YNc=b→Q b s):Zde:=bd (wpAny_askSetting (wpAny_pure (h _ rfl)))
theorem Ug{E:Y8}{es:Y0W}{t:SetTable}{Q:Y8}(iB:YBN)(aA:Y3f)(k:Q Y2B {s with heap:=s.heap.push (pH x 0 a es.size ep)}):wpAny YR A (do
   let e ←setEpoch a;let y ←newFields "set_iterator" [x,YWp,YA,rawInt es.size,rawInt e]
   ret y) (λfin s'=>∃v,And (fin=Fin.done YQ6) (∃iY r,And (s'.TypeIs v iY) (And (typeLookup (YE iY) YD3=pure Zae) YeY))) E s:=
 bd (wpAny_setEpoch_of aA rfl iB (bd (wpAny_newObj_type (wpAny_pure ⟨_,rfl,"set_iterator",_,Yt4,rO.lookup,k⟩))))
theorem alW{E:Y8}{es:Y0W}{t:SetTable}{Q:Y8}(bJ:Zf)(jR:YUE)(aA:Y3f)(T:YlD)(h:ZlK):wpAny YR A ZXQ Q E s:=by
 have dJ:ZYq:=Y9j
 refine wpAny_pyIter_slot dJ F.slot_set_iter (wpAny_call_entry F.slot_set_iter dJ alK ?_ (F.args_set_iter_1 _));refine YGC;refine Yg;intro aBC aBD aBE;refine bd (bd (bd (wpAny_setState_of aA rfl T.fits Ze1)));dsimp only;refine bd (bd (wpAny_setState_of aA rfl T.fits ?_));refine bd (alV YO9);show wpAny _ _ (pure YtI) _ _ _;have slot:=alU (A0:=A) (prog:=prog) (w:=w) (A:=A) (Q:=Q) aA;have text:Y6F→Z6l:=λe=>by
  subst e;exact slot _ (alG ZdK es) Y86 rfl (λI ne=>T9 bJ ne T.fits _ _ (λi e he=>λm7 k=>Ua ah T.fits m7 (by refine bN (l9) (aX he ?_);exact k)) λm7 k=>Ua ah T.fits m7 (by refine bN (l9) (aX Ynv ?_);exact k)) h
 refine Zl;by_cases q:YtI=true
 ·refine ZJP;have bo:es.size=(di es.size).length:=fN.symm;refine bd (alI _ _ bo.symm λl d p=>?_);refine bd (wpAny_newTuple ?_ (by refine aj YF (aj (p.length_eq.trans bo.symm:l.length=es.size) ?_);exact ZEy));have m7:Yyk a=Y6b:=Yjz;refine Ug (s:={s with heap:=s.heap.push YNu,drawn:=d}) T.fits m7 ?_;have va:Yyk s.heap.objs.size=some YNu:=ZW;have z:(s.heap.push YNu).objs.size=Y1J:=YBI;refine h _ _ ⟨⟨_,l.map λk=>ZN5,_,?_,alQ (a:=a) (J:=s.heap.objs.size) bJ (ej (fE m7)) (ej (fE va)) T.fits _ (by exact aL Ac (aL YF (YF))) (λi e he=>?_),⟨ZW,eu _ m7,eu _ va⟩,YO9⟩,Yrb,rfl,rfl,aa z Y1I⟩
  ·refine(p.map _).trans (.of_eq Ye3);refine aj (gy) (aL (show es.toList[i]?=YD7 from l9) ?_);by_cases af:Yla
   ·refine aX (q9 af) (aL ZW7 ?_);show some (es.getD i _)=_;refine aX (sq) (gS ZW7 ?_);rfl
   ·rw[p6 (by rw[fN];exact YlT),acq YlT];rfl
  ·replace he:=aQ (gy) he
   cases aR:Y53 with
   |none=>replace he:=ZGN;exact ZJ5
   |some k=>
    replace he:=ZGN;have lk:k<es.size:=jK (p.mem_iff.mp (et aR));refine⟨k,0,by rw[q8,gy,aR];rfl,?_⟩;have he:ZN5=e:=cu he;replace he:=eT Ynj (aQ (sq) he);refine aj Ynj ?_;exact congrArg some he
  ·rcases YLS with e | ah
   ·exact YJ (aa e (z▸Y1I))
   ·rcases YLS with e | ah
    ·exact YBw
    ·exact YJ (dH Yvg)
 ·refine cb ZN ?_;refine bd (wpAny_pure (Ug T.fits aA ?_))
  cases b with
  |true=>exact text rfl
  |false=>
   have T:ZQB:=by rw[show YDd=true by unfold lq;rw[ah];rfl]at T;exact T
   have pl:YtO:=HA q;have lk:∀i,Yla→∃j,YpW:=λi af=>⟨_,od (aV T.1.symm af)⟩
   have ei:∀i,i≤es.size→oe t.place (Nat.rec 0 ZjC i)=i:=λi af=>by
    cases i with
    |zero=>exact aky T.2
    |succ k=>
     obtain⟨j,aM⟩:=lk k af;show oe t.place YpV=k+1;refine gS (sq) (aa aM ?_);exact akz T.2 aM
   refine slot es.toList Y3U (Nat.rec 0 ZjC) rfl (λI ne=>T9 bJ ne T.fits _ _ (λi e he=>ZjM) ZjM) h
   ·have af:Yla:=aV iv YxT;obtain⟨j,aM⟩:=lk i af;replace he:=aQ (l9) he;refine Ud ah T pl (ei i YUp) m7 ?_;refine As he (dT aM ?_);have aJ:t.place.getD i 0=j:=by refine aj (sq) (aT aM ?_);rfl
    exact aV aJ k
   ·refine ix iv ?_;refine Ud ah T pl (ei _ YW) m7 ?_;refine As (acq YW) ?_;exact k
theorem alX{E:Y8}{r:Nat}{Q:Y1n}(dJ:s.TypeIs Z1m "set")(h:YCQ):wpAny YR A (Builtin.List.listLengthHint Z1m) Q E s:=by
 refine bd (wpAny_specialOf dJ PySem.F.slot_set_len.lookup ?_);generalize Uh:("set.__len__":String)=alY
 wp_delta
 rw[show splitId alY=some ("set","__len__")from by subst Uh;decide +kernel];subst Uh;exact bd (wpAny_isInstance (T:="set") (b:=true) dJ YSy (wpAny_ite_split (λwq=>absurd wq YC) (λO=>wpAny_ite_split (λO=>bd (wpAny_typeOf dJ Y1u)) (λwq=>absurd ZL wq))))
theorem alZ{es:Y0W}{t:SetTable}{R:Y48}(bJ:Ycj)(jR:YUE)(aA:Y3f)(T:YlD){S:Nat}(Ui:S≠a)(res:Value)(tn:ZYy=Zah)(gI:∀s' gC ft ord,Ydt→(∀b o,YGF→YN4)→Y56→Y4P→s'.heap.get? S=Zai→Z4d→R (.ok (YS res)) s'):
  wpAny YR A.in1 (Builtin.List.listExtendWith YJl YA res)
   ZiJ Zi9 s:=by
 refine Yg;intro PU PV al0;refine bd (wpAny_typeOf (Y9j:ZYq) ?_);have ak:ayG YJl YA=false:=by simp[ayG,Ui]
 simp -iota only [ak,show(Zco==Zcn)=false by decide,show(Zco==Zcp)=false by decide,Ds,Bool.false_eq_true,if_false];refine bd (alW bJ jR aA T λI s1 B=>YM);obtain⟨⟨kQ,ord,St,p,W,st,hf⟩,b5,cR,lR,fr⟩:=B;refine Yb;have Uj:S∉kQ:=λm=>(hf S m).elim Ui λq=>absurd ZNz (sm q);have az:ord.length≤sizeLine:=aj p.length_eq (aj iv ZEy);have key:∀(h:Heap)(c₁ tk:Nat),St 0 h→(∀b o,YGF→s1.heap.get? b=YB→YDK)→
   YAp=some {cls:=Y4c,data:=Y45 #[] c₁}→codeAny YR A (ZK "list.extend.loop" ⟨[YJl,Y1B,res],[]⟩) R {s1 with heap:=h,toks:=tk}:=by
  intro h c₁ tk qu aR w3;refine codeAny_extend_loopS W.toS az S Uj res ord.length 0 _ #[] c₁ rfl Z0 qu w3 (ItemsOf.nil _) λs' gC ft hm w4 oP=>gI s' gC ft ord p (λb o ah e=>hm.heap b o (λKG=>?_) (aR b o ah YhD)) (hm.gens.trans cR) (hm.os.trans lR) w4 oP;rcases dz KG with bk | KG
  ·exact ah bk
  ·exact absurd YDB (dS (bR KG) (sm fr))
 have w3:=b5 _ _ tn;refine Yg;intro P1 P2 P4;refine bd (wpAny_holding (alX ⟨_,ZFf,rfl⟩ (wpAny_ite_split (λO=>bd (wpAny_rule ZGi)) (λO=>wpAny_pure ⟨ZWv,key _ 0 _ st (λb o O e=>e) w3⟩))));intro al1 al2 aBF;refine bd (wpAny_updateSeq w3 rfl ?_);have Uk:=q7 (l7 (YrG l6)) w3 rfl;refine wpAny_updateSeq (hz:=by seq_fits) Uk rfl ?_;have al3:=q7 (l7 (·.pop)) Uk rfl;refine wpAny_pure ⟨ZWv,key _ _ _ ?_ (λb o ah e=>?_) al3⟩
 ·refine W.frame 0 _ _ st λb ah o e=>?_;have Ul:YGF:=λh=>Uj (aV h ah);exact YuT (YuT e)
 ·exact YZn (YZn e)
theorem al4{E:Y8}{es:Y0W}{t:SetTable}{R:YR3}(bJ:Zf)(jR:YUE)(aA:Y3f)(T:YlD)(h:∀s' xs(ord:Y36),ZWH→Y7k→Y56→Y4P→xs=ord.map Y1w→R xs s'):
  wpAny YR A Yim R E s:=by
 refine bd (wpAny_runValue (codeAny_builtin entry_proto_collect' (kK (Ah PySem.F.plain_proto_collect _) ?_)));show wpAny _ A.in1 (YVw >>= λl=>again (ZK "list.__iadd__" ⟨[l,YA],[]⟩)) _ _ s;refine bd (wpAny_newObj_type (wpAny_pure ⟨plainId_quiet ayI _,codeAny_builtin entry_list_iadd' (kK (Ah ayI _) ?_)⟩));have w3:(s.heap.push Zfb).get? s.heap.objs.size=Zah:=ZW;have key:=alZ (prog:=prog) (A:=A) (s:={s with heap:=s.heap.push Zfb})
  (R:=λ(q:Result)(s':Shared)=>∃gC ft ord,q=.ok (YS Y2B)∧Ydt∧Y7k∧Y56∧Y4P∧
   s'.heap.get? s.heap.objs.size=Zai∧Z4d)
  bJ jR Yjz T (p8 YDA) Y2B w3
  (λs' gC ft ord p aR cR lR w4 oP=>⟨gC,ft,ord,rfl,p,λb o e=>aR b o Y6L Y5Z,cR,lR,w4,oP⟩)
 refine wpAny_mono key (λfin s' x=>?_) λe s' x=>?_
 ·cases fin with
  |done f=>
   refine YM;obtain⟨gC,ft,ord,e,p,b5,cR,lR,w4,oP⟩:=x;refine Yb
   cases e
   exact bd (wpAny_load w4 (wpAny_pure (h s' gC.toList ord p b5 cR lR Z4i)))
  |again c₁=>
   refine⟨x.1,codeAny_mono x.2 λq yI y=>YM⟩;obtain⟨gC,ft,ord,rfl,p,b5,cR,lR,w4,oP⟩:=y;exact ax (bd (wpAny_load w4 (wpAny_pure (h yI gC.toList ord p b5 cR lR Z4i))))
 ·refine YM;obtain⟨_,_,_,bk,_⟩:=x;refine Yb
  cases bk
theorem m8.stays{S:Nat}(x:Ymv)(k:Y2T)(e:Yl4):m8 w led h' S us:=ZeG
theorem qH.stays{S:Nat}(x:ZXc)(k:Y2T)(e:Yl4):qH w led h' S us:=ZeG
theorem m8.obj{S:Nat}(x:Ymv):ZmP:=x _ λes ep t c6 O O=>⟨es,ep,t,c6⟩
theorem Um{S:Nat}{K:Y4i}[YQb]{knd:YRG}{ok:Y5Q}{key:YRf}(C:Yr2)(led:Bool){c:Nat}(ao:∀u,Y7v→ZP3):BU prog w S (λus h=>Ymv) ok:=
 ⟨λbj aR i pG bg jR h0 ak=>akK C i aR pG bg (fF jR Y2) h0 ak,
  m8.stays,
  λbj pG bg h=>yr (ao _ pG) bg bj (h _),
  m8.obj⟩
theorem al5{S:Nat}(led:Bool):BU prog w S (λus h=>ZXc) (λu=>YM4):=
 ⟨λbj aR i pG bg jR h0 ak=>alh bj aR pG bg i jR h0 ak,
  qH.stays,
  λbj pG bg h=>yr (c:=3) pG bg bj (h _),
  λi=>i.set.obj⟩
def al6(v:V):Int:=Zci
def Un(v:V):Str:=(v.onStr none tab).getD jc
def al7(v:V):Y1:=∃n s,v=ZM∧YBP
theorem al8:zb prog w ZDE (λu=>Zbe) al6:=
 ⟨λ{h x u}o r=>YZr λn e=>(show aK h x Y8Q from YUJ).elim λt q=>by rw[e,q];exact⟨intKind_is prog w _ _,rfl⟩,
  λu o=>YZr λn e=>YCd,
  λu v o o' q=>YZr λn e=>(V.jM o').elim λm bk=>by(replace q:=fU bk ZGQ;refine aj e (aL bk ?_));exact ZJv⟩
theorem al9:zb prog w YHU al7 Un:=
 ⟨λ{h x u}o r=>o.elim λn o=>o.elim λs o=>(show ZB7 from o.1▸r).elim λt q=>q.elim λs' q=>by
  have e:Un u=s':=aX o.1 (congrArg (Ha · jc) q.1);rw[e,q.2];exact⟨Zay,rfl⟩,
  λu o=>o.elim λn o=>o.elim λs o=>by rw[o.1];rfl,
  λu v o o' q=>o.elim λn o=>o.elim λs o=>o'.elim λm o'=>o'.elim λs' o'=>by
  (replace q:=fU o'.1 (bN o.1 q);refine aj o.1 (aL o'.1 ?_))
  have q:Yz7=Yz6 jc:=q;replace q:=um o'.2 (eT o.2 q);exact congrArg V.str (AA o.2 (aa (show s=s' from q) o'.2))⟩
theorem KH{S:Nat}(e:YAp=some (gk #[] 0 (.fresh 0 0 led))):qH w led h S []:=(λO bA=>bA (#[]) 0 _ e (⟨⟨rfl,Hk,rfl,rfl,Z0⟩,YY ⟨rfl,Y2⟩,λi e j he=>ZJ5⟩) ⟨a9.nil,rfl⟩)
abbrev Uo(vs:Y3):Y1:=(∀v∈vs,YEB)∨(∀v∈vs,YEA)∨(∀v∈vs,Y9G)
theorem ama{E:Y8}{l:Nat}{Q:Y8}(bJ:Zf)(bj:Ycl)(aE:YN3)(bo:YRw)(aR:Uo vs)(jR:YNZ)(h:∀(h':Heap)(tk:Nat)(us:Y3),m8 w YDd h' s.heap.objs.size us→ZTj):
  ZdX:=by
 rcases aR with aR | aR | aR
 ·refine KC bJ bj aE bo Y89 jR (Um al9 YDd (c:=1) λu o=>o.elim λn o=>o.elim λs o=>aa o.1 rfl) ZiM h;obtain⟨i,af⟩:=pe aO;obtain⟨y,_,r⟩:=bo.get af;obtain⟨n,e⟩:=V.kr (aR v aO);exact(show aK _ y ZM from YUJ).elim λt q=>q.elim λs' q=>⟨n,s',e,q.1⟩
 ·exact KC bJ bj aE bo aR jR (Um al8 YDd (c:=2) λu o=>o) ZiM h
 ·exact KC bJ bj aE bo aR jR (al5 YDd) (λh e=>KH e) λh' tk us i=>h h' tk us i.set
def BX(nm:String)(c:bP)(e:aI):Y67:=Yb7 none λx=>cond (decide YqR) (l1 Y1K none λy=>(yA c y).elim none λz=>cond (decide (Y5D=Yjt)) (some Y6g) none) none
abbrev tp(vs:Y3):Y1:=jd YNZ YVf (Uo vs)
def amb(vs:Y3)(m:ag)(Q:Yj):Y1:=one vs False λa=>lst a m λO O l=>YI1∧∀us:Y3,us.Nodup→YZ8→j9 us→alloc m Z0a Q
def amc(vs:Y3)(m:ag)(Q:Yj):Y1:=one vs False λa=>lst a m λO O l=>YI1∧∀us:Y3,us.Nodup→YZ8→Q (YI (us.length:Int)) m
abbrev amd(n:Str)(c:bP)(e:aI)(es:Ye)(P:Y1):Y1:=∀(p pos:Pos),e=Yzi→Y5e→YGG→Y5u→P
abbrev KI(n:Str)(c:bP)(e:aI)(es:Ye):Y1:=∀P:Y1,amd n c e es P→P
theorem Up{n:Str}{c:bP}{e:aI}(x:YrC)(q:decide (Y2a=n)=true):KI n c e Y1K:=
 YHV▸YIG λp z=>z.elim λpos aJ=>(λO bA=>bA p pos aJ YIH YXu YXv)
theorem Uq{nm:String}{c:bP}{e:aI}{es:Ye}(h:Ycu):∃y,KI Y3b c e [y]∧KI Yjt c y es:=
 j7 h λx O h=>rB h λq h=>Jv h λy fy h=>j7 h λz O h=>rB h λck h=>⟨y,aV fy (Up x q),Y4u▸Up z ck⟩
theorem Ur{nm:String}{c:bP}{e:aI}{es:Ye}{P:aI→Y1}(hm:Ycu)(h:∀f es p,P (Y0Q f es [] p)):P e:=Yur λy z=>z.1 _ λp pos aJ O O O=>aa aJ (h _ _ _)
theorem Us{c:bP}{nm:String}(B:Yne){e:aI}{es:Ye}(K:ZG)(L:ZI)(hm:Ycu){P:Ys}(h:gH g k env c.ns r es mh λvs m=>one vs False λa=>lst a m λO O l=>YI1∧P l m)(go:∀{A:Around}{s:Shared}{m:ag}{l us:Y3}{a:Nat},Z5→Y4l→m8 g.w (lq g.w) s.heap a us→lQ us l→YI1→P l m→fW g A cX s m (call x Y8j) Zh):YK3:=λA s aG ae aN=>by
 refine Yur λy z=>z.1 _ λp pos fx O dC uV=>z.2 _ λcO ame aC hs du i3=>?_;clear z hm;subst fx aC;refine wpAny_Call_NameR (AR K.1 ae aN (rq L dC) uV B.1 B.2 B.3 (ix (nJ (es:=[Y0Q (Y09 Yjt cO) es [] ame]) rfl ..) (B.4 YAR (uH lh (NT Yg)))));intro PY PZ P0;refine wpAny_Call_NameR (AR K.1 ae aN (rq L du) i3 Fj.1 Fj.2 Fj.3 (ix YDk (Fj.4 YAR (uH lh (YPD λxs s1 z=>YM)))));obtain⟨m1,z⟩:=z;obtain⟨vs,bg,q⟩:=z.3;refine ax (rr q λb cM ck=>jN ck λl t fX fa hm gD=>?_);subst cM;subst fa;obtain⟨y,fy,gA⟩:=bg.one
 (refine ix fy (aa (gA.fP rfl) ?_))
 refine z.1.list hm λbf ep aA hM=>ama Y4m (fF (c0 (show 40≤60 by exact Y2) _) aG.D3) YDS hM gD.1.3 gD.1.1 λh' tk us S m b5=>NS ?_;have Ut:YlL:=λb o e=>b5 b o YDB e;exact nE (Y0m (Step.grow (s':=YrB) Ut)) (go (s:=YrB) aG (YEH (s':=YrB) Ut rfl rfl) S m gD.1 gD.2)
theorem tp.dI{l:Y3}(h:YI1){v:V}(aO:YNa):YTl∧v≠Y35:=by
 rcases h.3 with q | q | q
 ·exact⟨D1 (c:=1) YWe,Yrk⟩
 ·exact⟨D1 (c:=2) YWe,Yrk⟩
 ·exact⟨D1 (c:=3) YWe,Yrk⟩
theorem lQ.sortable{l:Y3}(m:lQ us l)(ok:YI1)(p:vs.Perm us):YNp:=by
 have oB:∀v,v∈vs→YNa:=λv aO=>Yaf ZWX;exact⟨by refine aj p.length_eq ?_;exact fF m.len (fF YHW Y2),⟨λa aD b ah=>ok.2.1 a Ynd b (oB b ah),λa aD=>YWE a Ynd⟩,λa aD=>ok.dI Ynd⟩
def FJ:dj:=lL ⟨λO c e=>BX "sorted" c e,λO vs m Q=>amb vs m Q⟩ Zie λK L hm h=>Us y3 K L hm h λ{A s m l us a}aG ae S mt ok q=>by
 refine S _ Yrn;have jR:YUE:=aQ iv (aj hX.len ZF2);refine Tg aG (al4 (A:=A.in1) Y4m jR aA T λs1 xs ord p b5 cR lR ex=>?_);obtain⟨d0,dV,Kw⟩:=hX.perm p;subst ex;refine⟨d0,mt.sortable ok dV,⟨cR,lR,b5,Kw.1.keep Y63⟩,λh' bf Pn fX rK bb gA pm mc=>?_⟩;have pu:=pm.trans dV;exact hy.go Yep (BD (s':=YEK) (ae.grow b5 cR lR) rK rfl rfl Y1f bb gA (q fX (pu.nodup_iff.mpr mt.1) (λv=>pu.mem_iff.trans (mt.2 v)) mc))
def amf:dj:=lL ⟨λO c e=>BX "len" c e,λO vs m Q=>amc vs m Q⟩ Zie λK L hm h=>Us S3 K L hm h λ{A s m l us a}aG ae S mt ok q=>by
 refine S _ Yrn;have fZ:ZN9:=ZGH;exact call_len_set aA YtB rfl T.fits (by rw[fZ];exact fit (au ZF2 Y2)) (gT fZ (me _ ae Y4E (q us mt.1 mt.2)))
def KJ(v:V)(mh:ag)(Q:Y1C):Y1:=v.casesOn False Y3x Y3x Y3x (λa=>∃t l,Y0d=ZaQ∧Z6r) Y3x ZjJ
theorem amg{v:V}{Q:Y1C}(ae:Y4l)(st:YFh)(bz:Y2k)(q:Z4o):YKT:=by
 cases v with
 |ref a=>exact q.elim λt q=>q.elim λl q=>(bz.fP rfl).symm▸Qd ae st q.1 q.2
 |tup l=>exact Qe ae st bz q
 |_=>exact q.elim
def BY:gq:=⟨yD KJ,AV amg⟩
noncomputable abbrev v (i:Nat):E:=Y8V
noncomputable abbrev qI:E:=.op (Bs Y7) []
noncomputable abbrev pI (b:Bool):E:=.op (Bs Y1x) []
noncomputable abbrev bY (i:Int):E:=.op (Bs Y3S) []
noncomputable abbrev bK (n:Nat):E:=.op (Bs ZM) []
def amh:S:=YS (Y6v (.op oEq [.op i4 YT,Y1c]) (.op oEq [.op aiD [.op fi [v 0,Y0I]],bK 2]))
def ami:YH:=["t"]
def amj:S:=YS (.op FJ [ZF hb [.op ZJ2 YT] YcZ 2 [] [Z12] Y3m])
def amk:YH:=["t"]
def aml:S:=Y01 (Ya Fo (v 1) [ZF hb [.op ZJ2 Y2D] YcZ 2 [2] [] (.op oTup [.op rE [.op oTup Y1a,v 0],v 1])]) YO
def amm:S:=YcG
def amn:S:=Y0A It [.op kT YT] Yca (aml) amm
def amo:S:=Yi YEy (.op fj [.op oTup [Yc2,v 0]]) amn
def amq:YH:=["t","found","k","kid"]
def amr:S:=Yi (.fd 198 3 (v 0)) Y0x YO
def ams:S:=Yi (.fd 198 2 (v 0)) Y0x amr
def amt:S:=Yi (.fd 198 1 (v 0)) YPn ams
def amu:S:=Yi (.fd 198 0 (v 0)) Y0x amt
def amv:YH:=Y6A
def amw:S:=YS YPr
def amx:YH:=Y6A
def amy:S:=YS (.op fc [Ybg,v 3])
def amz:S:=.cV (YEz (.chain Y0I (v 4) YPr)) Y8P YO YO
def amA:S:=YS (.op nR [YPr,Y1c])
def amB:S:=Y01 (Ya mr (.op ZFa YT) [.op oI [Y1c,.op ajv [.op Bt [ZF iK [YPt] ZQ 1 [0] [] (.op gW [.op ZFa Zg,v 0]),Z1A]]]]) amA
def amC:S:=Y01 (Ya mr (.op ZFZ YT) [.op oI [Y1c,.op S9 [ZF iK [YPt] ZQ 1 [0] [] (.op gW [.op ZFZ Zg,v 0])]]]) amB
def amD:S:=Y01 (Ya mr YC5 Y2D) amC
def amE:S:=Yi (.hA Ybg (v 3)) YPr amD
def amF:S:=Y0A iK [YPt] YPj (amz) amE
def amG:S:=Y01 (Ya (c3 198 129) (v 0) Zg) amF
def amH:S:=.cV (.op JF [v 3,Ybg]) (amy) YO amG
def amI:S:=Yi Y72 (.op rE [.op oTup Zg,Z1F]) amH
def amJ:YH:=["self","op","kids","node","kid"]
def amK:S:=.cV (.or (YEz (.op (cU 79) Zg)) (.op oEq [.op aiB YfL,bK 2])) Y8P YO YO
def amL:YH:=["self","op"]
def amM:S:=YS (.op fi [Z1B,Y0I])
def amN:YH:=YRl
def amO:S:=YS (.op kT [Z1B])
def amP:YH:=YRl
def amQ:S:=Yi (.fd 236 0 (v 0)) (v 1) YO
def amR:YH:=Z98
def amS:S:=YS (.cV (.op oEq [Ya wV (v 1) [v 4,v 2],v 2]) (.op fj [v 5]) Y0x)
def amT:S:=Yi (.hA (v 5) (v 4)) (v 2) amS
def Uu:S:=Yi Z0f (.op ajZ Zg) amT
def amU:S:=.yR 8 Z1s YO
def amV:S:=Y01 (Ya Fo (v 6) [v 8]) YO
def amW:S:=Y0A Qj [Z1E,YPt] (YCC 9 10) (amU) amV
def amX:S:=Yi Z0g (.op fj Zg) amW
def amY:S:=.cV (Y6v (.op oEq [Z19,v 4]) (.op oEq [.op i4 [v 7],.op i4 Y2D])) (amX) YO YO
def amZ:S:=YS (v 6)
def am0:S:=Y0A hb [Ya (c3 617 595) Ybh Y1a] (Y1L 7) (amY) amZ
def Uv:S:=Yi Ybd Y0x am0
def am1:S:=.cV (.op YiY Y2D) (Uu) YO Uv
def am2:S:=Yi YJf (.op fi Z9w) am1
def am3:YH:=["self","table","c","pattern","op","late","found","node","tables","kid","part"]
def am4:S:=Yi (.hA (v 3) (.op nT [.op Ti YCX])) YHY YO
def am5:S:=YS (.op ajL Y2D)
def am6:S:=Y0A hb [Ya ZIX (v 0) [.op (tl 1) [],Ya YTA Ybh Zg,v 2]] YPj (am4) am5
def am7:S:=Yi Y72 (.op (tl 5) []) am6
def am8:YH:=["self","c","pattern","substs","table"]
def am9:S:=YS (.sX hb [Ya (c3 617 583) Ybh []] ZQ hb [Ya (c3 236 228) (v 2) [v 0,v 3]] Z0n 2 [0,1] (.op oTup Z9r))
def ana:YH:=["self","pattern"]
def Uw:S:=.cV (.op wQ [YBQ,Y0x]) Y8P YO YO
def Ux:S:=.yR 10 (ZF hb [.op Bt [.op YiZ [v 8],.op YiZ [v 9]]] ZQ 1 [5] Z9I (v 0)) Uw
def anb:S:=.cV (.op Sm [v 7,.op oTup [bK 5,bK 33]]) Y8P YO Ux
def anc:S:=Yi (.fd 263 3 (v 0)) (.op nT YCX) YO
def ane:S:=Yi (.fd 263 2 (v 0)) (v 3) anc
def anf:S:=Yi (.fd 263 1 (v 0)) (v 2) ane
def ang:S:=Yi (.fd 263 0 (v 0)) (v 1) anf
def Uy:S:=Y0A hb [v 6] (YcT 7 8 9) (anb) ang
def anh:S:=Yi Ybd (.op Bt [.op fj [.op oTup [bK 5,v 3,v 3]],.op BE YCX]) Uy
def Uz:S:=Yi Z0f (.op YiZ Y1a) anh
def ani:S:=.cV (.op YiY Y1a) Y8P YO Uz
def anj:YH:=["self","name","left","right","needs","known","asked","kind","one","other","lost"]
def ank:S:=Yi (.fd 301 0 (v 0)) (v 1) YO
def anl:YH:=Z98
def UA:S:=YS Ybt
def UB:S:=YS (Ya ZIc (.op (b2 301 0) YT) [Y3m,ZF iK Y8i ZQ 1 YKZ [] (Ya YiB (v 1) YfK)])
def anm:S:=.cV Z12 (UA) YO UB
def ano:YH:=["self","pattern","table"]
def anp:S:=Yi (.fd 358 8 (v 0)) Ybq YO
def anq:S:=Yi (.fd 358 7 (v 0)) Ybq anp
def anr:S:=Yi Z0I Y0I anq
def ans:S:=Yi (.fd 358 5 (v 0)) Y0x anr
def ant:S:=Yi (.fd 358 4 (v 0)) (.op (cU 301) Zg) ans
def anu:S:=Yi (.fd 358 3 (v 0)) (.op (cU 236) Zg) ant
def anv:S:=Yi (.fd 358 2 (v 0)) (v 3) anu
def anw:S:=Yi (.fd 358 1 (v 0)) (.op BE Y1a) anv
def UC:S:=Yi (.fd 358 0 (v 0)) (v 1) anw
def UD:S:=.cV (.op oLt [.op amf YCX,.op i4 YCX]) Y8P YO UC
def UE:S:=.yR 4 (ZF hb Y1a ZQ 1 [] [] (.op YKv YT)) UD
def anx:S:=.cV (.op Sm [Ya wV (v 3) Z9e,.op (wN YcV) []]) Y8P YO UE
def anz:YH:=["self","heap","rules","options","names"]
def anA:S:=YS (.op oJ [Ya ZIa Ybi [],Ya wV YPk [bK 15,bY 10000]])
def anB:YH:=Y6A
def anC:S:=YcI
def anD:S:=YcI
def anE:S:=Y01 (Ya mr Z0u [.op oTup [YJh,Z0r,Ybw,Y0I]]) anD
def anF:S:=Yi (.eB Z0w (v 1)) (.op oI [Z1K,.op gW [Z0v,v 1]]) anE
def anG:S:=Yi (.eB Z0v (v 1)) Z16 anF
def anH:S:=Z1p
def anI:S:=.cV (Y6v (.op oEq [Z0d,bK 25]) (.op oJ [Ybw,Ya wV YPk [YSf,bY 100]])) (anG) YO anH
def UG:S:=Yi Y62 (Ya ZIY (.op ZFd YT) [.op YhA [YF4]]) anI
def anJ:S:=.cV (.op oJ [.op gW [Z0w,v 1],YJh]) (anC) YO UG
def anK:YH:=["self","k","found"]
def anL:S:=YbP
def anM:S:=YF8
def UH:S:=YS (Ya (c3 617 555) Ybi [v 4,v 5,.op oTup [bK 26,.op YKv Zg,Z1F]])
def UI:S:=.wJ [4,5] [Ya YiB Z0t [.op YhA Zg,v 3],Ya YiB Z0t [.op (b2 263 2) Zg,v 3]] UH
def UJ:S:=.cV (.op wQ [ZF iK [Z0s] ZQ 1 [0,3] [Z16] (v 0),Y0x]) (anM) YO UI
def anN:S:=.cV (.op aiu [Z0s,Yc2]) (anL) YO UJ
def anO:S:=Yi Y72 Z15 anN
def anP:YH:=["self","rule","subst","table","left","right"]
def anQ:S:=Yi Y72 (.op oI [v 3,Y1c]) YO
def anR:S:=.cV Yzy (anQ) YO YO
def anS:S:=YcH
def anT:S:=Y01 (Ya mr Z0u [.op oTup [YJh,Z0r,Ybw,v 3]]) anS
def anU:S:=Y0A hb Y1a Ycb (anR) anT
def anV:S:=Yi Y72 Y0I anU
def anW:YH:=["self","k","found","joined","c","subst"]
def UK:S:=YbP
def anY:S:=Yi YEy (.op oI [v 1,Ya YiC (v 0) [v 3,Ya ZIZ (v 0) Y2D]]) UK
def UL:S:=Y0A nM Y1a Z0p (anY) YO
def anZ:S:=YbP
def UM:S:=Yi YEy (.op S9 [ZF nM Y1a ZQ 1 [0,4] [.op aiw [YPq,qI]] (Ya YiC (v 1) [v 0,YPq])]) anZ
def KL:S:=Yi YJf (ZF nM Y1a ZQ 1 [0] [] (Ya ZIZ (v 1) YT)) UM
def an0:S:=YcG
def UN:S:=Yi Z0I Z1K an0
def an1:S:=.cV (.op oEq [Z0d,YKy]) (UL) (KL) UN
def UO:S:=Y01 YPg an1
def an2:S:=.wJ [1,2] [Y0I,.op qG [Z1D]] UO
def an3:YH:=["self","joined","some","k","lists"]
def an4:S:=Yi (.fd 405 0 (v 0)) (v 1) YO
def an5:YH:=["self","runner"]
def UP:S:=YS (Ya (c3 405 388) (v 0) [YA1])
def UQ:S:=YS (.op oJ [Ya (c3 358 348) YC6 [],Y0I])
def UR:S:=YS (.op wQ [ZF hb [ZF iK Y8i ZQ 1 [0] [] (Ya YT8 (v 1) YT)] ZQ 1 [] YT Y1c,Y0x])
def US:S:=YS (Ya (c3 405 395) (v 0) Y8i)
def UT:S:=YS (Ya (c3 405 402) (v 0) [YA1,YPp])
def an6:S:=.cV Z1H (UT) YO Y8P
def an7:S:=.cV Ybx (US) YO an6
def an8:S:=.cV Yby (UR) YO an7
def an9:S:=.cV YPu (UQ) YO an8
def UU:S:=.cV YJj (UP) YO an9
def aoa:S:=Yi Y62 Y3m UU
def rP:YH:=["self","plan","kind"]
def aob:S:=Z1o
def aoc:S:=Y01 Z0c aob
def aod:S:=Yi YJf (Ya YiC YC6 [v 2,Ya ZIY (.op ZFd [YC6]) [.op YhA Y2D]]) aoc
def UW:S:=Y01 Z0c aod
def UX:S:=.cV (.op oEq [.op YKv Y2D,v 1]) (UW) YO YO
def aoe:S:=Y0A yE Z9H Yca (UX) Y8P
def BZ:YH:=["self","name","k","rule","joined"]
def aof:S:=YS YHY
def FK:S:=.cV (Ya YT8 (v 0) Y1a) (aof) YO YO
def UY:S:=YF8
def aog:S:=Y0A iK Zg Z0o (FK) UY
def aoh:YH:=["self","plans","plan"]
def aoi:S:=YS (.op oJ Z9w)
def aoj:S:=.cV (YEz (Ya YT8 (v 0) Zg)) (aoi) YO YO
def aok:S:=YS (.op oJ [v 2,Y0I])
def aol:S:=Y0A nM [.op qG Y1a] Z0p (aoj) aok
def aom:YH:=["self","plan","most","lap"]
def aon:S:=Yi (.fd 487 2 (v 0)) Y0x YO
def aoo:S:=Yi (.fd 487 1 (v 0)) Y0x aon
def aop:S:=Yi (.fd 487 0 (v 0)) Y0x aoo
def aoq:YH:=Y6A
def aor:S:=YS (.op nR [YPs,Y1c])
def aos:S:=Y01 (Ya mr YJi [.op fj [.op i4 [YJi]]]) aor
def aot:S:=Y01 (Ya mr Y9z [YPs]) aos
def aou:YH:=Y6A
def aov:S:=YS YPs
def aow:YH:=Y6A
def aox:S:=Yi YEy Z1C YO
def aoy:S:=YcG
def aoz:S:=.Be (.op wO [Z1C,v 1]) (aox) aoy
def aoA:YH:=Z96
def aoB:S:=YcI
def aoC:S:=YS Z1Q
def aoD:S:=Y01 (Ya mr (.op (b2 487 2) YT) [Z1Q]) aoC
def aoE:S:=Y01 (Ya Fo (.op gW [YJi,v 3]) [.op gW [YJi,v 4]]) aoD
def aoF:S:=Yi (.eB Y9z (v 4)) (v 3) aoE
def UZ:S:=.cV (.op oEq Z9x) (aoB) YO aoF
def aoG:S:=.wK true 3 4 (.op Fp [.op fj [Z0b,Ya YT9 (v 0) Y1a]]) UZ
def aoH:YH:=["self","a","b","kept","gone"]
def aoI:S:=YS (.op Fp [.op gW [YJi,Z0b]])
def aoJ:YH:=Z96
def aoK:S:=YS (ZF nM [.op qG [YPs]] ZQ 1 [0] [.op oEq [.op gW [.op ZFe Zg,v 0],v 0]] (v 0))
def aoL:YH:=Y6A
def aoM:S:=Yi (.fd 617 6 (v 0)) Y0x YO
def aoN:S:=Yi (.fd 617 5 (v 0)) (.op (tl 2) []) aoM
def aoO:S:=Yi (.fd 617 4 (v 0)) YPn aoN
def aoP:S:=Yi (.fd 617 3 (v 0)) Y0x aoO
def U0:S:=Yi (.fd 617 2 (v 0)) Y0x aoP
def U1:S:=Yi (.fd 617 1 (v 0)) (.op (cU 487) []) U0
def aoQ:S:=Yi (.fd 617 0 (v 0)) (.op (cU 198) []) U1
def aoR:YH:=Y6A
def aoS:S:=YS (Ya (c3 198 117) YPl [])
def aoT:YH:=Y6A
def aoU:S:=YS (.op rE [.op oTup [Ya (c3 198 155) YPl Zg],.op nT [ZF iK [Ya (c3 198 162) YPl Zg] ZQ 1 [0] [] YEx]])
def aoV:YH:=YRl
def aoW:S:=YcH
def aoX:S:=Y01 (Ya mr (.op fc [YF3,v 4]) Y2D) YO
def aoY:S:=YcH
def aoZ:S:=Y01 (Ya ZIe (v 0) Y2D) aoY
def ao0:S:=Y0A hb [.op FJ [ZF BY Y1a ZQ 1 [0] [] YEx]] YPj (aoX) aoZ
def ao1:S:=Yi (.hA YF3 (v 3)) Y0x ao0
def ao2:S:=Y01 (Ya (c3 487 430) YF2 []) ao1
def ao3:S:=.cV (.op oLt [v 3,Ya (c3 487 437) YF2 []]) (aoW) YO ao2
def ao4:S:=Yi Y72 (Ya (c3 198 122) YPl Z9t) ao3
def ao5:YH:=["self","op","numbers","n","c"]
def ao6:S:=YS (Ya ZIc (v 0) [Y3m,.op nT [ZF iK Y8i ZQ 1 [0] [] (Ya ZId (v 1) YT)]])
def ao7:YH:=["self","term"]
def ao8:S:=Y01 (Ya ZIf (v 0) [v 2,v 1,.op oTup [bK 12]]) YO
def KN:S:=.cV (.op wO [Ya YTA (v 0) Y1a,Ya YTA (v 0) Zg]) (ao8) YO YO
def ao9:S:=Yi Y62 (Ya Tc (.op (b2 617 4) YT) [Ya ZIb (v 0) Zg,v 1]) KN
def apa:YH:=["self","n","other"]
def apb:S:=YS (Ya YT9 YF2 Zg)
def apc:YH:=YRl
def apd:S:=YS (Ya ZIf (v 0) Z9s)
def ape:YH:=["self","a","b","reason"]
def apf:S:=YF8
def apg:S:=YS YHY
def aph:S:=Yi (.hA YF3 (v 5)) (.op Bt [.op fc [YF3,v 5],Ya ajD YF3 [v 6]]) apg
def api:S:=Y01 (Ya Fo Ybk [.op fc [YF3,v 6]]) aph
def U2:S:=Y01 (Ya mr (.op (b2 617 3) YT) [.op nR [.op i4 [Z0x],Y1c]]) api
def apj:S:=.wK false 5 6 (v 4) U2
def apk:S:=.cV (.op Bu [v 4,qI]) (apf) YO apj
def apl:S:=Yi YJf (Ya (c3 487 451) YF2 Z9t) apk
def apm:S:=Y01 (Ya mr Z0x [.op oTup Z9s]) apl
def apn:YH:=["self","a","b","reason","merged","kept","gone"]
def apo:S:=Y01 (Ya ZIe (v 0) [Ya ajB Ybk []]) YO
def apq:S:=.Be (.op oJ [.op i4 [Ybk],Y0I]) (apo) YO
def apr:YH:=Y6A
def aps:S:=YS (Ya (c3 487 463) YF2 [])
def apt:YH:=Y6A
def apu:S:=YS (Ya (c3 487 458) YF2 Zg)
def apv:YH:=Z97
def apw:S:=YS (.op FJ [ZF hb [Ya (c3 617 590) (v 0) Zg] ZQ 1 [0] [] (Ya ZIb (v 1) YT)])
def apx:YH:=Z97
def apy:S:=YS (.op YI4 [bK 32,.op oTup [Z1P,Z1L],bK 28,.op oTup [.op oTup [bK 1,Y73,Z1N],.op oTup [bK 1,Z1N,Y73]],bK 11,.op oTup [Z1L,.op oTup [bK 8,Z1P]],bK 16,.op oTup [.op oTup [bK 1,Y73,Z1M],Y73]])
def apz:YH:=[]
def U3:S:=YS (.op oMod [Ya ajC Z17 [Y0I],v 1])
def KO:S:=YS (.op oMod [.op aiq [.op oMod [.op oI [.op aip [Z18,bY 29],bY 17],bY 97],bY 3],v 1])
def U4:S:=.cV (.op wQ [Z17,Y0x]) (U3) YO KO
def apA:S:=Yi (.hA (v 0) (bK 9)) (.op oI [Z18,Y1c]) U4
def apB:YH:=["pack","cards"]
def U5:S:=YS (.op oTup [bK 1,YPm,YPm])
def apC:S:=YS (.cV Z1J (.op oTup [bK 8,YPm]) (.op fi [.op oTup [Z1M,.op oTup [bK 21]],v 2]))
def KP:S:=.cV Z1I (U5) YO apC
def apD:S:=Yi Y62 (.op Y7b [v 0,.cV Ybz (bY 4) YGB]) KP
def apE:YH:=Z95
def apF:S:=YS Z1O
def apG:S:=YS (.op rE [.op oTup [bK 27],.op nT [ZF nM [.op qG [.op oI [Y1c,.op Y7b [v 0,YGB]]]] ZQ 1 [0,1] [] (.op YGM [v 1,.op nR Z9v])]])
def apH:S:=YS (.op oTup [bK 10,Ybn,Ybn])
def apI:S:=YS (.op oTup [bK 24,Ybn,.op Y7b [v 0,bY 3]])
def apJ:S:=YS (.op oTup [bK 19,.op fi [YPo,.op Y7b [v 0,bY 4]]])
def apK:S:=.cV (.op oEq [v 2,bY 4]) (apI) YO apJ
def apL:S:=.cV Z1J (apH) YO apK
def apM:S:=.cV Z1I (apG) YO apL
def FL:S:=.cV (.op oEq Z9v) (apF) YO apM
def apN:S:=Yi Y62 (.op Y7b [v 0,.cV Ybz (bY 6) YGB]) FL
def apO:YH:=Z95
def apP:S:=Y01 (.op YiX YfK) YO
def apQ:S:=Y01 (Ya mr YC7 Zg) YO
def U6:S:=Yi (.hA Ybs (v 1)) Ybv apQ
def U7:S:=YS (.op fc [Ybs,v 1])
def KQ:S:=.cV (.op aiv [v 1,Ybs]) (U6) YO U7
def apR:S:=Y0A iK Y8i Z0o (apP) KQ
def apS:YH:=["book","t","kid"]
def U8:S:=Yi Y62 (ZF hb Y1a ZQ 1 [6,7] [] (.cV (.op oEq YfK) (v 1) (v 0))) YO
def U9:S:=.wK true 6 7 (.op Fp [.op fj [.op gW [v 2,v 4],.op gW [v 2,v 5]]]) U8
def Va:S:=Y01 (Ya mr (v 9) [.op oTup [v 12,YBQ]]) YO
def Vb:S:=.cV (.op wO [.op gW [v 2,v 12],.op gW [v 2,YBQ]]) (Va) YO YO
def apT:S:=Yi (.nm 12) (Ya Tc (v 8) [.op rE [.op oTup [.op fi Z9u],.op nT [ZF iK [.op kT [v 11]] ZQ 1 YKZ [] Ybu]],YBQ]) Vb
def apU:S:=Yi Y72 (v 9) YO
def Vc:S:=Y0A yE Zg (YCC 10 11) (apT) apU
def apV:S:=.wJ [8,9] [YPn,Y0x] Vc
def Vd:S:=Y0A hb Y2D Ycb (U9) apV
def apW:S:=Z1p
def apX:S:=.Be (.op wQ [v 3,Y0x]) (Vd) apW
def Ve:S:=Yi Y72 Z13 apX
def apY:S:=.Bd [YEy,Y62] [YC7,.op BE [.op qG [Ybv]]] Ve
def apZ:YH:=["book","terms","least","wanted","a","b","low","high","seen","late","at","t","other"]
def Vf:S:=YS Ybt
def Vg:S:=YS (Ya wV (v 0) [.op rE [Yc1,.op nT [ZF iK Y8i ZQ 1 YKZ [] (.op ZIz YfN)]],.op (Ts 1) []])
def ap0:S:=.cV Z14 (Vf) YO Vg
def ap1:YH:=["known","pattern","table"]
def ap2:S:=Yi (.hA (v 5) (.op rE [.op oTup [Z19],.op nT [ZF iK [Z1E] ZQ 1 [0,1] [] Ybu]])) (.op gW [v 1,v 6]) YO
def Vh:S:=Y01 (Ya mr (v 4) [.op oTup [v 11,.op nT [.op Ti [YBQ]]]]) YO
def ap3:S:=.cV (.op aix Z9u) (Vh) YO YO
def Vi:S:=Yi Z0e (.op ZIz [v 5,.op fi [.op fc [Ybm,v 2],Y0I],YBQ]) ap3
def Vj:S:=Yi Ybc Z07 Vi
def Vk:S:=Y0A hb [Z09] Z0q (Vj) YO
def ap4:S:=YS (.op Fp YCX)
def Vl:S:=Y0A hb Y2D (Y1L 8) (Vk) ap4
def Vm:S:=Y0A yE [YC7] Z2G (ap2) Vl
def ap5:S:=.wJ [3,4,5] [.op FJ Zg,Y0x,YPn] Vm
def ap6:YH:=["book","least","name","lots","found","known","at","t","x","y","table","c"]
def Vn:S:=YS (.op gW [YC7,Ybt])
def Vo:S:=YS (.op rE [Yc1,.op nT [ZF iK Y8i ZQ 1 YKZ [] (.op ZJ1 YfN)]])
def ap7:S:=.cV Z14 (Vn) YO Vo
def ap8:YH:=["book","pattern","table"]
def Vp:S:=Y01 (Ya mr (v 3) [.op oTup [v 8,v 9]]) YO
def Vq:S:=.wK true 8 9 Z0D Vp
def Vr:S:=.cV (.op oLe [Ybv,.op fc [v 0,YSf]]) (Vq) YO YO
def ap9:S:=Y0A hb [v 5] Z2G (Vr) YO
def KR:S:=YS (.op wQ [ZF hb Y2D YcZ 2 [10] [.op wO [YPq,.op gW [v 2,v 1]]] Y1c,Y0x])
def Vs:S:=Yi (.hA (v 0) YhN) (.op Bt [v 2,v 3]) KR
def aqa:S:=Yi Ybc Ybo Vs
def Vt:S:=Y0A hb Zg Ycb (ap9) aqa
def aqb:S:=.wJ [2,3] [Z13,Y0x] Vt
def aqc:YH:=["book","lots","elder","fresh","name","hits","c","row","one","other","least"]
def aqd:S:=YS (.op YTS [v 0,.op fj [.op oTup [YA1,.op YTR [v 0,Ybo,YA1]]]])
def Vu:S:=YS (.op JE [YHY,ZF iK [YPo] ZQ 1 [0] [] (.op YTS [v 1,.op fj [.op oTup [v 0,.op YTR [v 1,.op YAZ Zg,v 0]]]])])
def aqe:S:=YS (.op YTS [v 0,ZF iK [YPo] ZQ 1 [0,3] [] (.op oTup [v 0,.op YTR [v 1,v 2,v 0]])])
def aqf:S:=Yi Y72 Ybo aqe
def aqg:S:=YS (.op JE [YHY,ZF iK Y8i ZQ 1 [0] [] (.op YTT [v 1,v 0])])
def aqh:S:=YS (.or Z11 (.op YTT [v 0,YPp]))
def aqi:S:=Z1o
def aqj:S:=.cV (YEz Z11) (aqi) YO YO
def aqk:S:=YS (.op oJ [YPp,Y0I])
def aql:S:=Y0A nM [.op qG [YPp]] YPj (aqj) aqk
def aqm:S:=.cV Ybx (aqh) YO aql
def aqn:S:=.cV Yby (aqg) YO aqm
def KS:S:=.cV YPu (aqf) YO aqn
def aqo:S:=.cV (Y6v YPu (.op fc [v 0,YKy])) (Vu) YO KS
def FN:S:=.cV YJj (aqd) YO aqo
def aqp:S:=Yi Y62 Y3m FN
def aqq:YH:=["book","plan","kind","least","lap"]
def Vv:S:=Y01 (Ya mr (v 4) [.op YiW YAK]) YO
def aqr:S:=YF8
def Vw:S:=.cV (.op wO [Ya ZId (v 2) [v 5],.op YiX [v 3,v 5]]) (aqr) YO YO
def aqs:S:=YF8
def aqt:S:=YF8
def Vx:S:=.cV (.op wQ [ZF nM [.op qG [YPf]] ZQ 1 [2] [] YEx,Ybp]) (aqt) YO YO
def Vy:S:=.cV (.op wO [Ya YT8 (v 8) [YBQ],.op YTT [v 3,YBQ]]) (aqs) YO Vx
def Vz:S:=Yi Ybc (.op YGM [v 1,.op nR [YGB,v 9]]) Vy
def FO:S:=YS (Y6v (.op oEq [YPf,v 11]) (.op Sl [ZF nM [.op qG [v 11]] ZQ 1 [2] [] YEx,Ybp]))
def aqu:S:=Yi Z0e YPf YO
def KU:S:=Y0A nM [.op qG [.op oI [Y1c,Z0z]]] Z0q (Vz) aqu
def aqv:S:=Yi Z0g (.op (cU 405) [.op (cU 358) [v 2,v 7,v 6]]) KU
def aqw:S:=.yR 7 Z0C aqv
def VA:S:=Yi Ybd (.op YI4 [bK 20,Z08,bK 15,.op fc [v 3,YSf]]) aqw
def FP:S:=.Bd [(.hA (v 3) YKy),(.hA (v 3) YSf)] [Z1G,.op oI [bY 6,.op Y7b [v 1,bY 5]]] VA
def KV:S:=Y0A hb YCX (Y1L 5) (Vw) FP
def VB:S:=.cV Z1G (Vv) YO KV
def VC:S:=Yi YJf (.op fj [.op YiW YfM]) VB
def VD:S:=.Bd [Y62,Y72] [.op (cU 617) [],.op YI4 [bK 29,Y0x,bK 23,.op (tl 4) [],YhN,Y0x]] VC
def FQ:S:=Yi YEy (.op YI4 [bK 7,ZF hb [.op aiG YT] ZQ 1 [] [] (.op oMod [.op Ta YT,bY 1000003]),bK 9,Y0I]) VD
def rQ:YH:=["script","pack","heap","book","lots","t","options","rules","plans","lap","plan","many"]
noncomputable abbrev sn (s:String):Str:=er s
def br:ih where
 gl:=[(sn "is_op",Y0 79),(sn "is_variable",Y0 86),(sn "variables",Y0 91),(sn "parts",Y0 96),(sn "_law_sides",Y0 629),(sn "_law_deal",Y0 636),(sn "_law_bloom",Y0 643),(sn "_law_scheme",Y0 648),(sn "_law_enter",Y0 655),(sn "_law_closure",Y0 660),(sn "_law_stands",Y0 665),(sn "_law_hits",Y0 670),(sn "_law_laid",Y0 675),(sn "_law_done",Y0 680),(sn "_law_carried",Y0 685),(sn "_law_is_refused",YPw),(sn "law",Yc4),(sn "Bank",Y0 198),(sn "Walker",Y0 236),(sn "Rule",Y0 263),(sn "Placer",Y0 301),(sn "Runner",Y0 358),(sn "Plans",Y0 405),(sn "Unions",Y0 487),(sn "Heap",Y0 617),(ZZX,YcV),(ZZY,YcW)]
 mt:=[(198,Y7z,110),(198,Yot,117),(198,sn "take",122),(198,sn "require",129),(198,sn "op",155),(198,sn "kids",162),(236,Y7z,216),(236,sn "extended",221),(236,sn "found_in",228),(236,sn "found",233),(263,Y7z,253),(301,Y7z,281),(301,ZZd,286),(358,Y7z,317),(358,sn "is_full",324),(358,sn "matches",331),(358,sn "apply",336),(358,sn "apply_all",343),(358,sn "one_round",348),(405,Y7z,376),(405,sn "do",381),(405,sn "once",388),(405,sn "either",395),(405,sn "repeat",402),(487,Y7z,423),(487,sn "make",430),(487,Yot,437),(487,ZZa,444),(487,ZZc,451),(487,ZZb,458),(487,ZZZ,463),(617,Y7z,505),(617,Yot,512),(617,sn "node",517),(617,sn "add",522),(617,ZZd,527),(617,sn "look_at",534),(617,ZZa,541),(617,ZZc,555),(617,sn "join",562),(617,sn "settle",569),(617,ZZZ,583),(617,ZZb,590),(617,sn "nodes_of",595)]
 eA:=[(198,["nodes","numbers","weights","depths"]),(236,Z94),(263,["name","left","right","needs"]),(301,Z94),(358,["heap","rules","options","walker","placer","history","rounds","rests","wakes"]),(405,["runner"]),(487,["above","lots","merged"]),(617,["bank","unions","edges","forest","known","above","waiting"])]
def hN(n:Nat):Bool:=ZVE
def VE:List (Nat×YH×Nat×S):=[(86,ami,1,amh),(91,amk,1,amj),(96,amq,1,amo),(110,amv,1,amu),(117,amx,1,amw),(122,amJ,3,amI),(129,amL,2,amK),(155,amN,2,amM),(162,amP,2,amO),(216,amR,2,amQ),(221,am3,4,am2),(228,am8,3,am7),(233,ana,2,am9),(253,anj,5,ani),(281,anl,2,ank),(286,ano,3,anm),(317,anz,4,anx),(324,anB,1,anA),(331,anK,2,anJ),(336,anP,3,anO),(343,anW,3,anV),(348,an3,1,an2),(376,an5,2,an4),(381,rP,2,aoa),(388,BZ,2,aoe),(395,aoh,2,aog),(402,aom,3,aol),(423,aoq,1,aop),(430,aou,1,aot),(437,aow,1,aov),(444,aoA,2,aoz),(451,aoH,3,aoG),(458,aoJ,2,aoI),(463,aoL,1,aoK),(505,aoR,1,aoQ),(512,aoT,1,aoS),(517,aoV,2,aoU),(522,ao5,3,ao4),(527,ao7,2,ao6),(534,apa,2,ao9),(541,apc,2,apb),(555,ape,4,apd),(562,apn,4,apm),(569,apr,1,apq),(583,apt,1,aps),(590,apv,2,apu),(595,apx,2,apw),(629,apz,0,apy),(636,apB,2,apA),(643,apE,2,apD),(648,apO,2,apN),(655,apS,2,apR),(660,apZ,1,apY),(665,ap1,3,ap0),(670,ap6,3,ap5),(675,ap8,3,ap7),(680,aqc,2,aqb),(685,aqq,2,aqp)]
abbrev b7(g:G):Y1:=hR (∀{k:Nat}{mh:ag}{Q:Yj}{n:Nat},ZQO→Z6h→ZBw) (VE.all (λx=>yW g.K br x.1 Y2K YIH Y6f)=true)
theorem b7.f(F:YZ){f:Nat}{st:S}(h:VE.lookup f=some (ns,np,st)):yW g.K br f ns np st=true:=ju F.2 (f,ns,np,st) ((List.lookup_eq_some_iff.mp h).elim λa z=>z.elim λb z=>z.1▸Y23)
theorem aBG{cl:Calls}{s:S}(h:let bI:=r;let ab:=m;ZAR):Y4C:=h
theorem aBH{cl:Calls}{s:S}(h:let ab:=m;ZAS):Y4C:=h
theorem aBI{cl:Calls}{e:E}(h:let bI:=r;let ab:=m;let Q':=Q;Zd bI ab Q'):Zd r m Q:=h
theorem aBJ{cl:Calls}{es:Yv}{Q:Ys}(h:let bI:=r;let ab:=m;let Q':=Q;Y2c bI ab Q'):Y2c r m Q:=h
theorem fS{f:Nat}{st:S}(ao:Zew)(K:ZG)(hlen:YSR)(hh:YVz)(h:let cl:=ZH;let Qn:hg:=ZS;let r:=YHx;a6 cl st r mh Qn Q):ZBy:=gJ ao K hlen hh h
theorem dh{cl:Calls}{s:S}(h:let bI:=r;a6 cl s bI m Qn Qr):Y4C:=h
theorem f9{cl:Calls}(h:YCR):a6 cl YO r m Qn Qr:=h
theorem cZ{cl:Calls}{e:E}(h:YvX):a6 cl Z1r r m Qn Qr:=h
theorem hO{cl:Calls}{e:E}{s:S}(h:Zd r m λO ab=>ZAS):a6 cl Z0H r m Qn Qr:=h
theorem el{cl:Calls}{e:E}{s:S}(h:YvY):a6 cl (Yi (.nm i) e s) r m Qn Qr:=h
theorem zg{cl:Calls}{e:E}{s:S}{o:E}(h:Zd r m λv ab=>YEZ r ab λa m1=>inst a C m1 λp t fs=>yS YDT YDF r ZcD YsE):a6 cl (Yi (.fd C i o) e s) r m Qn Qr:=h
theorem aqx{cl:Calls}{e:E}{s:S}{o i:E}(h:Zd r m λv ab=>YEZ r ab λa m1=>YOb r m1 λb aH=>lst a aH λp t vs=>Y2Z∧b.iU False λn=>ZVC∧a6 cl s r Zbx Qn Qr):a6 cl (Yi (.eB o i) e s) r m Qn Qr:=h
theorem tq{cl:Calls}{e:E}{s:S}{o i:E}(h:Zd r m λv ab=>YEZ r ab λa m1=>YOb r m1 λb aH=>lb a aH λp t c es=>yS Ykk Y6M r Zbw YsE):a6 cl (Yi (.hA o i) e s) r m Qn Qr:=h
theorem FR{cl:Calls}{e:E}{s:S}(h:YvY):a6 cl Z2L r m Qn Qr:=h
theorem B0{cl:Calls}{s:S}{es:Yv}(h:Y2c r m λvs ab=>a6 cl s Ycw ab Qn Qr):a6 cl Z2K r m Qn Qr:=h
theorem KW{cl:Calls}{s:S}{ts:Y8Z}{es:Yv}(h:Y2c r m λvs ab=>Bg cl ts vs r ab YIg):a6 cl Yze r m Qn Qr:=h
theorem KX{cl:Calls}{e:E}{s:S}(h:Zd r m λv ab=>lst v ab λO O vs=>ZbY):a6 cl (.wK true i j e s) r m Qn Qr:=h
theorem aqy{cl:Calls}{e:E}{s:S}(h:Zd r m λv ab=>v.eM False λvs=>ZbY):a6 cl (.wK false i j e s) r m Qn Qr:=h
theorem en{cl:Calls}{t:E}{a b s:S}(h:YBg r m λx ab=>cond x (a6 cl a r ab YIg Qr) (a6 cl b r ab YIg Qr)):a6 cl Z0B r m Qn Qr:=h
theorem KY{cl:Calls}{t:E}{b s:S}(h:∃J:YRF,∃n,YFL∧∀n r m,YFL→YBg r m λx m1=>cond x ZAQ (a6 cl s r m1 Qn Qr)):a6 cl Yzf r m Qn Qr:=h
theorem VF{cl:Calls}{b s:S}{d5:gq}{as:Yv}{t:dY}(h:YaG r m λvs ab=>d5.o.ij vs ab λvals need aH=>∃P:Y2i,YeK∧Zm3∧∀v vs r m,Y7F→Y3I∧j3 t d5.o.weak v r YIe):a6 cl Z0K r m Qn Qr:=h
theorem t1{x:V}{Q:Y7X}(h:Q YMu):j3 YJg false x r Q:=h
theorem cy{a b:V}{w:Bool}{Q:Y7X}(h:Q Y5v):j3 YA5 w YcX r Q:=h
theorem t3{l:Nat}{a b d:V}{w:Bool}{Q:Y7X}(h:Q YZY):j3 YJp w (YD [a,b,d]) r Q:=h
abbrev aB(p:Z9)(m ab:ag):Y1:=∀b x,Ymr→p x.1=false→YgU
noncomputable abbrev cl (k:Nat) (t:Nat):Bool:=YXO==k
noncomputable abbrev no (_:Nat):Bool:=false
theorem aB.refl{p:Z9}:aB p m m:=YO3
theorem aB.trans{p:Z9}{bF:ag}(x:Yfi)(y:aB p aH bF):aB p m1 bF:=λb o e h=>y b o (x b o e h) h
theorem aB.weak{p q:Z9}(x:Yfi)(h:∀t,ZWR→q t=true):aB q m1 aH:=λb o e aF=>x b o e (by
 cases z:p o.1 with
 |false=>rfl
 |true=>replace aF:=aQ (h _ z) aF;exact aF)
theorem aB.iO{p:Z9}(x:aB no m1 aH):Yfi:=λb o e O=>x b o e rfl
theorem aB.new{p:Z9}{x:Y1D}(h:Ymo):aB p m (upd m a x):=λb y e O=>ZE2
variable{o':ct}
theorem aB.at{p:Z9}{o:ct}(h:Ymq)(ar:ZWR):aB p m (upd m a Yb2):=λb y e bb=>by
 exact aj (dE (λq=>by replace e:=Yg9;replace bb:=dU Y4G bb;exact vV (cA ar bb))) e
theorem cg{b u:Nat}{o:ct}{o2:ct}(h:Ymq)(e:m b=ZaS)(az:o5 u t=false:=by rfl):Zc3=ZaS:=by
 exact aj (dE (λq=>by replace e:=Yg9;exact G4 az (congrArg NW Y4G).symm)) e
theorem cY{b:Nat}{x:Y1D}(h:Ymo)(e:Ymr):Zc3=YQ:=by
 exact ZE2
theorem zh{K:Ys}{T:YKS}(L:Y3)(F:V→Y3)(vb:Y3)(Inv:Y6)(ah:(vb++Z4w).length≤1000000)(az:Zlu)(h0:Inv m0)(step:∀v∈L,∀acc m N,acc.length+(F v).length≤1000000→YFK→(∀ab,Inv ab→N ZDO ab)→Z7z)(fin:∀m,YFK→K (vb++Z4w) m):∃P:Y1O,P L vb m0∧YVG:=by
 refine⟨λvs acc m=>∃d,L=d++vs∧acc=vb++d.flatMap F∧YFK,⟨[],rfl,Y8I,h0⟩,λacc m z=>ZfF,λv vs acc m z=>ZfF⟩
 ·have e:=z.1;replace e:=ZGC;exact aj Z4 (k7 e (fin m Z3))
 ·have e:L=ZKE++vs:=ZHn
  have aC:vb++(d++[v]).flatMap F=ZDO:=dS Z4 (aX rg (aL Y0k (dU (List.flatMap_singleton ..) rfl)));refine step v (aa z.1 Y23) acc m _ ?_ Z3 λab hm=>⟨ZKE,e,aC.symm,hm⟩
  (rw[e]at ah;replace ah:=eT cj (aQ cj (yj aC (aX Y0k (k7 rg ah)))))
  exact au Yk ah
theorem comp_map{K:Ys}{T:YKS}(L:Y3)(F:V→V)(Inv:Y6)(ah:L.length≤1000000)(az:Zlu)(h0:Inv m0)(step:∀v∈L,∀acc m N,Y8q→YFK→(∀ab,Inv ab→N (acc++[F v]) ab)→Z7z)(fin:∀m,YFK→K Z4z m):∃P:Y1O,P L [] m0∧YVG:=by
 have e:L.flatMap ZkZ=Z4z:=by
  exact ayJ.symm
 exact zh L ZkZ [] Inv (aX e (aX YK7 (aj YF ah))) az h0 (λv aO acc m N aE=>step v aO acc m N (au Yk aE)) λm hm=>aj e (aj YK7 (fin m hm))
theorem KZ{o:ct}(t:Nat)(h:∀a,Ymo→YeQ):alloc m o Q:=λa aD=>⟨t,YUh⟩
theorem lS{b:Bool}{P Q:Y1}(h:Y6F)(x:P):ZJn:=d9 h x
theorem iP{b:Bool}{P Q:Y1}(h:YhK)(x:Q):ZJn:=d9 h x
noncomputable abbrev ay (n:Nat):V:=YbW
noncomputable abbrev a4 (l:YV):Y3:=l.map ay
abbrev a8:=Nat×YV
def bO(x:a8):V:=YD (YCA::YCY)
theorem V.aqz{a b:Int}(h:V.int a=V.int b):a=b:=YRd
theorem V.tu{a b:Y3}(h:V.tup a=V.tup b):a=b:=YRd
theorem V.VG{b:Nat}(h:YKP=V.ref b):a=b:=YRd
theorem nW{b:Nat}(h:Y1E=Y3A):a=b:=Int.ofNat.inj (V.aqz h)
theorem K0{f:YIV}(hf:∀a b,YD9→a=b){l':ZC}(h:Ymg=l'.map f):l=l':=by
 induction l generalizing l' with
 |nil=>cases l' with
  |nil=>rfl
  |cons _ _=>exact absurd h.symm Y03
 |cons a l ai=>cases l' with
  |nil=>exact absurd h Y03
  |cons b l'=>
   have h:=YUd;exact aT (hf _ _ h.1) (congrArg _ YSO)
theorem nc{a b:a8}(h:bO a=bO b):a=b:=by
 have h:=g4 Yex;exact iF Z8H (K0 ZgI h.2)
theorem K1(l:YV):(a4 l).all V.isInt=true:=by
 induction l with
 |nil=>rfl
 |cons a l ai=>exact ai
theorem w5(x:a8):isNode Y4r=true:=K1 x.2
theorem qJ(l:YV):hv Y4A=true:=by
 cases l with
 |nil=>rfl
 |cons a l=>cases l with
  |nil=>rfl
  |cons b l=>cases l <;> rfl
theorem aqA(l:YV)(i:Nat):Y4A[i]?=(l[i]?).map ay:=gy
theorem jm{l:YV}{v:V}(h:v∈Y4A):∃n,n∈l∧v=Y3B:=(ee h).imp λn z=>⟨z.1,Yqy⟩
def dW(kv:Y6h)(L:YCO):dm:=L.map λp=>Yxh
variable{kv:Y6h}
theorem qK[Y8W][Y8X]{L:YCO}{x:α}(af:YOK):ZIj=(L.lookup x).map ay:=by
 induction L with
 |nil=>rfl
 |cons p L ai=>
  have e:c8 ZKt Y3t=cond ZFr Yp4 ZIj:=rfl;refine aj e (bW nz (aX ai ?_));by_cases q:p.1=x
  ·(refine aa q (dT Y3r (DF Y3E ?_)));rfl
  ·refine dT ZR7 (DF YSq ?_);rfl
theorem zi[Y8W][Y8X]{L:YCO}{x:α}(af:YOK)(h:Z4y):ZLu=dW kv (L++[(x,j)]):=by
 induction L with
 |nil=>rfl
 |cons p L ai=>
  have e:eE ZKt Y3t Y8u=cond ZFr ((YVR,Y8u)::YLP) (Yxh::ZLu):=rfl;replace h:=YFs;by_cases q:p.1=x
  ·replace h:=Ykr;exact cW h
  ·replace h:=Ykq;refine aj e (dT ZR7 YjC);rfl
theorem tv[Y8W][Y8X]{L:YCO}{x:α}(h:YFN=Y0N):(x,j)∈L:=by
 induction L with
 |nil=>exact Y08
 |cons p L ai=>
  replace h:=YFs;by_cases q:YY1
  ·replace h:=Yks;exact ZKl
  ·replace h:=Ykp;exact ZMB
theorem VH[Y8W][Y8X]{L:YCO}{x:α}(h:Z4y):x∉YKB:=by
 induction L with
 |nil=>exact cS
 |cons p L ai=>
  replace h:=YFs;by_cases q:YY1
  ·replace h:=Yks;exact cW h
  ·replace h:=Ykp;exact λhm=>(dz hm).elim q YFy
theorem FT[Y8W][Y8X](a b:YCO)(x:α):(a++b).lookup x=((a.lookup x).or (b.lookup x)):=by
 induction a with
 |nil=>rfl
 |cons p a ai=>
  rw[Oj,nz,nz,ai];by_cases q:YY1
  ·rw[q,beq_self_eq_true];rfl
  ·rw[YCr]
def hi(N:ZC):YCO:=N.zipIdx
theorem VI(N:ZC):(hi N).length=N.length:=Ol
theorem VJ(N:ZC)(x:α):hi YA9=YUu++[(x,N.length)]:=by
 unfold hi;rw[List.zipIdx_append,List.zipIdx_singleton,l8]
theorem pJ{N:ZC}{x:α}(h:(x,j)∈YUu):Ye5:=axO.mp h
theorem K2(N:ZC):(hi N).map Yh=N:=List.zipIdx_map_fst _ _
theorem K3[Y8W][Y8X]{N:ZC}{x:α}(h:x∉N):YxD:=by
 cases e:YEg with
 |none=>rfl
 |some j=>exact absurd (et ZWf) h
theorem w6[Y8W][Y8X]{N:ZC}{x:α}(h:x∈N):∃j,YEg=Y0N∧Ye5:=by
 cases e:YEg with
 |some j=>exact⟨j,rfl,ZWf⟩
 |none=>exact absurd ((K2 N).symm▸h) (VH e)
open Classical in
theorem m5.sub{l l':Y3}(C:m5 l)(h:∀v,v∈l'→YNa):m5 l':=⟨λa aD b ah=>C.1 a YUh b ZPY,λa aD=>C.2 a YUh⟩
theorem VK(C:YVf)(dn:us.Nodup)(fI:vs.Nodup)(h:ZmC)(b6:j9 us)(dv:j9 vs):us=vs:=JX C ((Dr dn fI).mpr h) b6 dv
theorem nX{n m:Nat}(h:Y2W)(hm:YJu:=by decide):YB5:=au h hm
theorem vc{n m:Nat}(h:Y2W)(hm:Z2M:=by decide):n+1≤m:=au ZKv hm
def rR(v:V)(m:ag)(l:Y3):Y1:=v=YcY∨∃p t,v=Y0V∧m p=ZaQ
theorem rR.of{v:V}{l:Y3}(h:ZYP){Q:Y7D}(q:Q l):Fi v m Q:=h.elim (λe=>d9 e q) λz=>z.elim λp z=>z.elim λt z=>d9 z.1 (⟨t,l,z.2,q⟩)
theorem rR.ij{v:V}{l:Y3}(h:ZYP){Q:Y1C}(q:∀need:Y6,(∀ab,(∀b x,Ymr→YgU)→need ab)→Q l need m):Z4o:=h.elim (λe=>d9 e (q _ YO4)) λz=>z.elim λp z=>z.elim λt z=>by
 exact d9 z.1 (⟨t,l,z.2,q _ λab k=>⟨t,k _ _ z.2⟩⟩)
structure tw where
 (b n m w d:Nat)
abbrev kV(mh:ag)(A:tw)(N:Yd):Y1:=iG (mh A.b=some (1,ZD 198 [Y0 A.n,Y0 A.m,Y0 A.w,Y0 A.d])) (mh A.n=some (9,Y5 Z5V)) (mh A.m=some (17,Y9 3 YLO)) (∃W,mh A.w=Za5∧W.length=N.length∧YRh) (∃D,mh A.d=some (33,Y5 D)∧D.length=N.length∧D.all V.isInt=true)
variable{N:Yd}
theorem kV.dq{p:Z9}{A:tw}(B:YHA)(f:Yfj)(ar:∀t,Yij→YMi):ZSt:=
 ⟨f _ _ B.1 (ar 1 rfl),f _ _ B.2 (ar 9 rfl),f _ _ B.3 (ar 17 rfl),YJy λW z=>⟨f _ _ z.1 (ar 25 rfl),z.2⟩,Ycq λW z=>⟨f _ _ z.1 (ar 33 rfl),z.2⟩⟩
theorem kV.no{A:tw}(B:YHA)(f:Y8o):ZSt:=B.dq f Y2M
def zj(N:Yd)(x:a8):Yd:=if x∈N then N else YA9
def rS(N:Yd)(x:a8):Nat:=(Y6q x).getD N.length
theorem VL{o:Nat}(h:Y4K):∃j,yY o=Y0N∧j≠2:=by
 rcases YGj with h | h
 ·exact aa Y15 (⟨17,rfl,Yf⟩)
 ·rcases YGj with h | h
  ·exact aa Y15 (⟨21,rfl,Yf⟩)
  ·rcases YGj with h | h
   ·exact aa Y15 (⟨8,rfl,Yf⟩)
   ·exact aa Y15 (⟨1,rfl,Yf⟩)
theorem zk(aE:Y8b){m:Nat}(hm:YJu:=by decide):Yuf≤m:=aj YF (nX aE hm)
theorem valN(N:Yd):(V.int ((Yuf:Nat):Int))=YG5:=dU YF rfl
theorem aqB{A:tw}(K:YN)(F:YZ)(B:YHA)(aE:Y8b)(h:Z6m):aU g (k+1) 117 [YF5] mh Q:=
 gJ ZT K rfl Y2 (cZ ⟨_,_,B.1,_,rfl,_,_,B.2,YIR,(valN N).symm▸h⟩)
theorem aqC{A:tw}(K:YN)(F:YZ)(B:YHA)(aE:Y8b){n:Nat}{x:a8}(az:Z5a)(aq:YqY)(h:Q YCA mh):aU g (k+1) 155 Z9J mh Q:=
 gJ ZT K rfl Y2 (cZ ⟨_,_,B.1,_,rfl,_,_,B.2,YIR,Y4r,ZHx,ZHw,_,rfl,h⟩)
theorem aqD{A:tw}(K:YN)(F:YZ)(B:YHA)(aE:Y8b){n:Nat}{x:a8}(az:Z5a)(aq:YqY)(h:Q (YD YCY) mh):aU g (k+1) 162 Z9J mh Q:=
 gJ ZT K rfl Y2 (cZ ⟨_,_,B.1,_,rfl,_,_,B.2,YIR,Y4r,ZHx,Y1X,ZHw,qJ x.2,h⟩)
theorem aqE(K:YN)(F:YZ){o:Nat}(aA:Y4K)(h:Q Y7 mh):aU g (k+2) 129 [YA,ZE] mh Q:=
 fS ZT K rfl Y2 (by intro gb gc gd;exact en (F.1 aA ((VL aA).elim λj aM=>⟨rfl,j,aM.1,rfl,iP (show ZFj from ic λe=>aM.2 YAH) h⟩)))
theorem VM{x:a8}(h:YEg=Y0N):ZfR:=by
 refine⟨if_pos (et (pJ ZbV)),?_⟩;unfold rS;refine YFt;rfl
theorem VN{x:a8}(h:YxD):ZfQ:=by
 refine⟨if_neg λhm=>YzH ZjA,?_⟩
 ·replace z:=eT h z;exact Yib
 ·unfold rS;refine YFt;rfl
theorem K4{W:Y3}{i:Int}(h:YRh):(W++[V.int i]).all V.isInt=true:=by refine aj List.all_append YFt;rfl
theorem aqF{W L:Y3}(h:YRh)(eW:∀v∈L,v∈W):L.all V.isInt=true:=sz λv aO=>ju h v (eW v aO)
def h3(W:Y3)(v:V):V:=W.getD Y2z Y7
theorem K5{W:Y3}{c:Nat}(h:YiL):W[c]?=some ZQD:=by
 rw[show ZQD=W.getD c Y7 from rfl,ho,YTu];rfl
variable{aZ:YV}
theorem VO{W:Y3}(h:YRh)(aR:∀c∈aZ,YiL):(YZv YlE).all V.isInt=true:=aqF h λv aO=>Y9l λu z=>(jm z.1).elim λc w=>by
 exact bL z.2 (bW w.2 (et (K5 YgB)))
theorem aqG{A:tw}(K:YN)(F:YZ)(B:YHA)(aE:Y8b){o:Nat}{kids:V}(aA:Y4K)(aR:rR kids mh Y4k)(B1:∀c∈aZ,YLA)(qL:ZCU)(h:∀aW,aB YLE mh aW→kV aW A (zj N Z6)→Q (ay (rS N Z6)) aW):aU g (k+3) 122 [YF5,ZE,kids] mh Q:=by
 have K6:∀{m:Nat},YJu→Yv5≤m:=λhm=>aj YF (nX qL hm);have K7:∀{m:Nat},Z2M→(YKQ::Y4k).length≤m:=λhm=>aj g5 (aT YF (vc qL hm));have aqH:([YKQ]:Y3).length+Yv5≤1000001:=aX YF (aj YDH (vc qL));refine Y02;intro gb gc gd;refine el ⟨rfl,aR.of ⟨YdW,YWi,aqH,rfl,en ⟨_,_,B.1,_,rfl,_,_,_,B.3,YqJ,?_⟩⟩⟩;have oE:c8 YLO YG8=(Y6q Z6).map ay:=YoI
 cases q:Y6q Z6 with
 |some j=>
  replace oE:=fU q oE;have lp:=VM q;refine lS (show Yvt=true by rw[oE];rfl) (cZ ⟨_,_,B.1,_,rfl,_,_,_,B.3,YqJ,Y8u,oE,?_⟩);have h:=Yl2;rw[lp.1,lp.2]at h;exact h B
 |none=>
  replace oE:=fU q oE;have lp:=VN q;rw[lp.1,lp.2]at h;refine iP (show Yvt=false by rw[oE];rfl) Yt;intro aBK;refine f9 (hO ⟨Y8A,aqE K F aA (VF ⟨Y1X,YdX,YWi,λvs r m=>YHP∧(∃x,r=[some YF5,YHo,some kids,some YG8,x])∧∀v∈vs,v∈Y4k,⟨rfl,YOM,YBZ⟩,ZkB,λv vs r m z=>YZO⟩)⟩)
  ·obtain⟨rfl,⟨x,rfl⟩,_⟩:=z;have vd:=cg (o':=YPW) B.3 B.2;have K8:=cg (o':=YPW) B.3 B.1;have hlen:(dW bO YUu).length≤1000000:=aj YF (aj Z8P YnL);refine Yt;intro aqI;refine tq ⟨_,_,B.1,_,rfl,_,_,B.2,YIR,aa (valN N) (⟨_,_,B.1,_,rfl,_,_,_,B.3,YqJ,hlen,hO ⟨_,_,K8,_,rfl,⟨_,_,vd⟩,_,_,vd,YIR,?_⟩⟩)⟩;have aJ:=aB.at (p:=YLE) (o':=YPW) B.3 rfl;generalize aC:upd mh A.m (17,YPW)=m1 at vd K8 aJ ⊢;have aqJ:m1 A.m=some (17,Y9 3 ZKr):=by(exact aV aC (aj Y6I (aa (((λq=>aj YYI (bW Z8Q rfl):Y6q Z6=none→YLU=ZKr) q)) rfl)))
   have f2:=aJ.trans (aB.at (p:=YLE) (o':=YC1) vd rfl);have K9:upd m1 A.n (9,YC1) A.n=some (9,Y5 (Yue bO)):=by(refine aj Y6I YgP);rfl
   have B2:=cg (o':=YC1) vd K8;have La:=cg (o':=YC1) vd aqJ;have Lb:=(YJy λW z=>v5 (show m1 A.w=Za5 from ZAw) z.2).imp Zgy;have Lc:=(Ycq λW z=>v5 (show m1 A.d=some (33,Y5 W)from ZAw) z.2).imp Zgy;generalize upd m1 A.n (9,YC1)=aH at K9 B2 La Lb Lc f2 ⊢;revert aH;refine Y17;intro aH K9 B2 La Lb Lc f2;refine YM;obtain⟨W,rT,rU,VP⟩:=Lb;obtain⟨D,iL,B3,VQ⟩:=Lc;refine YSY;intro aBL;refine hO ⟨_,_,B2,_,rfl,⟨_,_,rT⟩,Y1X,YdX,YWi,comp_map Y4k YlE Ys5 YdW YO4 rfl ZkT YES⟩
   ·subst hm;refine YOy
    (rw[w.2]at cf;refine YGN)
    exact⟨_,_,B2,_,rfl,_,_,rT,ZHm,_,K5 (aa rU Yct:YiL),aD,ZJW⟩
   ·subst hm;refine KZ 0 λa aD=>⟨_,_,Yc,VO VP λc ao=>aa rU Z2o,_,_,cY aD rT,ZHm,?_⟩
    have kx:=cY (t:=0) (o':=Y5 YOZ) aD rT;have px:=cg (o':=YC2) kx (cY aD K9);have nd:=cg (o':=YC2) kx (cY aD B2);have jl:=cg (o':=YC2) kx (cY aD La);have pK:=cg (o':=YC2) kx (cY aD iL);have f4:=(f2.trans ZAr).trans (aB.at (p:=YLE) (o':=YC2) kx rfl);have mX:=bw Zbu A.w Yu7;generalize upd Zbu A.w Yu7=eK at px nd jl pK f4 mX ⊢;revert eK;refine Y17;intro eK px nd jl pK f4 mX;refine Yt;intro aBM;refine hO ⟨_,_,nd,_,rfl,⟨_,_,pK⟩,Y1X,YdX,YWi,comp_map Y4k ZQC (λm=>eK=m) YdW YO4 rfl (λv aO acc m gr oP hm cf=>?_) YES⟩
    ·subst hm;refine YOy
     (rw[w.2]at cf;refine YGN)
     exact⟨_,_,nd,_,rfl,_,_,pK,ZHi,_,K5 (B3▸Yct:c<D.length),oP,cf eK rfl⟩
    ·subst hm;refine λa2 av=>⟨0,λdB aP=>⟨0,_,_,cY aP Yc,_,_,Yc,by refine aT YF YSA;exact vc qL,λeb da=>⟨0,_,_,Yc,K4 (VO VQ λc ao=>B3▸Z2o),ZiE,Yry⟩⟩⟩
     have rV:=cY (t:=0) (o':=YBz) da (cY (t:=0) (o':=YC3) aP (cY (t:=0) (o':=YBy) av pK));have w7:=cY (t:=0) (o':=YBz) da (cY (t:=0) (o':=YC3) aP (cY (t:=0) (o':=YBy) av px));have zl:=cY (t:=0) (o':=YBz) da (cY (t:=0) (o':=YC3) aP (cY (t:=0) (o':=YBy) av nd));have gZ:=cY (t:=0) (o':=YBz) da (cY (t:=0) (o':=YC3) aP (cY (t:=0) (o':=YBy) av jl));have yM:=cY (t:=0) (o':=YBz) da (cY (t:=0) (o':=YC3) aP (cY (t:=0) (o':=YBy) av mX));have gL:=((f4.trans (aB.new (x:=(0,YBy)) av)).trans (aB.new (x:=(0,YC3)) aP)).trans (aB.new (x:=(0,YBz)) da);generalize upd (upd (upd eK a2 (0,YBy)) dB (0,YC3)) eb (0,YBz)=i0 at rV w7 zl gZ yM gL ⊢;revert i0;refine Y17;intro i0 rV w7 zl gZ yM gL;have nl:YtT≤1000001:=aj YF (aj cj (vc aE));refine⟨_,_,rV,ZHi,cZ ⟨_,_,ZJa,_,rfl,_,_,ZJZ,nl,?_⟩⟩;have e:Z8A=YG5:=by
      exact aa YF (aa cj (congrArg V.int (acr (N.length:Int) 1)))
     show Q Z8A _;refine aj e (h _ (gL.trans (aB.at (p:=YLE) rV rfl)) ⟨ZJa,ZJZ,cg rV gZ,⟨_,cg rV yM,by rw[cj,cj,rU];rfl,K4 VP⟩,⟨_,Yc,by rw[cj,cj,B3];rfl,K4 VQ⟩⟩)
  ·obtain⟨rfl,⟨x,rfl⟩,aO⟩:=z;refine(jm (aO v b3)).elim λc w=>d9 w.2 (t1 (en ⟨vY c,_,_,B.1,_,rfl,_,_,B.2,YIR,iP ?_ ⟨rfl,YOM,λu bj=>aO u Yja⟩⟩));rw[bt,decide_eq_true (x1.mpr Yct)];rfl
structure nY where
 (u p l m:Nat) (e4:YL)
abbrev lT(n:Nat)(f:YL):Y1:=hR (∀i,i<n→f i≤i) (∀i,i<n→f (f i)=f i)
theorem lT.lt{n:Nat}{f:YL}(h:YVY)(af:i<n):f i<n:=fF (h.1 i af) af
abbrev hP(mh:ag)(A:nY)(n:Nat)(f:YL)(e:Nat):Y1:=yc (mh A.u=some (2,ZD 487 [Y0 A.p,Y0 A.l,Y0 A.m])) (∃P:YV,mh A.p=some (10,Y5 YKc)∧Z6Q) (mh A.l=some (18,Y5 YwI)) (∃M,mh A.m=some (26,Y5 M)∧M.length≤e) (∀i,i<n→YLf→∃L:YV,mh YFD=Yp2∧Ydc) YVY
theorem VR(i:Nat):cl 2 YFB=true:=by
 show YFB % 8==2;refine YgF;rfl
theorem hP.dq{p:Z9}{A:nY}{n:Nat}{f:YL}(B:YAq)(F:Yfj)(ar:∀t,Yik→YMi):ZQQ:=
 ⟨F _ _ B.1 (ar 2 rfl),B.2.imp λW z=>⟨F _ _ z.1 (ar 10 rfl),z.2⟩,F _ _ B.3 (ar 18 rfl),YJy λW z=>⟨F _ _ z.1 (ar 26 rfl),z.2⟩,λi af hf=>YuJ λL z=>⟨F _ _ z.1 (ar _ (VR i)),z.2⟩,B.6⟩
theorem hP.no{A:nY}{n:Nat}{f:YL}(B:YAq)(F:Y8o):ZQQ:=Z2n
theorem B4{L:YV}{n:Nat}(h:L.Nodup)(aE:∀j,YVH→j<n):L.length≤n:=by
 have p:L.Perm (YwG λj=>decide YVH):=(Dr h Yqb).mpr λj=>by
  exact aL ZX2 (dS (propext G5) (bW ZX5 (⟨λq=>⟨aE j q,q⟩,λq=>q.2⟩)))
 exact aj p.length_eq YKt
theorem FU(L:YV):m5 Y8m:=⟨λa aD b ah=>Yaa λn z=>(jm ah).elim λm w=>aa z.2 (w.2▸rfl),λa aD=>Yaa λn z=>z.2▸rfl⟩
theorem Ld{L:YV}(h:L.length<64):y0 Y8m:=⟨by refine Y2H;exact h,FU L,λa aD=>Yaa λn z=>z.2▸⟨rfl,λe=>V.noConfusion e⟩⟩
theorem VS{l:Y3}{L:YV}(p:l.Perm Y8m):∃fA,l=a4 fA∧fA.Perm L:=by
 have aE:∀v∈l,∃n:Nat,v=Y3B:=λv aO=>(jm ZWX).imp λn z=>z.2;have:∃fA,l=a4 fA:=by
  clear p
  induction l with
  |nil=>exact YZC
  |cons v l ai=>exact(ai λu bj=>aE u Yja).elim λfA e=>(aE v b3).elim λn fq=>⟨n::fA,by refine aX e (aT fq ?_);rfl⟩
 refine this.imp λfA e=>⟨e,?_⟩
 replace p:=aQ e p;have q:=p.map ZkX;replace q:=aQ kJ (bL kJ q);have aC:∀l:YV,l.map (ZkX ∘ ay)=l:=λl=>List.map_id' _;replace q:=aQ ZAv (bL ZAv q);exact q
theorem Le{n:Nat}{F:YeB}(h:i<n):(Yud F)[i]?=some (F i):=by rw[gy,YMs];rfl
theorem B5{n m:Nat}{F:YKE}(h:Y2W)(hm:YJu:=by decide):(Y8H F).length≤m:=aj YF (aj fN ZVR)
theorem tx{P:YV}{n m:Nat}(dk:YeL)(h:Y2W)(hm:YJu:=by decide):Y9k≤m:=aj YF (aj dk ZVR)
theorem aqK{P:YV}{n:Nat}(dk:YeL):(V.int ((Y9k:Nat):Int))=Y3B:=dU YF (dU dk rfl)
theorem VT{A:nY}{n:Nat}{f:YL}(K:YN)(F:YZ)(B:YAq)(az:Y2W)(h:Q Y3B mh):aU g (k+1) 437 [YA2] mh Q:=
 YCH λP dk=>gJ ZT K rfl Y2 (cZ ⟨_,_,B.1,_,rfl,_,_,Y4I,YNR,(aqK Y2S).symm▸h⟩)
theorem nZ(a b:Nat):YhF=YKe:=by
 by_cases q:a=b
 ·rw[q,iI,beq_self_eq_true]
 ·exact aj (ic λh=>q (nW h)) ((beq_false_of_ne q).symm)
theorem Lf{P:YV}{p:Nat}(h:YeO):YKc[i]?=some (ay p):=by rw[aqA,h];rfl
theorem B6{A:nY}{n:Nat}{f:YL}(K:YN)(F:YZ)(B:YAq)(az:Y2W)(aD:a<n)(h:YeT):aU g (k+1) 444 Z9M mh Q:=
 YCH λP dk=>fS ZT K rfl Y2 (by intro gb gc gd;exact KY ⟨λc r m=>c<n∧f c=f a∧r=[some YA2,Y57]∧YHP,a,⟨aD,rfl,rfl,rfl⟩,λc r m z=>by
  obtain⟨ao,hf,rfl,rfl⟩:=z;have n0:ZIn:=aa Y2S ao;have ar:=dy n0;have w:=ZLM;refine Zmu;by_cases q:P[c]=c
  ·refine iP (by rw[nZ,q,beq_self_eq_true];rfl) Yid;show Q Y3Y mh;exact bN (ZdJ q) (aX hf h)
  ·exact lS (by rw[nZ,YCr];rfl) (el ⟨_,_,B.1,_,rfl,_,_,Y4I,YNR,_,Lf ar,P[c],rb w.1 q,fF w.1 ao,w.2.1.trans hf,rfl,rfl⟩)⟩)
def roots(n:Nat)(f:YL):YV:=YwG Zj5
theorem VU{n:Nat}{f:YL}:(roots n f).length≤n:=YKt
theorem pL{n:Nat}{f:YL}:i∈YDw↔And (i<n) YLf:=by unfold roots;rw[Dh,G5,beq_iff_eq]
theorem Lg(n:Nat):YDl=a4 Y6K:=rfl
theorem VV(p:Z9)(l:YV):((a4 l).flatMap λv=>cond (p Y2z) [v] [])=a4 (l.filter p):=by
 induction l with
 |nil=>rfl
 |cons a l ai=>
  refine aX (show ZAG=ZFJ from rfl) (aj uf (aX ai (bW Hv ?_)));show cond (p a) [Y1E] []++_=_
  cases p a <;> rfl
theorem aqL{A:nY}{n:Nat}{f:YL}(K:YN)(F:YZ)(B:YAq)(az:Y2W)(h:ZlW):aU g (k+1) 463 [YA2] mh Q:=
 YCH λP dk=>by
 have kd:Y9k=n:=ZDz;refine Y02;intro gb gc gd;refine cZ ⟨_,_,B.1,_,rfl,_,_,Y4I,YNR,YNR,zh (nL Y9k) (λv=>cond (f Y2z==Y2z) [v] []) [] ZjO ?_ YO4 rfl (λv aO acc m N oP hm cf=>?_) YES⟩
 ·(refine aX YK7 (aa kd (dU Z58 (aX Z8R Y2H))));exact au VU (nX az)
 ·subst hm;refine(jm (Lg n▸kd▸aO)).elim Zho;have ao:ZIn:=aa Y2S YVE;have ar:=dy ao;have w2:=ZLM
  (rw[w.2]at cf;refine YGN)
  refine Zmu;have cf:N (acc++cond (f c==c) [Y3Y] []) mh:=cf mh rfl;by_cases q:P[c]=c
  ·(rw[Y5l.2.mp q]at cf;replace cf:=DH Y3E cf)
   exact lS (aj YnM (aT q (Y3E))) ⟨au Yk oP,cf⟩
  ·replace cf:=DH (beq_false_of_ne λh=>q (Y5l.2.mpr h)) cf;exact iP (aj YnM (YCr)) (aV (eL acc) cf)
 ·subst hm
  (refine aX YK7 (aa kd (dU Z58 (aX Z8R ?_))))
  exact KZ 0 λb ah=>ZPX
theorem zm{b:Nat}(h:YCl):Nat.beq a b=false:=by
 cases q:ZVs with
 |false=>rfl
 |true=>exact absurd (Nat.eq_of_beq_eq_true q) h
theorem ve{c:Nat}(h:c<34):Nat.beq YFB c=false:=ZfS
def g0(f:YL)(x y:Nat):YL:=λi=>if YLg then x else f i
theorem kW{f:YL}{x:Nat}(h:YLg):YUb=x:=Ylu
theorem kz{f:YL}{x:Nat}(h:f i≠y):YUb=f i:=Ylo
theorem Lh{n:Nat}{f:YL}{x:Nat}(F:YVY)(aq:f x=x)(h:x<y):lT n (g0 f x y):=
 ⟨λi af=>by
  by_cases q:YLg
  ·exact aj YDZ (h9 (ew h (aV q Z3q)))
  ·refine aj YAw ?_;exact Z3q,
  λi af=>by
  by_cases q:YLg
  ·rw[YDZ,ZTL,aq]
  ·rw[YAw,kz (by rw[Z3r];exact q),Z3r]⟩
def i6(f:YL)(n:Nat):YL:=λi=>if i=n then n else f i
theorem tA(f:YL)(n:Nat):i6 f n n=n:=Y0c
theorem iC{f:YL}{n:Nat}(h:i<n):i6 f n i=f i:=Yli
theorem rW{n:Nat}(h:i<n+1):i<n∨i=n:=Nat.lt_or_eq_of_le (hp h)
theorem Li{n:Nat}{f:YL}(F:YVY):lT (n+1) YlY:=
 ⟨λi af=>YyS (λh=>iC h▸F.1 i h) λh=>by rw[h,tA];exact YW,
  λi af=>YyS (λh=>by rw[iC h,iC (F.lt h),F.2 i h]) λh=>by rw[h,tA,tA]⟩
def vf(A:nY)(n a:Nat):nY:={A with e4:=λi=>if i=n then a else YFD}
theorem aqM{A:nY}{n:Nat}{f:YL}(K:YN)(F:YZ)(B:YAq)(az:YnZ)(aD:a<n)(h:ZlU):aU g (k+2) 458 Z9M mh Q:=
 (B.5 (f a) Ycr Z2m).elim λL eW=>fS ZT K rfl Y2 (by intro gb gc gd;exact cZ ⟨_,_,B.1,_,rfl,Y8A,B6 K F B Y07 aD
  ⟨_,_,B.3,B5 Y07,_,Le Ycr,_,_,eW.1,Ld (x3 (au (B4 eW.2.1 λj aM=>((eW.2.2 j).mp aM).1) az)),λl p r=>(VS p).elim λfA z=>by
   exact aX z.1 (KZ 0 λb ah=>h b _ fA Yc (z.2.nodup_iff.mpr eW.2.1) (λj=>z.2.mem_iff.trans (eW.2.2 j)) Y11)⟩⟩)
theorem aqN{P:YV}{x p:Nat}(h:(P++[x])[i]?=YXK):YeO∨(ZQz∧p=x):=by
 by_cases q:i<P.length
 ·replace h:=ZBe;exact Y5z
 ·have aE:=YxS;replace aE:=bL cj aE;have e:ZQz:=mG (hp aE) Y9D;replace h:=ZBf;exact Z0T
theorem aqO{A:nY}{n:Nat}{f:YL}(K:YN)(F:YZ)(B:YAq)(az:n≤999)(h:∀aW a,ZAl→hP aW (vf A n a) (n+1) YlY e→Q Y3B aW):aU g (k+1) 430 [YA2] mh Q:=
 YCH λP dk=>by
 have ks:Y2W:=Y07;have kd:Y9k=n:=by exact ZDz
 have bD:=cg (o':=Y9y) Y4I B.1;have l1:=cg (o':=Y9y) Y4I B.3;refine Y02;intro gb gc gd;refine hO ⟨_,_,B.1,_,rfl,⟨_,_,Y4I⟩,_,_,B.1,_,rfl,_,_,Y4I,Ype,_,_,Y4I,Ype,hO ⟨_,_,bD,_,rfl,⟨_,_,l1⟩,_,_,bD,_,rfl,_,_,l1,YQU,λa aD=>⟨Ycg,_,_,cY aD l1,YQU,?_⟩⟩⟩;have bx:upd mh A.p YIs a=none:=aD;have ek:=bw mh A.p YIs;have m1:=YJy λM z=>v5 (cg (o':=Y9y) Y4I z.1) z.2;have VW:∀i,i<n→YLf→∃L:YV,upd mh A.p YIs YFD=Yp2∧Ydc:=λi af hf=>YuJ λL z=>⟨cg Y4I z.1 YBR,z.2⟩
 have f1:aB YLF mh ZcF:=aB.at Y4I rfl;generalize ZcF=aH at bD l1 ek m1 VW f1 bx ⊢;have l2:=cY (t:=Ycg) (o':=Y5 [V.int ((YtZ:Nat):Int)]) bx l1;have aC:YtZ=n:=by exact YSP
 rw[aC]at l2;refine ZCi;have du:=cg (o':=Y5 (YwI++[YKP])) l2 (cY (t:=Ycg) (o':=Z0Z) bx ek);refine cZ ⟨_,_,ZJY,_,rfl,_,_,du,by refine aj cj (aT kd ?_);exact vc ks,?_⟩;have c1:Z8B=Y3B:=by
  refine aa cj (aa kd ?_);exact congrArg V.int (acr Y0q 1)
 show Q Z8B _;refine aj c1 ?_;refine h _ a ((f1.trans (aB.new bx)).trans (aB.at l2 rfl)) ⟨ZJY,⟨Z6P,?_,by rw[cj,Y2S];rfl,Ziq⟩,?_,m1.imp λM z=>⟨cg l2 ZJ6,z.2⟩,YEQ,Li B.6⟩
 ·refine du.trans ?_;exact aa kd (aa (show a4 Z6P=YKc++[Y3B]from dK) rfl)
 ·rcases aqN ar with ar | ar
  ·have af:i<n:=aV Y2S ((jJ ar).elim Y6i);have w:=YjL i p ar;rw[YV2,iC (fF w.1 af)];exact w
  ·rw[Y8s,Y7T,Y2S,tA];exact⟨YW,rfl,Zm,Zm⟩
 ·refine Yvp ?_;refine aa List.range_succ YgP;refine congrArg (λl=>some (18,ct.list l)) (congr (congrArg _ Zb3) ?_)
  ·exact congrArg V.ref (if_neg (ej YMA)).symm
  ·exact congrArg (λx=>[V.ref x]) YaX
 ·rcases YMx with h | h
  ·have aE:YzE i=YFD:=Yli;rw[iC h]at hf;refine YgN;refine(VW i h hf).imp λL z=>⟨cg l2 ZJ6 YBR,Z4,λj=>YzR ⟨λw=>⟨p9 w.1,(iC w.1).trans w.2⟩,λw=>YyT (λq=>⟨q,cA ZR3 w.2⟩) YBa⟩⟩
   rw[q,tA]at w;exact absurd w.2 (p8 h)
  ·have aE:YzE n=a:=Y0c;refine aa h YgN;refine⟨[n],?_,Y7t,λj=>z8.trans ⟨λq=>by rw[q];exact⟨YDo,tA f n⟩,λw=>YyT YBa id⟩⟩
   ·exact cg (o2:=Z0Z) l2 Yc YBR
   ·replace w:=um ZR3 w;exact absurd (B.6.1 j q) (by refine dS w.2 ?_;exact OL q)
theorem VX{x:Nat}{l:Y3}(p:l.Perm Z9b)(r:j9 l):ZTb:=by
 have key:∀a b:Nat,l=[Y1E,Y3A]→(a=x∧b=y)∨(a=y∧b=x)→ZTb:=λa b e h=>by
  replace r:=bL e r;have hle:a≤b:=hq λq=>h8 (cA ((OK r).1 _ b3:ZLz) (decide_eq_true (x1.mpr q)));refine aj e ?_;rcases h with h | h
  ·(exact aV h.1 (aV h.2 (mL (Hg hle) (aa (Om hle) rfl))))
  ·(exact aV h.1 (aV h.2 (mL (acu hle) (aa (N3 hle) rfl))))
 obtain⟨L,e,vg⟩:=VS (L:=Y2E) p;have aE:=vg.length_eq
 cases L with
 |nil=>exact absurd aE (λq=>k5 _ q.symm)
 |cons a L=>cases L with
  |nil=>exact absurd aE (λq=>k5 _ (oc q).symm)
  |cons b L=>cases L with
   |cons _ _=>exact absurd aE (λq=>k5 _ (oc (oc q)))
   |nil=>
    refine key a b e ?_;by_cases q:a=x
    ·replace vg:=eT q vg;exact YY ⟨q,OM ((List.perm_cons x).mp vg).eq_singleton⟩
    ·have aD:a=y:=(dz (vg.mem_iff.mp b3)).elim (λh=>absurd h q) bR;replace vg:=eT aD vg;exact YJ ⟨aD,OM ((List.perm_cons y).mp (vg.trans Z28)).eq_singleton⟩
theorem vh{c:Nat}(h:c<34):Nat.beq c YFB=false:=ZfS
theorem aqP(h:YVB):Nat.beq YFB (34+8*j)=false:=ZfU
theorem qM(x y:Nat):(YVm=x∧YVh=y)∨(YVm=y∧YVh=x):=Yuh (λh=>YY ⟨Hg h,Om h⟩) λh=>YJ ⟨acu h,N3 h⟩
theorem Lj{x:Nat}(h:x≠y):YVm<YVh:=Yuh (λz=>aj (Hg z) (aL (Om z) (rb z h))) λz=>aj (acu z) (aL (N3 z) (rb z h.symm))
theorem aqQ{n:Nat}{f:YL}{P:YV}{x:Nat}(dk:Z6Q)(aq:f x=x)(bb:f y=y)(h:x<y)(aqR:y<n):
  (P.set y x).length=n∧∀i p,YeN[i]?=YXK→p≤i∧g0 f x y p=YUb∧(p=i↔YUb=i):=by
 refine⟨by exact aj List.length_set Y4I,Ziq⟩;by_cases q:y=i
 ·replace ar:=aQ (List.getElem?_set_self (aV dk.1.symm aqR)) (aX q ar);rw[←q,←(cu ar:x=p),kW bb,ZTL,aq];exact⟨YUq,rfl,Hs⟩
 ·rw[NY q]at ar;have w:=dk.2 i p ar;refine⟨w.1,by unfold g0;rw[Y3i],?_⟩;by_cases z:YLg
  ·rw[YME];exact⟨λe=>absurd (cA z (ZdJ e)) q,λe=>by
    rw[e]at aq;exact absurd (e.trans (cA aq z)) YU3⟩
  ·rw[kz z];exact Y3M
theorem aqS{A:nY}{n:Nat}{f:YL}(K:YN)(F:YZ)(B:YAq)(az:YnZ)(he:e≤999999){b:Nat}(aD:a<n)(ah:b<n)(h0:YD9→∀aW,Y8o→YFU)(ak:f a≠f b→∀aW,ZAl→hP aW A n (g0 f YDj YDg) (e+1)→Q (YD Z9a) aW):aU g (k+2) 451 [YA2,Y1E,Y3A] mh Q:=
 YCH λP dk=>by
 have ks:Y2W:=Y07;refine fS ZT K rfl Y0J ?_;intro gb gc gd;refine KX ⟨Y8A,B6 K F B ks aD ⟨Y8A,B6 K F B ks ah (λt1 aqT=>⟨0,_,_,Yc,Ld (L:=[f a,f b]) ZZM,λl p r cy EV=>YOL⟩)⟩⟩;rw[VX p r];have f1:aB no mh Ypq:=(aB.new aqT).trans (aB.new EV);show a6 _ UZ _ Ypq _ _;generalize Ypq=m1 at f1 ⊢;revert m1;refine Y17;intro m1 f1;by_cases q:YD9
 ·refine en ⟨rfl,lS ?_ (cZ (h0 q m1 f1))⟩;rw[nZ,q,abX,Nat.max_self,beq_self_eq_true]
 ·have fQ:=Lj q;have hs:∀z,(z=f a∨z=f b)→f z=z∧z<n:=λz hz=>hz.elim (λe=>e▸⟨Z2m,Ycr⟩) λe=>e▸⟨B.6.2 b ah,B.6.lt ah⟩
  have aq:=hs YDj YZW;have bb:=hs YDg YOP;have ak:=ak q;generalize YDj=x at fQ aq ak ⊢;generalize YDg=y at fQ bb ak ⊢;have a3:=B.no f1;have lU:=f1 _ _ Y4I rfl;refine YM;obtain⟨L,eW,VY,w8⟩:=a3.5 x Y6E Y4F;obtain⟨fA,aqU,VZ,Lk⟩:=a3.5 y Y7a Y7Z;obtain⟨M,tB,V0⟩:=a3.4;refine YSY;intro aBN;refine en ⟨rfl,iP (by exact aj YnM ((beq_false_of_ne YU2))) (f9 (aqx ⟨_,_,a3.1,_,rfl,_,_,lU,Ype,by refine aL YF (aL Y2S ?_);exact Y7a,?_⟩))⟩;have f2:aB YLF mh Zc8:=f1.iO.trans (aB.at lU rfl);have bC:=cg (o':=Y8R) lU a3.1;have l2:=cg (o':=Y8R) lU a3.3;have cT:=cg (o':=Y8R) lU eW YBR;have d1:=cg (o':=Y8R) lU aqU YBR;have M2:=cg (o':=Y8R) lU tB;have cO:upd m1 A.p YZg A.p=some (10,Y5 (a4 YeN)):=by exact aj Y6I (aV List.map_set rfl)
  have V1:∀i,i<n→YLf→∃L:YV,upd m1 A.p YZg YFD=Yp2∧Ydc:=λi af hf=>(a3.5 i af hf).imp λL z=>⟨cg lU z.1 YBR,z.2⟩
  generalize Zc8=aH at f2 bC l2 cT d1 M2 cO V1 ⊢;refine Yt;intro aBO;refine hO ⟨_,_,bC,_,rfl,_,_,l2,YQU,_,Le Y6E,⟨_,_,cT⟩,_,_,bC,_,rfl,_,_,l2,YQU,_,Le Y7a,_,_,cT,_,_,d1,?_,hO ⟨_,_,ZJX,_,rfl,⟨_,_,Yih⟩,rfl,_,_,Yih,au V0 YKu,cZ ⟨rfl,ak _ ((f2.trans (aB.at cT (VR x))).trans (aB.at Yih rfl)) ?_⟩⟩⟩
  ·refine ZCK;exact au (gR (au (B4 VY λj aM=>((w8 j).mp aM).1) az) (au (B4 VZ λj aM=>((Lk j).mp aM).1) az)) Y2
  ·have nf:=cg (o':=Y5 (Y8m++a4 fA)) cT M2 YBS;refine⟨cg nf ZJX,⟨YeN,cg nf (cg cT cO YBS),(aqQ ⟨Y2S,YjL⟩ Y4F Y7Z fQ Y7a)⟩,cg nf (cg cT l2 YBS),⟨_,Yc,by refine YKq;exact dX V0⟩,YEQ,Lh B.6 Y4F fQ⟩;by_cases n1:i=x
   ·refine aa n1 ?_;refine⟨L++fA,cg nf ?_ YBR,Dz ⟨VY,VZ,λu bj w hw aC=>?_⟩,λj=>?_⟩
    ·exact aj Y6I (aV dK rfl)
    ·have f3:=((w8 u).mp bj).2;replace f3:=aQ ((((Lk w).mp hw).2)) (bN aC f3);exact p8 fQ f3
    ·refine aj YMk (aT (propext (w8 ..)) (aX (propext (Lk ..)) ?_));by_cases z:f j=y
     ·rw[YME];exact⟨λw=>⟨w.elim Yh Yh,rfl⟩,λw=>YJ ⟨w.1,z⟩⟩
     ·rw[kz z];exact⟨λw=>w.elim id λw=>absurd w.2 z,λw=>YY w⟩
   ·have zo:f i≠y:=λz=>by rw[YME]at hf;exact n1 hf.symm
    rw[kz zo]at hf;have aqV:i≠y:=λz=>zo (hf.trans z);refine(V1 i af hf).imp λlr z=>⟨cg nf (cg cT z.1 (aqP n1)) YBR,Z4,λj=>YzR ?_⟩
    by_cases w:f j=y
    ·rw[kW w];exact⟨λv=>absurd (cA w v.2) aqV.symm,λv=>absurd v.2.symm n1⟩
    ·rw[kz w]
structure b9 where
 (h iW dN ed ae n2:Nat) (B:tw) (U:nY) (ul:YL)
structure bu where
 (N:Yd) (f:YL) (ed:Y2Q) (use:Nat→YV) (wait:YV) (e:Nat)
noncomputable abbrev ea (t:Nat):Bool:=YCu||(YTY||Yil)
abbrev d3(mh:ag)(A:b9)(S:bu):Y1:=yd Yn5 ZSv (hP mh A.U S.N.length S.f S.e) (∃E,ZUa∧Yd6) (∃E,mh A.dN=some (19,Y5 E)∧Yd6) ZUZ (∃X:dm,ZUY∧Yf3∧Ysn) Zlq (mh A.n2=some (43,Y5 YfV))
theorem w9(i:Nat):cl 3 Y77=true:=by
 show Y77 % 8==3;refine YgF;rfl
theorem d3.dq{p:Z9}{A:b9}{S:bu}(B:Y22)(F:Yfj)(ar:Zm8):Yj1:=
 ⟨F _ _ B.1 (ar 3 rfl),
  B.2.dq F λt h=>ar t ZHd,
  B.3.dq F λt h=>ar t ZOy,
  YJy λW z=>⟨F _ _ z.1 (ar 11 rfl),z.2⟩,
  Ycq λW z=>⟨F _ _ z.1 (ar 19 rfl),z.2⟩,
  F _ _ B.6 (ar 27 rfl),
  Ycs λW z=>⟨F _ _ z.1 (ar 35 rfl),z.2⟩,
  λi af hf=>F _ _ (B.8 i af hf) (ar _ (by unfold ea;exact dU (w9 ..) ZCQ)),
  F _ _ B.9 (ar 43 rfl)⟩
theorem d3.no{A:b9}{S:bu}(B:Y22)(F:Y8o):Yj1:=Z2n
def canon(f:YL)(x:a8):a8:=(x.1,Y5A f)
abbrev xa(mh:ag)(A:b9):Y1:=Yn5
theorem Ll{A:b9}(K:YN)(F:YZ)(h0:YIJ)(B:ZSu)(aE:Y8b)(h:Z6m):aU g (k+2) 512 YKW mh Q:=
 gJ ZT K rfl Y2 (cZ ⟨_,_,h0,_,rfl,Y8A,aqB K F B aE h⟩)
theorem zp{A:b9}{n:Nat}{f:YL}(K:YN)(F:YZ)(h0:YIJ)(B:YLu)(az:Y2W)(aD:a<n)(h:YeT):ZBz:=
 gJ ZT K rfl Y2 (cZ ⟨_,_,h0,_,rfl,Y8A,Z2q⟩)
theorem aqW{A:b9}{n:Nat}{f:YL}(K:YN)(F:YZ)(h0:YIJ)(B:YLu)(az:Y2W)(h:ZlW):aU g (k+2) 583 YKW mh Q:=
 gJ ZT K rfl Y2 (cZ ⟨_,_,h0,_,rfl,Y8A,aqL K F B az h⟩)
theorem aqX{A:b9}{n:Nat}{f:YL}(K:YN)(F:YZ)(h0:YIJ)(B:YLu)(az:YnZ)(aD:a<n)(h:ZlU):aU g (k+3) 590 Yf8 mh Q:=
 gJ ZT K rfl Y2 (cZ ⟨_,_,h0,_,rfl,Y8A,aqM K F B az aD h⟩)
theorem Lm(l:YV)(F:YL):(a4 l).map (λv=>ay (F Y2z))=a4 (l.map F):=(kJ (f:=ay)).trans (kJ (f:=F) (g:=ay)).symm
theorem V2{A:b9}{n:Nat}{f:YL}(K:YN)(F:YZ)(h0:YIJ)(B:ZSu)(U:YLu)(cf:Y8b)(az:Y2W){x:a8}(aq:Y4g)(aR:∀c∈x.2,c<n)(aE:YII)(h:∀aW,Y8o→Q YhW aW):aU g (k+3) 517 Z9L mh Q:=by
 have FV:YqY:=Y7U;have sT:Yv3≤1000:=aj YF (aj YF FV);refine Y02;intro gb gc gd;refine cZ ⟨_,_,h0,_,rfl,Y8A,aqC K F B cf aq FV ⟨rfl,_,_,h0,_,rfl,Y8A,aqD K F B cf aq FV (comp_map YCY (λv=>ay (f Y2z)) ZjO (aj YF (nX FV)) YO4 rfl ZkU YES)⟩⟩
 ·subst hm;refine YOy
  (rw[w.2]at pM;refine YGN)
  exact⟨⟨_,_,h0,trivial⟩,zp K F h0 U az YgB ⟨aD,pM mh rfl⟩⟩
 ·subst hm;exact λa aD=>⟨0,aa Z5M (⟨_,_,Yc,nX sT,qJ _,by refine Ygt;exact vc sT,rfl,h _ ZAr⟩)⟩
theorem Ln(e:Y69)(es:dm)(k v:V):YjS:=rfl
theorem V3(e:Y69)(es:dm)(k:V):ZXu:=rfl
theorem pN(e:Y69)(es:dm)(k:V):YiF:=rfl
theorem V4(es:dm)(k v:V):c8 YTw k=Ym:=by
 induction es with
 |nil=>exact Y9s (by refine ZKm;rfl)
 |cons e es ai=>
  refine ZBr
  cases q:Y1z with
  |true=>exact Y9s (by refine YAe;rfl)
  |false=>exact Y9s (dT q ai)
theorem V5(es:dm){k q:V}(v:V)(h:k≠q):c8 YTw q=c8 es q:=by
 induction es with
 |nil=>exact Y9s (by refine dT Yld ?_;rfl)
 |cons e es ai=>
  refine ZBr
  cases z:Y1z with
  |true=>exact Y9s (by rw[pN,oo z,Yld];rfl)
  |false=>exact Yy6
theorem V6(es:dm)(k v:V):(eE es k v).length≤es.length+1:=by
 induction es with
 |nil=>exact YW
 |cons e es ai=>
  refine aX Ydu ?_
  cases Y1z with
  |true=>exact Y1I
  |false=>exact YjE
theorem aqY(es:dm){k q:V}(h:k≠q):c8 YoL q=c8 es q:=by
 induction es with
 |nil=>rfl
 |cons e es ai=>
  refine aT Z8M ?_
  cases z:Y1z with
  |true=>refine aL ZWh (OQ (oo z) (Ar Yld ?_));rfl
  |false=>exact Yy6
theorem V7(es:dm)(k:V):(qi es k).length≤es.length:=by
 induction es with
 |nil=>exact YW
 |cons e es ai=>
  refine aX Z8M ?_
  cases Y1z with
  |true=>exact Y1I
  |false=>exact YjE
def gM(S:bu)(x y:Nat):bu:={S with f:=ZOi,wait:=Z7d,use:=λj=>if j=x then Yej else YFd,e:=YAE}
def tC(A:b9)(n a:Nat):b9:={A with ul:=λi=>if i=n then a else YJx}
theorem vi{c:Nat}(h:c<51):Nat.beq Y77 c=false:=ZfT
theorem xb{c:Nat}(h:c<51):Nat.beq c Y77=false:=ZfT
theorem aqZ(h:YVB):Nat.beq Y77 (51+8*j)=false:=ZfU
theorem kV.ng{B:tw}{o:ct}(b:kV mh B N)(h:Yn6)(bq:YLG):kV ZcN B N:=b.dq ZAp λt h=>by
 show Yyw;refine YSB;rfl
theorem hP.ng{U:nY}{n:Nat}{f:YL}{o:ct}(b:ZQR)(h:Yn6)(bq:YLG):hP ZcN U n f e:=b.dq ZAp λt h=>by
 show Yyw;refine YSB;rfl
theorem hP.more{U:nY}{n:Nat}{f:YL}(b:ZQR):hP mh U n f (e+1):=⟨b.1,b.2,b.3,b.4.imp λM z=>⟨z.1,kn z.2⟩,b.5,b.6⟩
theorem aq0{cl:Calls}{a b s:Mine.Internal.S}{l:Y3}(bo:Y1G=some YcY)(h:a6 cl b r m YIg Qr):ZAM:=by
 show YoM;exact ZEG
theorem aq1{cl:Calls}{a b s:Mine.Internal.S}(bo:Y1G=ZaV)(h:ZAP):ZAM:=by
 show YoM;exact ZEG
theorem aB.go{p:Z9}{b:Nat}{o:ct}(f:YFo)(e:m b=Y58)(h:YMi:=by decide):Y1y=Y58:=f _ _ e h
theorem aq2:∀t,YLG→YAk:=λt h=>dU h ZCQ
theorem V8:∀t,Yik→YAk:=λt h=>ZOy
theorem V9:∀t,Yij→YAk:=λt h=>aT h (ZDX)
abbrev jn(mh:ag)(A:b9)(S:bu)(f:YL)(e:Nat)(E hj:Y3)(X:dm)(W:Y3):Y1:=yd Yn5 ZSv (hP mh A.U S.N.length f e) ZUa (mh A.dN=some (19,Y5 hj)) ZUZ ZUY Zlq (mh A.n2=some (43,Y5 W))
theorem d3.open{A:b9}{S:bu}{P:Y1}(H:Y22)(h:∀E hj X,Yd6→hj.length≤S.e→Yf3→Ysn→jn mh A S S.f S.e E hj X YfV→P):P:=
 H.4.elim λE z=>H.5.elim λhj w=>H.7.elim λX y=>h E hj X z.2 w.2 y.2.1 YNo ⟨H.1,H.2,H.3,z.1,w.1,H.6,y.1,H.8,H.9⟩
variable{E':Y3}{hj:Y3}
theorem jn.aq3{A:b9}{S:bu}{f:YL}{E W:Y3}{X:dm}(G:YDV):jn (upd mh A.iW (11,YbY)) A S f e E' hj X W:=
 ⟨cg G.4 G.1,YQm G.4 rfl,YQn G.4 rfl,Yc,cg G.4 G.5,cg G.4 G.6,cg G.4 G.7,λi af hf=>cg G.4 YCJ YBT,cg G.4 G.9⟩
theorem jn.aq4{A:b9}{S:bu}{f:YL}{E W:Y3}{X:dm}(G:YDV):jn (upd mh A.dN (19,YbY)) A S f e E E' X W:=
 ⟨cg G.5 G.1,YQm G.5 rfl,YQn G.5 rfl,cg G.5 G.4,Yc,cg G.5 G.6,cg G.5 G.7,λi af hf=>cg G.5 YCJ YBT,cg G.5 G.9⟩
theorem jn.Wa{A:b9}{S:bu}{f:YL}{E W:Y3}{X:dm}{E':dm}(G:YDV):jn (upd mh A.ae (35,Y9 2 E')) A S f e E hj E' W:=
 ⟨cg G.7 G.1,YQm G.7 rfl,YQn G.7 rfl,cg G.7 G.4,cg G.7 G.5,cg G.7 G.6,Yc,λi af hf=>cg G.7 YCJ YBT,cg G.7 G.9⟩
theorem jn.Wb{A:b9}{S:bu}{f:YL}{E W:Y3}{X:dm}(G:YDV):jn (upd mh A.n2 (43,YbY)) A S f e E hj X E':=
 ⟨cg G.9 G.1,YQm G.9 rfl,YQn G.9 rfl,cg G.9 G.4,cg G.9 G.5,cg G.9 G.6,cg G.9 G.7,λi af hf=>cg G.9 YCJ YBT,Yc⟩
theorem jn.new{A:b9}{S:bu}{f:YL}{E W:Y3}{X:dm}{b:Nat}{x:Y1D}(G:YDV)(ah:YB1):jn (upd mh b x) A S f e E hj X W:=
 ⟨cY ah G.1,G.2.no Y11,G.3.no Y11,cY ah G.4,cY ah G.5,cY ah G.6,cY ah G.7,λi af hf=>cY ah YCJ,cY ah G.9⟩
theorem jn.dq{A:b9}{S:bu}{f:YL}{E W:Y3}{X:dm}(G:YDV)(F:Y7L):jn m A S f e E hj X W:=
 ⟨F _ _ G.1 rfl,G.2.no F,G.3.no F,F _ _ G.4 rfl,F _ _ G.5 rfl,F _ _ G.6 rfl,F _ _ G.7 rfl,λi af hf=>F _ _ YCJ rfl,F _ _ G.9 rfl⟩
variable{dZ:YL}{bk:Nat}
theorem jn.aq5{A:b9}{S:bu}{f:YL}{E W:Y3}{X:dm}(G:YDV)(F:aB YLF mh m)(U:hP m A.U S.N.length dZ bk):jn m A S dZ bk E hj X W:=
 ⟨F.go G.1,G.2.dq F YsI,U,F.go G.4,F.go G.5,F.go G.6,F.go G.7,λi af hf=>F _ _ YCJ (by show(Y77 % 8==2)=false;refine YgF;rfl),F.go G.9⟩
theorem jn.close{A:b9}{S:bu}{E:Y3}{X:dm}{x na:Nat}(G:jn m A S ZOi YAE E hj (eE ZXv YCj (Y0 na)) YKa)(xc:E.length≤YAE)(Lo:hj.length≤YAE)(rX:Yf3)(qN:Ysn)(az:m na=some (51+8*x,Y5 ZAF))(aq:S.f x=x)(fQ:x<y):d3 m ZbJ (gM S x y):=by
 have iA:∀{i:Nat},g0 S.f x y i=i→Za≠y∧YFa:=λ{i}hf=>by
  have q:Za≠y:=λz=>by
   replace hf:=ZBd;replace z:=aQ aq (aX hf z);exact ej fQ z
  exact⟨q,cA YAw hf⟩
 refine⟨G.1,G.2,G.3,Zmn,ZnQ,G.6,⟨_,G.7,?_,YEQ⟩,YEQ,G.9⟩
 ·exact au Z8N (dX (au Z8O rX))
 ·have z:=iA hf;by_cases n1:i=x
  ·rw[n1];exact Yuz (congrArg ZlH YaX)
  ·exact aj (V5 _ _ λz=>n1 (nW z).symm) (aj (aqY _ λw=>z.1 (Y0m (nW w).symm)) (aj (qN i af z.2) (congrArg ZlH (if_neg n1).symm)))
 ·by_cases n1:i=x
  ·have aJ:Yz2=na:=ZRU;have aC:Yx5=Yej:=ZRU
   (refine aX aJ (aa aC (aa n1 (aa (show a4 Yej=ZAF from dK) ?_))))
   exact az
  ·have aJ:Yz2=YJx:=ZRI;have aC:Yx5=YFc:=ZRI
   (refine aX aJ ZCi)
   exact G.8 i af (iA hf).2
theorem Wc{A:b9}{S:bu}(K:YN)(F:YZ)(H:Y22)(az:Z7N)(he:Yef)(hw:Z7e)(bj:Zlp){b:Nat}{r:V}(aD:YRy)(ah:YhI)(h0:Z7V)(ak:Z7X):aU g (k+3) 562 Z9K mh Q:=H.open λE hj X xc Lp rX qN G=>by
 have Wd:E.length≤1000000:=au xc YKu;refine Y02;intro gb gc gd;refine hO ⟨_,_,G.1,_,rfl,⟨_,_,G.4⟩,rfl,_,_,G.4,Wd,?_⟩;have f1:aB ea mh ZcE:=aB.at G.4 rfl;have iq:=G.aq3 (E':=Z3c);have B7:(E++Z9Y).length≤YAE:=aj cj (dX xc);generalize ZcE=m1 at f1 iq ⊢;generalize E++Z9Y=rY at iq B7;revert rY;refine Y17;intro rY iq B7;clear G xc Wd;refine el ⟨_,_,iq.1,_,rfl,⟨_,_,iq.3.1,trivial⟩,aqS K F iq.3 az YKu aD ah (λq aH f2=>aq1 rfl (cZ (h0 q aH ZNp ?_))) λq aH f2 zq=>aq0 rfl (f9 (aqy ?_))⟩
 ·have i7:=iq.dq f2;exact⟨i7.1,i7.2,i7.3.more,⟨rY,i7.4,B7⟩,⟨hj,i7.5,kn Lp⟩,i7.6,⟨X,i7.7,kn rX,qN⟩,i7.8,i7.9⟩
 ·have fQ:=Lj q;have hs:ZmJ:=λz hz=>hz.elim (λe=>e▸⟨YdE a aD,YdF aD⟩) λe=>e▸⟨YdE b ah,YdF ah⟩
  have aq:=hs YDi YZW;have bb:=hs YAz YOP;have ak:=ak q;generalize YDi=x at fQ aq ak zq ⊢;generalize YAz=y at fQ bb ak zq ⊢;have i7:=iq.aq5 f2 zq;have aq6:=f1.trans ZNt;clear iq f1 f2 zq h0;show a6 Y5S U2 [Y0v,some Y1E,some Y3A,Zae,some (YD Z9b),YE2,ZaC] aH ZS Q;refine Yt;intro aq7;refine hO ⟨_,_,i7.1,_,rfl,⟨_,_,i7.5⟩,_,_,i7.1,_,rfl,_,_,i7.4,(au B7 (au (dX he) Y2):rY.length≤1000001),_,_,i7.5,au Lp YKu,?_⟩;generalize Lq:V.int ((rY.length:Int) - 1)=xd;revert xd;refine Y17;intro xd Lq;have lV:=i7.aq4 (E':=YUv);have We:=aq6.trans (aB.at (p:=ea) (o':=Y5 YUv) i7.5 rfl);have Wf:(hj++[xd]).length≤YAE:=aj cj (dX Lp);generalize upd aH A.dN (19,Y5 YUv)=bF at lV We ⊢;generalize YUv=aBP at lV Wf;refine Yt;intro aBQ;refine hO ⟨_,_,lV.1,_,rfl,⟨_,_,lV.9⟩,_,_,lV.1,_,rfl,_,_,_,lV.7,rfl,_,ZXf,_,_,lV.9,_,_,lV.8 y Y7a Y7Z,?_,?_⟩
  ·exact aX YF (aT YF (au (gR hw ZH6) Y2))
  ·refine aa (show YfV++a4 YAF=YKa from dK.symm) ?_;have nh:=lV.Wb (E':=YKa);have Lr:=We.trans (aB.at (p:=ea) (o':=Y5 YKa) lV.9 rfl);generalize upd bF A.n2 (43,Y5 YKa)=eK at nh Lr ⊢;revert eK;refine Y17;intro eK nh Lr;have Wg:X.length≤900063:=ZF4;have xe:=nh.Wa (E':=ZXv);refine Yt;intro aBR;refine tq ⟨_,_,nh.1,_,rfl,_,_,_,nh.7,rfl,_,qN x Y6E Y4F,_,_,nh.1,_,rfl,⟨_,_,_,nh.7⟩,_,_,_,nh.7,ZEo,rfl,_,ZXf,_,_,xe.8 x Y6E Y4F,_,_,xe.8 y Y7a Y7Z,?_,λna zr=>⟨51+8*x,_,_,cY zr xe.1,_,rfl,_,_,_,Yic,rfl,au Z8O ZEo,cZ (ak _ ZbJ ?_ rfl ((xe.new zr).Wa.close B7 Wf rX qN (cg Yic Yc YBT) Y4F fQ))⟩⟩
   ·exact aX YF (aT YF (au (gR (bj x Y6E Y4F) ZH6) Y2))
   ·exact((Lr.trans (aB.at nh.7 rfl)).trans (aB.new zr)).trans (aB.at Yic rfl)
theorem B8[Y8W][Y8X]{L:ZC}:ZmK:=by
 induction L with
 |nil=>exact ZgH
 |cons a L ai=>
  intro M bZ h;have bZ:=YE7;have aD:=YGp;have:=ZDf;replace this:=ZG8;exact ZEl
abbrev xf(N:Yd)(P:YCL)(R:YeA):Y1:=iG (∀a,R a a) (∀{a b},R a b→R b a) (∀{a b c},R a b→R b c→R a c) (∀p∈P,Z75) (∀(i j:Nat)(x y:a8)(f:YL),Y4g→YRD→(∀c,R c (f c)∨(c∉x.2∧c∉y.2))→YTW→R i j)
def lu(N:Yd)(P:YCL)(f:YL):Y1:=∀R,YY5→Zlo
noncomputable abbrev cnt (S:bu):Nat:=(roots S.N.length S.f).length
abbrev eG(S:bu)(pend:YV):Y1:=acN YMK S.N.Nodup (∀(i:Nat)(x:a8),Y4h→ZQP) ((Z7T).Nodup∧∀k∈Z7T,ZQN∧ZSh∧∀c∈k.2,Y2m) (∀(k:a8)(j:Nat),Yxc→∃x:a8,YRV=YQ∧canon S.f k=Y1r) (∀(i:Nat)(x:a8),Y4h→i∉S.wait→i∉pend→∃j,Yee∧YFb) (∀(i:Nat)(x:a8)(c:Nat),Y4h→c∈x.2→i∈Z7b) (∀i∈S.wait,Y2I) (∀i,Y2I→YFa→∀j∈YFc,YAu) (∀i,Y2I→YFa→YZq*YCE≤YFY) (S.wait.length*YCE≤2*YFY)
theorem eo{x:α}(h:Yml):ZQv:=YxS
variable{x0:Nat}{df:Nat}
theorem zt{S:bu}(F:YMK)(aq:Z7a)(bb:Z7Y)(fQ:x0<df)(rZ:ZLE):cnt Ykh+1=YLH:=by
 have p:(roots S.N.length S.f).Perm (df::roots S.N.length Ykb):=(Dr Yqb (ma ⟨Y6j,Yqb⟩)).mpr Yry
 ·exact p.length_eq.symm
 ·have h:=ZWg.2;replace h:=aQ (kW bb) h;exact ej fQ h
 ·show i∈ZYe↔i∈df::ZYe;refine aL YHZ (aj ZX6 (bW ZX6 ?_));by_cases q:Za=df
  ·refine aa YDZ (⟨λh=>YY (cA h.2 q),λh=>h.elim (λh=>aa h (⟨rZ,bb⟩)) Y6j⟩);replace q:=aQ aq (aX h.2 q);exact absurd q YU2
  ·exact aa YAw (⟨YJ,λh=>h.elim (λh=>absurd (aa h bb) q) id⟩)
def Wh(x0 df z:Nat):Nat:=if z=df then x0 else z
theorem Wi(f:YL)(x:a8):ZJE=canon Z8j Y2n:=iF rfl (by
 show Y5A YUc=(Y5A f).map Z8j;refine aL kJ ?_;rfl)
theorem aq8{f:YL}{x:a8}(h:∀c∈x.2,f c≠df):ZJE=Y2n:=iF rfl (sv λc ao=>kz YUi)
variable{pend:YV}
theorem Wj{S:bu}(D:Y2p)(aq:Z7a)(bb:Z7Y)(fQ:x0<df)(rZ:ZLE)(ar:∀(i:Nat)(x:a8),ZRo→Y4h→∃j,Yee∧ZOj):eG Ykh []:=
 ⟨Lh D.1 aq fQ,
  D.2,
  D.3,
  D.4,
  λk j h=>YuL λx z=>⟨z.1,(Wi S.f k).trans ((congrArg _ z.2).trans (Wi S.f x).symm)⟩,
  λi x af hw O=>by
  have hw:=λh=>hw (Aa.mpr h);show∃j,S.ed.lookup ZJD=Y0N∧ZOj;refine aa ((aq8 λc ao q=>hw (YJ (aV q Z3I)):ZJD=Y1r)) ?_;by_cases q:ZRo
  ·exact ar i x q af
  ·exact(D.6 i x af (λh=>hw Y5z) q).imp λj z=>⟨z.1,by unfold g0;rw[z.2]⟩,
  λi x c af ao=>by
  have h:=Z3I;show i∈YEf (g0 S.f x0 df c);by_cases q:Y49=df
  ·refine bW YDZ ZBM;exact d8 _ (aV q h)
  ·refine bW YAw ?_;by_cases ck:Y49=x0
   ·refine bW ck ZBM;exact ko _ (aV ck h)
   ·refine aL (show YEf Y49=Z7b from Yln) ?_;exact h,
  λi af=>(iw af).elim (D.8 i) (D.9 df rZ bb i),
  λi af hf j aM=>by
  by_cases q:i=x0
  ·replace aM:=bL YX4 (fU q aM);exact YxN (D.9 x0 ZTf aq j) (D.9 df rZ bb j)
  ·replace aM:=bL ZZT aM;have hf:YUa=i:=hf;have zo:Z7Z:=λz=>by replace hf:=ZBd;exact ZXV
   rw[kz zo]at hf;exact D.9 i af hf j aM,
  λi af hf=>by
  have e:=ZfV;have fK:Z2R:=ZHW
  show(YEf i).length*YJw≤YFY;have half:∀l:Nat,l*YCE≤YFY→2*(l*YJw)≤YFY:=λl h=>by
   replace h:=aQ ZDY (bN fK h);exact h
  by_cases q:i=x0
  ·refine aa q (gT YX4 ZBt);have av:=gR (half _ (YCI x0 ZTf aq)) (half _ Z3D);rw[←uh,←acy]at av;exact ayL av Dn
  ·refine gT ZZT ?_;have hf:YUa=i:=hf;replace hf:=aQ (kz (λz=>by rw[YME]at hf;exact ZXV:Z7Z)) hf;exact au Z5k (half _ Z3E),
  by
  have e:=ZfV;have fK:Z2R:=ZHW
  show(S.wait++Z7c).length*YJw≤2*YFY;refine ZBt;have ak:=YFF;have av:=Z3D
  (rw[fK,acw]at ak;replace av:=aQ ZDY (bN fK av))
  refine aL (acy ..) ?_;exact gR (ayL ak Dn) (au Z5k av)⟩
theorem Ls{P:YCL}{f:YL}(J:YVc)(hf:∀i,Y2r→f i<N.length)(h:∀R,YY5→Zlo→R x0 df):lu N P YUc:=λR C i af=>by
 by_cases q:f i=df
 ·exact aL YDZ (C.3 (q▸Z4f) (C.2 (h R C (J R C))))
 ·exact aL YAw Z4f
def n3(S:bu)(i:Nat)(x:a8):bu:=(S.ed.lookup Y1r).elim {S with ed:=Yed} λj=>YLx
theorem B9{S:bu}(F:YMK){b:Nat}(aD:YRy)(ah:YhI)(h:Z7W):
  S.f YDi=YDi∧S.f YAz=YAz∧YDi<YAz∧YAz<S.N.length:=by
 have hs:ZmJ:=λz hz=>hz.elim (λe=>aa e (⟨F.2 a aD,F.lt aD⟩)) λe=>aa e (⟨F.2 b ah,F.lt ah⟩);exact⟨(hs _ YZW).1,YxF.1,Lj h,YxF.2⟩
theorem Lu{f:YL}{b:Nat}:g0 f YDj YDg a=g0 f YDj YDg b:=by
 rcases qM (f a) (f b)with z | z
 ·rw[z.1,z.2,kW (i:=b) rfl];by_cases q:YD9
  ·exact YDZ
  ·exact YAw
 ·rw[z.1,z.2,kW (i:=a) rfl];by_cases q:f b=f a
  ·exact(kW q).symm
  ·exact(kz q).symm
theorem Wk{S:bu}(F:YMK){x:a8}(aq:∀c∈x.2,Y2m):canon S.f Y1r=Y1r:=iF rfl (by
 show(Y5A S.f).map S.f=Y5A S.f;exact aj kJ (sv λc ao=>F.2 c (aq c ao)))
theorem pO{S:bu}(D:Y2p){x:a8}(af:Y4h):∀c∈x.2,Y2m:=λc ao=>lD (YQZ.2.2 c ao) Y4J
theorem FW{S:bu}(D:Y2p){x:a8}(af:Y4h)(h:Yee):∃y,YRV=Y06∧ZJH:=(D.5 _ _ ZbV).imp λy z=>⟨z.1,cA Z8k z.2⟩
theorem aq9{S:bu}{P:YCL}(D:Y2p){x y:a8}{R:YeA}(af:Y4h)(aM:YRV=Y06)(e:ZJH)(C:xf S.N P R)(h:∀i,Y2I→R i Za):R i j:=
 C.5 i j x y S.f af aM (λc=>by
  by_cases q:Y2m
  ·exact YY (h c q)
  ·exact YJ ⟨λao=>q (pO D af c ao),λao=>q (pO D aM c ao)⟩) e
abbrev oQ(S a7:bu):Y1:=iG Yfb (∀P,YHI→lu S.N P a7.f) (∀a b,Y8d=YCS→a7.f a=a7.f b) (YCZ≤Y1Q) Yeg
theorem oQ.refl{S:bu}:oQ S S:=ZnX
variable{cK:bu}
theorem oQ.trans{S qO:bu}(a:oQ S qO)(b:oQ qO cK):oQ S cK:=⟨b.1.trans a.1,λP h=>a.1▸b.2 P (aV a.1.symm (a.2 P h)),λx y h=>b.3 x y (a.3 x y h),au b.4 a.4,au a.5 b.5⟩
theorem Lv{f:YL}{b:Nat}(h:YD9):g0 f x0 df a=g0 f x0 df b:=by unfold g0;rw[h]
theorem Wl{S:bu}{x:a8}(D:ZM4)(af:Y4h):eG YVr []∧oQ S YVr:=by
 have Fs:=Y4J;unfold n3
 cases q:YFZ with
 |none=>
  refine⟨⟨D.1,D.2,D.3,⟨?_,YOD⟩,Ys3,ZiI,D.7,D.8,D.9,YCI,YFF⟩,rfl,YBZ,Y4T,YW,YW⟩
  ·show(Yuo).Nodup;refine aL dK (xZ xU ?_);exact⟨YFG,Y7t,λa aD b ah e=>VH q (by refine aL (show Y1r=b from Yvg) ZGF;exact aD)⟩
  ·have aR:k∈Yuo:=aR;rw[dK]at aR;refine(iw aR).elim (YFH k) Y6j;refine ZCZ;refine⟨YQZ.1,by show(Y5A S.f).length≤2;refine Y2H;exact YQZ.2.1,λc ao=>(ee ao).elim λa z=>aV z.2 (YA8 (pO D af a z.1))⟩
  ·refine YxP (D.5 k j) Y6j;have e:=gQ Y1T;exact⟨x,aa e.2 af,aa e.1 Z8k⟩
  ·show∃j,(S.ed++YFl).lookup (canon S.f fY)=Y0N∧Y38=S.f f5;refine ZCV;by_cases e:f5=i
   ·subst e;refine aa ((YiE:fY=x)) YgR;exact⟨f5,ZI1,rfl⟩
   ·exact(D.6 f5 fY j5 hw λh=>e Y1T).imp λj z=>⟨ZHe,z.2⟩
 |some j=>
  have Wm:=FW D af q;have aM:YAu:=Wm.elim YZ3;show eG YLx []∧oQ S YLx;by_cases e:YFb
  ·rw[YLz];refine⟨⟨D.1,D.2,D.3,D.4,D.5,ZiI,D.7,D.8,D.9,YCI,YFF⟩,oQ.refl⟩;by_cases aC:f5=i
   ·subst aC;exact⟨j,YiE▸q,e⟩
   ·exact D.6 f5 fY j5 hw λh=>aC Y1T
  ·rw[YDQ];have m:=B9 D.1 aM Fs e;refine⟨Wj D m.1 YHK YHL YHM λf5 fY h j5=>?_,rfl,λP J=>Ls J (λi af=>Z3C) Zgw,ZgF,?_,Y1I⟩
   ·have aC:=Y1T;subst aC;exact⟨j,YiE▸q,Lu⟩
   ·refine Wm.elim YZ2;have dv:R Y38 Za:=C.3 (C.2 (h j aM)) (C.3 (C.2 (aq9 D af z.1 z.2 C h)) (h i Fs));rcases qM Y38 Za with w | w
    ·refine ZD4;exact dv
    ·refine ZD4;exact C.2 dv
   ·show YAE+cnt Ykg≤Y1Q;refine fU (ZfW) ?_;exact dH (by exact ZE3)
theorem Wn{f:YrH}{m:Nat}(h:∀a,Yww):Yxi:=by
 induction l with
 |nil=>exact Z0
 |cons a l ai=>
  rw[uf,cj,g5,wb,gi];exact gR ai (h a)
def ara(n:Nat):List YV:=[]::(YwH ZhB)
def Lw(n:Nat):Yd:=[17,21,8,1].flatMap λo=>(ara n).map λaZ=>Z6
theorem arb{n:Nat}(h:n≤13):(Lw n).length≤900000:=by
 have ak:(YwH ZhB).length≤13*14:=
  au (Wn (m:=14) λa=>aj g5 (aT YF (aT fN ZKv))) (aT fN (mI _ h))
 exact au (Wn (m:=183) λo=>aj YF (dX ak)) Y2
theorem arc{n:Nat}{k:a8}(h:ZQN∧ZSh∧∀c∈k.2,c<n):k∈Lw n:=by
 have aA:k.1∈[17,21,8,1]:=by
  rcases gG h.1 with q | q
  ·refine Yfz;decide
  ·rcases gG q with q | q
   ·refine Yfz;decide
   ·rcases gG q with q | q <;> · refine Yfz;decide
 refine Ap ⟨k.1,aA,kp ⟨k.2,?_,rfl⟩⟩;have av:=h.2;generalize k.2=l at av
 cases l with
 |nil=>exact b3
 |cons a l=>
  refine eI _ (Ap ⟨a,og (YG4 a b3),?_⟩)
  cases l with
  |nil=>exact b3
  |cons b l=>cases l with
   |nil=>exact eI _ (kp ⟨b,og (YG4 b YGZ),rfl⟩)
   |cons d l=>exact absurd YG3 (OL (fp 3 l.length))
theorem ard{S:bu}(D:Y2p)(h:Y2j):S.ed.length≤900000:=by
 have:=B8 (M:=Lw S.N.length) YFG λk aR=>arc (YFH k aR);replace this:=ZBa;exact au this (arb h)
theorem npow{n:Nat}(h:n≤13):n*2 ^ n≤106496:=au (Nat.mul_le_mul h (ayM Y0J h)) Y0J
theorem Wo{b c:Nat}(h:a*2 ^ c≤b):a≤b:=au (acz _ (Nat.pow_pos Y0J)) h
theorem FX{S:bu}(D:Y2p)(h:Y2j):Zlp:=λi af hf=>au (Wo Z3E) (au ZVe Y2)
theorem FY{S:bu}(D:Y2p)(h:Y2j):Z7e:=au (Wo YFF) (au (iu 2 ZVe) Y2)
theorem arf{S:bu}{x:a8}(D:ZM4)(af:Y4h)(h:Y2j):cnt YVr*1000000+(n3 S i x).wait.length<YLH*1000000+(S.wait.length+1):=by
 unfold n3
 cases q:YFZ with
 |none=>exact YDo
 |some j=>
  show cnt YLx*1000000+(if YFb then S else Ykg).wait.length<_;by_cases e:YFb
  ·exact aa YLz YDo
  ·refine aa YDQ ?_;have m:=B9 D.1 (YuQ:YAu) Y4J e;have arh:=ZfW;have ak:(gM S ZUm ZUQ).wait.length≤600000:=by
    show(S.wait++S.use _).length≤600000;exact aj cj (gR (FY D h) (FX D h _ YHM YHK))
   exact ew (Nat.lt_of_lt_of_eq (ack (fF ak (Y2:600000<1000000)) _) (wb _ _).symm) (au (dH (congrArg (·*1000000) arh)) Yk)
theorem ari(l:Y3)(x:V):(l++[x]).eraseIdx ((l++[x]).length - 1)=l:=by
 induction l with
 |nil=>rfl
 |cons a l ai=>
  ((replace ai:=yj cj ai;rw[sx]at ai;replace ai:=bN (ayN ..) ai);rw[cj,sx,ayN])
  exact congrArg (a::·) ai
theorem arj(L:Y2Q):(dW bO L).length=L.length:=bt _
theorem d3.ark{A:b9}{S:bu}{l:Y2Q}(H:Y22):d3 (upd mh A.ed (27,Y9 3 (dW bO l))) A {S with ed:=l}:=
 ⟨cg H.6 H.1,H.2.ng H.6 rfl,H.3.ng H.6 rfl,YQp YrX,YQq YrX,Yc,YdG YrX,λi af hf=>cg H.6 Z4F YBT,cg H.6 H.9⟩
theorem d3.arl{A:b9}{S:bu}{l:YV}(H:Y22):d3 (upd mh A.n2 (43,Y5 Y4A)) A {S with wait:=l}:=H.open λE hj X xc Lo rX qN G=>
 have G:=G.Wb (E':=Y4A)
 ⟨G.1,G.2,G.3,Zmn,ZnQ,G.6,⟨X,G.7,rX,qN⟩,G.8,G.9⟩
abbrev arn(mh:ag)(A:b9)(S:bu)(c:Nat)(r:bG)(m:ag)(P:Y1):Y1:=∀(bl:b9)(a7:bu),YS1→Y0Y→ZKP→YLV→Yng→r=[some Yc7]→c=cnt a7*1000000+a7.wait.length→P
abbrev aro(mh:ag)(A:b9)(S:bu)(c:Nat)(r:bG)(m:ag):Y1:=∀P:Y1,arn mh A S c r m P→P
theorem Wq{A:b9}{S:bu}(K:YN)(F:YZ)(H:Y22)(D:Y2p)(az:Y2j)(he:Yef){x:a8}(af:Y4h)(h:∀aW bl,Y4D→Y0Y→d3 aW bl YVr→YFU):aU g (k+4) 534 Z9L mh Q:=by
 have dn:YRU:=Y07;have fI:Z7N:=Y07;have th:=Y4J;refine gJ ZT K rfl Y2 (el ⟨_,_,H.1,_,rfl,⟨_,_,_,H.6⟩,Zmv,V2 K F H.1 H.2 H.3 dn dn af ZWi YQZ.2.1 λm1 f1=>?_⟩);have H1:=H.no f1;refine⟨_,_,_,H1.6,au (dH (arj _)) (au (ard D az) Y2),w5 _,d9 YoI ?_⟩;unfold n3 at h
 cases q:YFZ with
 |none=>
  rw[q]at h;show a6 ZC1 KN [Y0v,Y3g,Y3g] (upd m1 A.ed (27,Y9 3 (eE ZKs (bO Y1r) Y4p))) ZS Q;refine aa YYI ?_;have hK:=H1.ark (l:=Yed);have f2:aB ea mh (upd m1 A.ed (27,Y9 3 (dW bO Yed))):=f1.iO.trans (aB.at H1.6 rfl);refine en ⟨Zmy,zp K F hK.1 hK.3 dn th ⟨Zmy,zp K F hK.1 hK.3 dn th ⟨rfl,iP (by rw[nZ,beq_self_eq_true];rfl) (f9 (f9 (h _ A f2 rfl hK)))⟩⟩⟩
 |some j=>
  rw[q]at h;have Bx:YAu:=YuQ;have h:∀aW bl,Y4D→Y0Y→d3 aW bl YLx→YFU:=h;show a6 ZC1 KN [Y0v,Y3g,YBK] m1 ZS Q;refine Yt;intro aBS;refine en ⟨Yt1,zp K F H1.1 H1.3 dn Bx ⟨Yt1,zp K F H1.1 H1.3 dn th Y3z⟩⟩;by_cases e:YFb
  ·rw[YLz]at h;exact iP (by rw[nZ,e,beq_self_eq_true];rfl) (f9 (f9 (h _ A f1.iO rfl H1)))
  ·rw[YDQ]at h;exact lS (by rw[nZ,Yhm];rfl) (hO ⟨Yt1,rfl,Wc K F H1 fI he Z3z Z3y Bx th ZlC λO aH bl f2 bx hK=>f9 (f9 (h _ bl (f1.iO.trans f2) bx hK))⟩)
theorem arp{A:b9}{S:bu}(K:YN)(F:YZ)(H:Y22)(D:Y3a)(az:Y2j)(he:Y1Q≤900000)(h:∀aW bl a7,Y4D→Y0Y→Yj2→YLV→Yng→YRu→YFU):YgH:=by
 refine Y02;intro gb gc gd;refine KY ⟨aro mh A S,_,(λO bA=>bA A S Yy rfl H D Yy rfl rfl),λc r m z=>?_⟩;refine bp λax=>z _ λbl a7 f1 bx H1 lx n4 ni mR=>?_;subst ni;refine Yb;have ak:=H1.1;have dn:a7.N.length≤13:=aa n4.1 az;have wl:=FY lx dn;refine⟨_,_,ak,_,rfl,_,_,H1.9,ZHg,?_⟩;rcases List.eq_nil_or_concat a7.wait with oR | oR
 ·exact iP (by refine aa oR ?_;rfl) (f9 (h m bl a7 f1 bx H1 lx n4 oR))
 ·obtain⟨w,i,oR⟩:=oR;replace oR:=bL List.concat_eq_append oR;have Wr:a4 a7.wait=a4 w++[Y4p]:=aX oR dK;have th:i<a7.N.length:=lx.8 i (aa oR YCx);have aq:=dy th;have r0:eG Yr4 [i]:=⟨lx.1,lx.2,lx.3,lx.4,lx.5,λf5 fY j5 hw ar=>lx.6 f5 fY j5 (λz=>(iw (aV oR z)).elim hw ar) (cS),lx.7,λj aM=>lx.8 j (oR▸ko _ aM),lx.9,lx.10,by
   have:=lx.11;replace this:=aQ ZDZ (eT cj (Au oR this));exact au Yk this⟩
  have ld:=Wl r0 aq;have hlen:a7.wait.length=w.length+1:=by rw[oR,cj];rfl
  refine lS (decide_eq_true (bW YF (bW hlen (x1.mpr Y3G)))) (hO ⟨⟨_,_,ak,trivial⟩,_,_,ak,_,rfl,⟨_,_,H1.9⟩,_,_,H1.9,ZHg,Y4p,?_,?_⟩)
  ·rw[Wr,cj];exact ug
  ·exact aa Wr (aa (ari ..) (Wq K F (H1.arl (l:=w)) r0 dn (au Yk ZF3) aq λbF jd cz pP xg=>f9 ⟨_,aL mR (bW hlen ((arf r0 aq dn))),λO bA=>bA jd (n3 Yr4 i a7.N[i]) ((f1.trans (aB.at H1.9 rfl):aB ea mh (upd m bl.n2 (43,Y5 (a4 w)))).trans cz) Yny xg ld.1 (n4.trans (ZnX:oQ a7 Yr4) |>.trans ld.2) (congrArg (λa=>[some YKP]) pP.symm) rfl⟩))
theorem arq{A:b9}{S:bu}(K:YN)(F:YZ)(H:Y22)(D:Y2p)(az:Y2j)(he:Yef){b:Nat}{r:V}(aD:YRy)(ah:YhI)(h0:Z7V)(ak:Z7X):aU g (k+4) 555 Z9K mh Q:=
 gJ ZT K rfl Y2 (cZ ⟨Zmv,Wc K F H Y07 he Z3z Z3y aD ah h0 ak⟩)
def gf(S:bu)(x:a8)(cs:YV):bu:={S with N:=YAD,f:=Y9E,use:=λj=>if Ym8 then[]else ZRB}
theorem kX{S:bu}{x:a8}:Y5q=Z7J:=YGE
theorem canon_add{f:YL}{n:Nat}{y:a8}(h:∀c∈y.2,c<n):canon YlY y=Yie:=iF rfl (sv λc ao=>iC YUi)
variable{cs:YV}
theorem Ws{S:bu}{x:a8}(F:YMK):cnt Y6N=YLH+1:=by
 show((di Y5q).filter Yrz).length=_;have e:YwF Yrz=YwF λi=>Za==i:=
  acA λi af=>aT (iC YMA) rfl
 (refine aa kX (dU List.range_succ (aX YdJ (aj cj (gT e (dU (show[S.N.length].filter Yrz=Y8l from List.filter_cons_of_pos (aT (tA ..) (Y3E))) ?_))))))
 rfl
theorem Lx{S:bu}{x:a8}{y:a8}(h:YAD[i]?=Y06):(Y2I∧Yec=Y06)∨(ZR1∧y=x):=by
 by_cases q:Y2I
 ·replace h:=ZBe;exact YY ⟨q,h⟩
 ·have e:ZR1:=mG (hp (by have w:=eo h;replace w:=bL kX w;exact w)) Y9D;replace h:=ZBf;exact Z0T
theorem Wt{S:bu}{x:a8}(D:Y3a)(aq:x∉S.N)(aA:YGv)(aE:YII)(aR:∀c∈x.2,Y2m)(ao:Zlj):eG Y6N Y8l:=by
 have ed:∀{i:Nat}{y:a8},Yec=Y06→∀c∈y.2,Y2m:=λh=>pO D h;have un:∀j,YAu→Y9n j=ZRB:=λj aM=>if_neg (ej aM)
 have bo:=Z8m;refine⟨(aa kX (Li D.1):lT Y5q Y9E),?_,λi y af=>?_,⟨YFG,λk Ly=>⟨Yd4.1,Yd4.2.1,λc h=>aa kX (p9 (Yd4.2.2 c h))⟩⟩,Ys3,λi y af hw ar=>?_,λi y c af n0=>?_,λi af=>aa kX (p9 (D.8 i af)),λi af hf j aM=>?_,YEQ,?_⟩
 ·show(S.N++[x]).Nodup;exact xZ xU (⟨D.2,Y7t,Zh2⟩)
 ·rcases Lx af with z | z
  ·exact D.3 i y z.2
  ·exact aa z.1 (aa z.2 ZnA)
 ·refine YuL λy z=>Zml
  ·show YAD[j]?=Y06;refine aj (qb YLb) ?_;exact z.1
  ·show canon Y9E k=ZJG;exact aj (canon_add ((λh=>(YFH _ (kp ⟨_,h,rfl⟩)).2.2:∀{k:a8}{j:Nat},Yxc→∀c∈k.2,Y2m) h)) (aL (canon_add (ed z.1)) z.2)
 ·rcases Lx af with z | z
  ·show∃j,S.ed.lookup ZJG=Y0N∧i6 S.f S.N.length j=YAs;exact aa (canon_add (ed z.2)) ((D.6 i y z.2 hw cS).imp λj w=>⟨w.1,aL (iC z.1) (aj (iC ((FW D z.2 w.1).elim λy v=>YU7)) w.2)⟩)
  ·exact absurd (je z.1) ar
 ·show i∈Y9n ZQq;rcases Lx af with z | z
  ·have oH:=ed z.2 c n0;refine bW ZR2 (aL Zbk ?_);have h:=D.7 i y c z.2 n0;by_cases q:Y49∈cs
   ·exact aL ZU (ko _ h)
   ·exact aL ZN h
  ·replace n0:=fU z.2 n0;have oH:=aR c n0;exact bW ZR2 (aL Zbk (aL (if_pos ((ao _).mpr ⟨c,n0,rfl⟩)) (aj z.1 YCx)))
 ·have af:i<Y5q:=af;replace af:=YSh;show j<Y5q;refine aL kX ?_;rcases YMx with z | z
  ·replace aM:=bL Zbl aM;have hf:YUz:=hf;replace hf:=Yg5;by_cases q:i∈cs
   ·replace aM:=bL ZU aM;exact YxN (λh=>p9 (D.9 i z hf j h)) λh=>aj Y1T YDo
   ·replace aM:=bL ZN aM;exact p9 (D.9 i z hf j aM)
  ·replace aM:=bL Yor (fU z aM);exact ZDH
 ·have af:i<Y5q:=af;replace af:=YSh;show Ytb*Z2Q≤Yun;rw[bo,kX,x7,x7];rcases YMx with z | z
  ·have hf:YUz:=hf;rw[Ylc]at hf;have sT:Ytb≤YZq+1:=by
    refine aX Zbl ?_;by_cases q:i∈cs
    ·refine aX ZU YKq;exact YW
    ·refine aX ZN ?_;exact Y1I
   have aP:=mI YCE sT;rw[wb]at aP;refine bL Ycn (aQ Ycn (dS ZdP ?_));exact mI 2 (au aP (gR (YCI i z hf) (ayM Y0J VU:YCE≤Z2P)))
  ·refine aa z (gT Yor ?_);exact ZEj
 ·show S.wait.length*Z2Q≤2*Yun;rw[bo,kX,x7,x7,←Aj,←Aj,←Aj];refine mI 2 (au YFF (au (dH (Aj _ _ _).symm) (mI _ (iu 2 Y1I))))
theorem Wu{S:bu}{x:a8}:YAD[S.N.length]?=YQ:=ug
abbrev FZ(S:bu)(x:a8)(a7:bu):Y1:=Ak (a7.N=YAD) YLV Zlr Z7f (∀P,YHI→lu YAD P a7.f) (YCZ≤Y1Q+1) Yeg
theorem ars{S:bu}{x:a8}{P:YCL}(D:Y3a)(J:YHI)(aR:∀c∈x.2,Y2m):lu YAD P Y9E:=λR C i af=>by
 rcases rW (aV kX af)with z | z
 ·refine aL Ylc (J R ⟨C.1,C.2,C.3,C.4,λi j y mP f af aM=>C.5 i j y mP f (by refine aj (qb Y4J) ?_;exact af) (by refine aj (qb YLZ) ?_;exact aM)⟩ i z)
 ·rw[z,tA];exact C.1 _
theorem added{S:bu}{x:a8}(D:Y3a)(aq:x∉S.N)(aA:YGv)(aE:YII)(aR:∀c∈x.2,Y2m)(ao:Zlj):FZ S x (n3 Y6N S.N.length x):=by
 have lx:=Wt D aq aA aE aR ao;have ld:=Wl lx Wu;have bo:=Z8m;have zu:(∀i,Y2I→(n3 Y6N S.N.length x).f i=Za)∧(YFe→(n3 Y6N S.N.length x).wait=[]):=by
  unfold n3
  cases q:(gf S x cs).ed.lookup ZJF with
  |none=>exact⟨λi af=>YV2,id⟩
  |some j=>
   have aM:YAu:=by
    replace q:=eT (canon_add aR:ZJF=Y1r) q;exact(D.5 _ _ Ypd).elim YZ3
   have fe:YJE=Y38:=iC aM;have fq:YBl=S.N.length:=tA _ _;have lt:=YA8 aM;show(∀i,Y2I→(if YJE=YBl then Y6N else ZOr).f i=Za)∧(YFe→(if YJE=YBl then Y6N else ZOr).wait=[])
   refine aa fe (aa fq (aa (if_neg (ej lt)) (aa (Hg ZQJ) (aa (Om ZQJ) (⟨YER,λhw=>?_⟩)))))
   ·show g0 Y9E Y38 S.N.length i=Za;exact aj (kz (aj YV2 (ej Z3C))) (YV2)
   ·show S.wait++Yx6=[]
    rw[hw,Yor];rfl
 refine⟨ld.2.1,ld.1,zu.1,zu.2,λP J=>ld.2.2 P (ars D J aR),?_,ld.2.5⟩;have e:=ld.2.4;replace e:=fU bo e;exact e
theorem d3.art{A:b9}{S:bu}(H:Y22){c:Nat}{l l':YV}(ao:Y2m)(hf:YKK):d3 (upd mh Z2W (Ych,Y5 Y4A)) A {S with use:=λj=>if j=c then l else YFd}:=by
 have bj:=H.8 c ao hf;refine⟨cg bj H.1 YNh,H.2.ng bj YqK,H.3.ng bj YqK,YQp YrY,YQq YrY,cg bj H.6 YNh,YdG YrY,λi af zo=>?_,cg bj H.9 YNh⟩;by_cases q:i=c
 ·rw[q];exact Yvp (by show _=some (Ych,ct.list (a4 (if c=c then l else Yeh)));exact aa Y0c rfl)
 ·exact(cg bj (H.8 i af zo) (aqZ q)).trans (by show _=some (Y77,ct.list (a4 (if i=c then l else YFc)));exact ZCd)
theorem aru{cl:Calls}{e:E}{Q:Ys}(h:Zd r m λv ab=>Q [v] ab):(e7 cl [e]).1 r m Q:=h
theorem d6{cl:Calls}{o:dj}{e:E}(h:Zd r m λv ab=>o.o.ij cl [v] ab Q):(bH cl (.op o [e])).1 r m Q:=h
variable{nums:V}
theorem arv{cl:Calls}{own:Nat}{t:dY}{ifs:Yv}{elt:E}{l:Y3}(bo:Y1G=Zad)(hs:rR nums mh l)(h:∀need:Y6,(∀ab,(∀b x,Y6U=YQ→YgU)→need ab)→∃P:Y1O,P l [] mh∧jz P need Y87 YMT):(bH cl (ZF BY [Y8V] t own caps ifs elt)).1 r mh Q:=by
 show qy Y1G λv=>BY.o.ij [v] mh Zke;exact aj bo (rR.ij (Q:=Zke) hs h)
theorem arw{L:YV}(h:∀v,Y9c→v∈Y8m):∃cs,us=a4 cs:=by
 induction us with
 |nil=>exact YZC
 |cons v us ai=>exact YvO λcs e=>(jm ZPg).elim λn z=>⟨n::cs,by refine aX e (aT z.2 ?_);rfl⟩
theorem arx(h:(a4 cs).Nodup):cs.Nodup:=by
 replace h:=Dq G7 (Dq Di h);exact HD (h.imp λq e=>q (congrArg ay e))
theorem Wv{L:YV}{n:Nat}:Y3B∈Y8m↔n∈L:=⟨λh=>Yab λm z=>nW z.2▸z.1,λh=>kp ⟨n,h,rfl⟩⟩
def tD(S:bu)(done:YV)(j:Nat):YV:=if Ym8 then[]else if j∈done then YFd++Y8l else YFd
def Ca(S:bu)(x:a8)(d:YV):bu:={S with N:=YAD,f:=Y9E,use:=tD S d}
theorem ary{S:bu}{c:Nat}{d:YV}(h:Y2m):(λj=>if j=c then Yei else tD S d j)=tD S Yiw:=funext λj=>by
 by_cases q:j=c
 ·(exact aj ZU (bW q (aL Yli ((if_pos YCx).symm))))
 ·refine Ygu;by_cases il:Ym8
  ·exact aL ZRT (ZRT)
  ·refine aL ZRH (aj ZRH ?_);by_cases ck:j∈d
   ·exact aj ZRR ((if_pos (ko _ ck)).symm)
   ·exact aj Yln ((if_neg λh=>YxP ck λh=>q Y1T).symm)
theorem d3.arz{A:b9}{S:bu}{x:a8}{d:YV}{c:Nat}{l:Y3}(H:d3 mh A Z37)(h:Y2m)(hf:YKK)(e:l=a4 Yei):d3 (upd mh Z2W (Ych,YbZ)) A (Ca S x Yiw):=by
 have z:=H.art (l:=Yei) (l':=[]) (show c<Y5q by exact aL kX (p9 h)) ((iC h).trans hf);unfold Ca at z ⊢
 (refine pf (ary h) Y4n);exact z
abbrev arA(S:bu)(x:a8)(mh:ag)(A:b9)(cs:YV)(p:Nat)(ll:Y5N)(vs:Y3)(r:bG)(m:ag)(P:Y1):Y1:=∀(d rest:YV)(z:Yp),cs=YLL→vs=a4 rest→d3 m A Z37→YS1→m p=some YZc→r=ll z→P
abbrev arB(S:bu)(x:a8)(mh:ag)(A:b9)(cs:YV)(p:Nat)(ll:Y5N)(vs:Y3)(r:bG)(m:ag):Y1:=∀P:Y1,arA S x mh A cs p ll vs r m P→P
theorem arC{A:b9}{S:bu}(K:YN)(F:YZ)(H:Y22)(D:Y3a)(az:Z7M)(he:Z7U){o:Nat}(aA:Y4K)(aE:YgJ)(aR:∀c∈aZ,Y2m)(hs:ZYO)(qu:Zlx)(h0:∀j,YRV=ZaK→∀aW,Y4D→Yj1→Q Y8u aW)(ak:Yxx→∀aW bl a7,Y4D→Y0Y→Yj2→FZ S Z6 a7→Q Y7V aW):ZC2:=by
 have dn:YRU:=Y07;have Ww:ZCU:=Y7U;have aBT:∀t,Yjf→Yii:=λt h=>(Bool.or_eq_false_iff.mp h).1;refine Y02;intro gb gc gd;refine el ⟨_,_,H.1,_,rfl,⟨_,_,H.2.1,trivial⟩,aqG K F H.2 dn aA hs aR Ww λm1 f1 a3=>?_⟩;have c6:∀t,Yik→Yii:=ZkO
 have eY:∀t,YLG→Yii:=ZkO
 have xh:=H.3.dq f1 c6;have uz:m1 A.h=_:=f1.go H.1
 cases q:(hi S.N).lookup Z6 with
 |some j=>
  have lp:=VM q;replace a3:=ZGI;refine ZD1;have aM:=pJ Ypd;exact en ⟨_,_,uz,_,rfl,Yt2,VT K F xh dn (lS (decide_eq_true (x1.mpr YLZ)) (cZ (h0 j aM m1 (f1.weak V9) ⟨uz,a3,xh,YQp YrZ,YQq YrZ,ZNk,YdG YrZ,λi af hf=>f1 _ _ Z4F ZMb,ZNl⟩)))⟩
 |none=>
  have lp:=VN q;replace a3:=ZGI;refine ZD1;have aq:Yxx:=λhm=>YzH λj z=>by replace z:=eT q z;exact Yib
  refine Yt;intro aBU;refine en ⟨_,_,uz,_,rfl,Yt2,VT K F xh dn (iP (decide_eq_false (Int.not_lt.mpr (Int.le_refl _))) (f9 (hO ⟨_,_,uz,_,rfl,Yt2,aqO K F xh Y07 λaH e4 f2 zq=>?_⟩)))⟩;obtain⟨X,jO,rX,qN⟩:=H.7;have eg:∀t,Yij→ZJe:=YsI
  have hx:∀t,YLG→ZJe:=YsI
  have F0:aB ea mh aH:=(f1.weak V9).trans ZNt;have mQ:=f2.go uz;have zv:=f2.go (f1.go jO);refine Yt;intro aBV;refine tq λb ah=>⟨YQO,_,_,cY ah mQ,_,rfl,_,_,_,cY ah zv,rfl,ZF4,?_⟩
  have Cb:=cY (t:=YQO) (o':=Y0R) ah zv;have aBW:=Li H.3.6;have nw:∀{kO u:Nat}{o':ct},aH kO=YpF→o5 u 35=false→upd Zbv A.ae YuA kO=YpF:=λr1 bj=>cg Cb (cY ah r1) bj;have vj:d3 Ypn ZbK (Ca S Z6 []):=by
   refine⟨nw mQ rfl,((a3.dq f2 eg).dq Y11 ZkN).ng Cb rfl,ZSw▸((zq.dq Y11 ZkN).ng Cb rfl),YQp Zgz,YQq Zgz,nw (f2.go ZNk) rfl,⟨_,Yc,?_,YEQ⟩,YEQ,nw (f2.go ZNl) rfl⟩
   ·show(eE X Y7V Y0B).length≤YIv+S.e;exact dS kX (aL Y98 (au Z8N (dX rX)))
   ·have af:i<YIv:=af;replace af:=YSh;rcases YMx with z | z
    ·have hf:YUz:=hf;replace hf:=Yg5;exact aj (V5 _ _ λe=>p8 z YMb) (aj (qN i z hf) (congrArg Zkl (if_neg Yjj).symm))
    ·rw[z];exact Yuz (congrArg Zkl YaX)
   ·have af:i<YIv:=af;replace af:=YSh;rcases YMx with z | z
    ·have hf:YUz:=hf;replace hf:=Yg5;show ZA4
     (refine aX (show Yz3 i=YJx from if_neg Yjj) ?_;refine aa (show ZbL=YFc from(if_neg Yjj).trans (if_neg cS)) ?_)
     exact nw (f2 _ _ (f1 _ _ (H.8 i z hf) ZMb) (hx _ ZdL)) YBT
    ·show ZA4;rw[z,show Yz3 S.N.length=b from Y0c,show tD S [] S.N.length=[]from Y0c];exact cg Cb Yc YBT
  have cz:aB ea mh Ypn:=(F0.trans Y11).trans (aB.at Cb rfl);generalize Ypn=bF at vj cz ⊢;revert bF;refine Y17;intro bF vj cz;have lW:(tC YNt S.N.length b).h=A.h:=rfl;generalize ZbK=gm at vj lW;revert gm;refine Y17;intro gm vj lW;have F1:rR nums bF Y4k:=hs.imp id λz=>z.imp λp z=>z.imp λt z=>⟨z.1,cz _ _ z.2 (qu p t z.1 z.2)⟩
  have arD:hP bF gm.U Z7J Y9E S.e:=ZSw▸vj.3;refine Yt;intro aBX;refine VF (aru (d6 (arv rfl F1 λneed arE=>comp_map Y4k (λv=>ay (S.f Y2z)) (λm=>bF=m) (aj YF (nX Ww)) (λm e=>arE m (aa e Y4T)) rfl ZkU YES)))
  ·subst hm;refine YOy
   (rw[w.2]at pM;refine YGN)
   have ao:=YgB;refine⟨⟨_,_,(lW▸vj.1:bF A.h=_),trivial⟩,aV lW (zp K F (vj.1:xa bF gm) arD (au ZKu Y2) (p9 ao) ⟨aD,?_⟩)⟩;refine aa (iC ao) ?_;exact pM bF rfl
  ·subst hm;refine aX Z5M (λp ar=>⟨0,_,_,Yc,⟨by refine Ygr;exact Y7U,FU _,YJ (YY λv aO=>Y9q λc z=>ZD5)⟩,λus bZ hm bo cO fK=>YOL⟩);obtain⟨cs,rfl⟩:=arw λv aO=>(hm v).mp aO;have Lz:∀c,Yit↔∃k,k∈aZ∧S.f k=c:=λc=>Wv.symm.trans ((hm Y3Y).trans (Wv.trans OC));have f4:aB no bF Ypo:=YvA ZAs;have Cc:=vj.no f4;have Wx:=bw Zc1 cO YZc;have gL:aB ea mh Ypo:=cz.trans f4.iO;generalize Ypo=eK at Cc Wx gL ⊢;refine⟨arB S Z6 mh gm cs cO λz=>[Y0v,YHo,Zad,ZaA,z],(λO bA=>bA ([]) cs none rfl rfl Cc gL Wx rfl),Y3j,ZkW⟩
   ·refine ZHI;subst xj;refine Yb;have fB:YoZ:=Z3M;replace aJ:=ZGB;subst aJ;have lx:=Wt (cs:=cs) D aq aA aE aR Lz;refine⟨Zme,hO ⟨⟨_,_,lW▸xi.1,trivial⟩,aV lW (Wq K F (xi:d3 m gm (gf S Z6 cs)) lx (by show YIv≤13;exact aj kX ZKu) YKu Wu λpA bl pQ bx arF=>cZ (ak aq pA bl _ Zd3 (bx.trans lW) arF (added D aq aA aE aR Lz)))⟩⟩
   ·refine ZHI;subst xj;refine Yb
    cases rest with
    |nil=>exact ZDG
    |cons c rest=>
     have aC:=g4 aC;refine YM;obtain⟨dI,Wy,Wz⟩:=(Lz c).mp (ZCj:Yit);have Ce:Y2m:=aV Wz (YdF ZBn);have LA:YKK:=aV Wz (YdE dI ZBn);have ci:c<YIv:=aL kX (p9 Ce);have WA:ZQq=c:=(iC Ce).trans LA;have LB:=arx bZ;replace LB:=bL aJ LB;have rF:ZbM=Yeh:=(if_neg (ej Ce)).trans (if_neg (λhd=>(HE LB).2.2 c hd c b3 rfl:c∉d));obtain⟨LC,arG,_,arH⟩:=xi.7;refine Yb;have i1:=xi.8 c ci WA;refine⟨Zme,d9 YAM (t1 (hO ⟨_,_,(aV lW xi.1:m A.h=some (3,ZD 617 [Y0 gm.B.b,Y0 gm.U.u,Y0 gm.iW,Y0 gm.dN,Y0 gm.ed,Y0 gm.ae,Y0 gm.n2])),_,rfl,_,_,_,arG,rfl,_,arH c ci WA,⟨_,_,i1⟩,_,_,i1,?_,f9 (λO bA=>bA Yiw rest Y57 ZHj YAN ?_ (vk.trans (aB.at i1 (aq2 _ YqK))) (cg i1 F2 YNh) rfl)⟩))⟩
     ·show(a4 ZbM).length≤1000000;exact dU rF (aj YF (au (FX D Y07 c Ce LA) Y2))
     ·exact xi.arz Ce LA ((congrArg (λl=>Y4A++[Y7V]) rF).trans (dK (l₂:=Y8l)).symm)
theorem bc{cl:Calls}{x:V}(bo:YTI)(h:YFW):(bH cl Y8V).1 r m Q:=by
 show YoM;exact aj bo h
theorem aS{cl:Calls}{Q:Ys}(h:Q [] m):YjQ.1 r m Q:=h
theorem aw{cl:Calls}{e:E}{es:Yv}{Q:Ys}(h:Zd r m λv ab=>Y2c r ab YsP):(e7 cl YGX).1 r m Q:=h
theorem e5{cl:Calls}{x:V}{Q:Ys}(bo:YTI)(h:Q [x] m):(e7 cl [Y8V]).1 r m Q:=aw (bc bo h)
theorem oS{cl:Calls}{x y:V}{Q:Ys}(bo:YTI)(aM:YAW=Y06)(h:Q Y2E m):(e7 cl [Y8V,YJt]).1 r m Q:=aw (bc bo (e5 (Q:=Zkf) aM h))
theorem F3{cl:Calls}{x y w:V}{Q:Ys}{l:Nat}(bo:YTI)(aM:YAW=Y06)(aE:cI r l=YpN)(h:Q [x,y,w] m):(e7 cl [Y8V,YJt,.var l]).1 r m Q:=aw (bc bo (oS (Q:=Zkf) aM aE h))
theorem bQ{cl:Calls}{es:Yv}{o:dj}(h:Y2c r m λvs ab=>o.o.ij cl vs ab Q):ZG3.1 r m Q:=h
theorem kA{cl:Calls}{x:V}{p:Nat}(bo:YGJ)(hm:Yms)(hf:fs[i]?=YQ)(h:YFW):(bH cl (.op (b2 C i) [YJt])).1 r m Q:=by
 show YoN;exact aj bo (⟨_,_,hm,_,hf,h⟩)
theorem jS{cl:Calls}{es:Yv}{f p:Nat}(bo:YGJ)(hm:Yms)(h:Y2c r m λvs aH=>cl f Z1l aH Q):ZG1.1 r m Q:=by
 show YoN;exact aj bo (⟨⟨_,_,hm,trivial⟩,h⟩)
variable{C0:Nat}{sI:Y3}
theorem nj{cl:Calls}{es:Yv}{f p q u:Nat}(bo:YGJ)(hm:Ymt)(hf:YkX)(aF:m q=some (u,ZD C sI))(h:Y2c r m λvs aH=>cl f (Y0 q::vs) aH Q):(bH cl (Ya YiD Ybl es)).1 r m Q:=by
 show YoN;exact aj bo (⟨_,_,hm,_,hf,⟨_,_,aF,trivial⟩,h⟩)
theorem mx{cl:Calls}{a:E}{es:Yv}{o:kR}(h:YOa r m λv ab=>o.o.pre v ab∧Y2c r ab Zkg):(bH cl (Ya o a es)).1 r m Q:=h
theorem eZ{cl:Calls}{es:Yv}{f:Nat}(h:Y2c r m λvs aH=>cl f vs aH Q):ZG2.1 r m Q:=h
theorem cst{cl:Calls}{v:V}(h:Y37):(bH cl (.op (Bs v) [])).1 r m Q:=h
theorem WB{A:b9}{n:Nat}{f:YL}(K:YN)(F:YZ)(h0:YIJ)(B:YLu)(az:Y2W)(aD:a<n)(h:YeT):ZBz:=
 gJ ZT K rfl Y2 (cZ (nj rfl h0 rfl B.1 (e5 rfl Z2q)))
inductive cE where
 |v (n:Nat) |c (o:Nat) |u (o:Nat) (a:cE) |b (o:Nat) (a b:cE)
def bB(p:cE):V:=p.rec (λn=>YD YKY) Zjk Zja ZjZ
def gu(p:cE):Bool:=p.rec (λn=>n==3||n==4) (λo=>hN o) (λo O a=>hN o&&a) λo O O a b=>hN o&&(a&&b)
theorem tE{cl:Calls}{e:E}{own:Nat}{t:dY}{ifs:Yv}{elt:E}(h:Zd r m λv ab=>lst v ab λa O l=>∃P:Y1O,YeI∧jz P YHX Y87 YMT):(bH cl (ZF hb [e] t own caps ifs elt)).1 r m Q:=h
theorem tF{cl:Calls}{e:E}{own:Nat}{t:dY}{ifs:Yv}{elt:E}(h:Zd r m λv ab=>v.eM False λl=>∃P:Y1O,YeI∧YmF):(bH cl (ZF iK [e] t own caps ifs elt)).1 r m Q:=h
theorem F4{cl:Calls}{e:E}{own:Nat}{t:dY}{ifs:Yv}{elt:E}(h:Zd r m λv ab=>v.EA False λn=>YB4∧∃P:Y1O,P YDl [] ab∧YmF):(bH cl (ZF nM [e] t own caps ifs elt)).1 r m Q:=h
theorem my{cl:Calls}{elt:wG}{x:V}{N:Ys}(h:elt YMu m λy ab=>Y8q∧N ZDP ab):mV YJg false r YjQ.2 elt x acc m N:=h
theorem arI{o:Nat}(h:Y4K):(tab o).isSome=true:=by
 rcases YGj with h | h
 ·refine YjD;rfl
 ·rcases YGj with h | h
  ·refine YjD;rfl
  ·rcases YGj with h | h <;> · refine YjD;rfl
theorem WC(l l':YV):ZUo=true:=by
 induction l generalizing l' with
 |nil=>rfl
 |cons a l ai=>cases l' with
  |nil=>rfl
  |cons b l'=>
   have e:mq ZFJ (Y3A::YfW)=(true&&cond YhF ZUo true):=rfl;refine e.trans (gS Ygn ?_);cases YhF <;> rfl
theorem arJ(l:YV):strsOk Y4A=true:=by
 induction l with
 |nil=>rfl
 |cons a l ai=>exact ai
theorem WD{l:Yd}(h:∀x∈l,YGv):m5 (l.map bO):=⟨λa aD b ah=>Y8K λx z=>YOn λy w=>by
  refine eT z.2 (bN w.2 (YPJ ((yZ _ _ _ _).trans ?_)));show(true&&cond ZFl (mq YCY (a4 y.2)) true)=true;refine gS (WC ..) ?_;cases ZFl <;> rfl,
 λa aD=>Y8K λx z=>by
  refine bN z.2 (YZj ?_);show((tab x.1).isSome&&strsOk YCY)=true;rw[arI (h x z.1),arJ];rfl⟩
def i8(N:Yd)(f:YL)(c:Nat):Yd:=(YaD Zj4).map λi=>YTV
theorem qP{f:YL}{c:Nat}{y:a8}:y∈Y6Q↔∃(i:Nat)(x:a8),Y4g∧f i=c∧y=Y2n:=by
 refine aj Yo7 (⟨λh=>h.elim Yrw,λh=>h.elim λi z=>z.elim λx z=>⟨i,?_,?_⟩⟩)
 ·have w:=ri z.1;have af:=YVE;exact⟨i,N[i],Y2o,eq_of_beq w.2,by refine aQ z.2 (aX (ho) (gS Y2o ?_));rfl⟩
 ·exact Dh.mpr ⟨og YLb,beq_iff_eq.mpr Z4⟩
 ·refine ZBS;rfl
open Classical in
noncomputable def mz (kv:Y6h) (l:ZC):ZC:=if h:Ysv then h.choose else[]
theorem qQ(af:YOK):(l.map kv).Nodup↔l.Nodup:=by
 exact aL ZX3 (aL ZX3 (aj (propext G7) (⟨λh=>h.imp λq e=>q (congrArg kv e),λh=>h.imp λq e=>q (af _ _ e)⟩)))
theorem WE(af:YOK){us:ZC}(C:m5 Y7s)(n:us.Nodup)(h:YZ8)(r:ZRx):YVo=us:=by
 have aq:Ysv:=⟨us,n,h,r⟩
 have z:=aq.choose_spec;refine aj (dif_pos aq:YVo=aq.choose) ?_;have m:∀{l1 l2:ZC},(∀v,v∈l1↔v∈l2)→∀v,v∈l1.map kv↔v∈l2.map kv:=λh v=>by
  exact aL Yo7 (aj Yo7 (⟨λq=>q.imp λa w=>⟨(h a).mp w.1,w.2⟩,λq=>q.imp λa w=>⟨(h a).mpr w.1,w.2⟩⟩))
 exact K0 af (VK (C.sub λv aO=>(m h v).mp aO) (YyK z.1) (YyK n) (m λv=>(Z4 v).trans (h v).symm) Z3 r)
theorem WG{L:ZC}(h:∀v,Y9c→v∈Ydf):∃ns:ZC,us=ns.map kv:=by
 induction us with
 |nil=>exact YZC
 |cons v us ai=>exact YvO λns e=>(ee ZPg).elim λx z=>⟨x::ns,by refine aX e (eT z.2 ?_);rfl⟩
theorem F5(af:YOK){x:α}:Y3t∈Y7s↔x∈l:=⟨λh=>Ywo λy z=>af _ _ z.2▸z.1,λh=>kp ⟨x,h,rfl⟩⟩
theorem arK{A:b9}{S:bu}(K:YN)(F:YZ)(H:Y22)(D:Y2p)(az:Y2j)(aD:YRy)(h:∀p aW,aW p=some (0,Y5 ((mz bO ZQr).map bO))→Y8o→Q Y0V aW):aU g (k+4) 595 Yf8 mh Q:=by
 have dn:YRU:=Y07;refine Y02;intro gb gc gd;refine cZ (d6 (tE (jS rfl H.1 (e5 rfl (aqX K F H.1 H.3 Y07 aD λp m1 L ar bZ w8 f1=>⟨_,_,ar,?_⟩)))));have lt:∀i∈L,Y2I:=λi af=>(YzI af).1;refine comp_map Y8m Zkd ZjN (aj YF (au Z2p (nX dn))) (λm hm=>⟨0,hm.go ar⟩) Yy (λv aO acc m gr oP hm pM=>?_) λm hm=>λb ah=>⟨0,_,_,Yc,?_,λus un LD arL cO fK=>⟨0,h cO _ ?_ ((Ywz Y11).trans ZAs)⟩⟩
 ·refine Y9q Ziu
  (rw[w.2]at pM;refine YGN)
  refine YM;obtain⟨x,aq⟩:Ysx:=⟨_,dy (lt i w.1)⟩
  refine Yb;have hK:=(H.no f1).no hm;refine my (jS rfl hK.1 (e5 rfl (V2 K F hK.1 hK.2 hK.3 dn dn aq (pO D aq) Z3G.2.1 λab f2=>⟨oP,?_⟩)));have e:Z7I=x:=by refine aj (ho) (aT aq ?_);rfl
  exact aV e (pM ab ZQg)
 ·have e:Yv4:=ZHz
  refine aL e (⟨by refine Ygr;exact au Z2p Y07,WD λx aq=>Ywn Yrw,YJ (YJ λv aO=>Y9l λx z=>z.2▸w5 x)⟩);obtain⟨x,aq⟩:Ysx:=Zn2
  (refine k7 z.2 (aa (ho) ZCl))
  exact Z3G.1
 ·have ge:∀y∈ZQr,hN y.1=true:=λy bb=>(qP.mp bb).elim λi z=>z.elim λx z=>by exact dU Z3 ((D.3 i x z.1).1)
  have e:Yv4:=ZHz
  rw[e]at LD;obtain⟨ns,rfl⟩:=WG λv aO=>(LD v).mp aO;rw[WE Y4U (WD ge) ((qQ Y4U).mp un) YsU arL];exact Yc;rw[←F5 Y4U,LD,F5 Y4U,qP,z7];refine⟨λq=>q.elim Yrw,λq=>q.elim λi z=>z.elim λx z=>⟨i,(w8 i).mpr ⟨YLb,Z4⟩,?_⟩⟩
  ·obtain⟨x,aq⟩:Ysx:=Zn2
   exact⟨i,x,aq,(YzI z.1).2,by refine aQ z.2 (aX (ho) (gS aq ?_));rfl⟩
  ·refine ZBS;rfl
def nk(p:cE):Bool:=p.casesOn Y29 Y1k Y0P Y1j
variable{p:cE}
theorem zw(K:YN)(F:YZ)(ar:Y3q)(h:Q (YK (nk p)) mh):aU g (k+1) 86 [Zk] mh Q:=by
 refine gJ ZT K rfl Y2 Yid
 cases p with
 |v n=>
  rcases gG ar with q | q <;> · exact aa Y1e (⟨Y7j,rfl,Y7j,_,rfl,2,rfl,rfl,h⟩)
 |c o=>exact(VL ar).elim λj z=>⟨Y7j,rfl,Y7j,_,rfl,j,z.1,rfl,(ic λe=>z.2 YAH:ZFj).symm▸h⟩
 |u o a=>exact⟨fp 2 999999,rfl,h⟩
 |b o a b=>exact⟨fp 3 999998,rfl,h⟩
abbrev Tab:=YCL
noncomputable abbrev ir (t:Tab):dm:=dW V.str t
abbrev TabAt(m:ag)(a:Nat)(t:Tab):Y1:=m a=some YIr
def jC(m:ag)(acc:Y3)(ts:Y0S):Y1:=List.rec (motive:=λO=>Y7D) (λacc=>YSL) (λt O ai acc=>∃a r,acc=YA::r∧Z85∧Y6D) ts acc
variable{ts:Y0S}
theorem jC.dq{p:Z9}(f:YFo)(ar:YWI){acc:Y3}(h:YVD):jC ab acc ts:=by
 induction ts generalizing acc with
 |nil=>exact h
 |cons t ts ai=>exact h.imp λa z=>z.imp λr z=>⟨z.1,f _ _ Z4 ar,Ygq⟩
theorem jC.app{acc pR:Y3}{WH:Y0S}(h:YVD)(av:jC m pR WH):jC m ZDQ (ts++WH):=by
 induction ts generalizing acc with
 |nil=>exact aT ZZN av
 |cons t ts ai=>exact h.imp λa z=>z.elim λr z=>⟨r++pR,ZHe,Z4,Ygq⟩
theorem jC.len{acc:Y3}(h:YVD):acc.length=ts.length:=by
 induction ts generalizing acc with
 |nil=>rw[ZZN];rfl
 |cons t ts ai=>exact h.elim λa z=>z.elim λr z=>aX z.1 (congrArg Y3l Ygq)
theorem jC.one{t:Tab}(h:Z85):jC m Y8j [t]:=⟨a,[],rfl,h,rfl⟩
def qR(nod:Ye8)(o n:Nat)(F:YRc)(t:Tab)(c:Nat):Y0S:=(nod c).flatMap λx=>cond YqS Z3o []
def kB(arM:List Yes):YV→Y0S→Y0S:=arM.rec (λO ts=>ts) λf O ai aZ ts=>aZ.casesOn ts λk aZ=>ai aZ (ts.flatMap λt=>f t k)
def fk(nod:Ye8)(p:cE):Yes:=p.rec (λn t c=>YJQ YRr YsQ) (λo t c=>qR nod o 0 YOG t c)
 (λo O A t c=>qR nod o 1 (λt aZ=>kB [A] aZ [t]) t c) λo O O A B t c=>qR nod o 2 (λt aZ=>kB [A,B] aZ [t]) t c
def dep(p:cE):Nat:=p.rec Y86 Y5m Zg9 λO O O a b=>YfT
def vars(p:cE):Nat:=p.rec Y5m Y86 Zg8 λO O O a b=>a+b
theorem arN{L:Tab}{n w:Nat}(h:L.lookup n=YpN):ZLv=ir L:=by
 induction L with
 |nil=>exact Y08
 |cons p L ai=>
  have e:eE (ir Ynw) ZM Y3C=cond (b8 YQA ZM) ((YQA,Y3C)::ir L) ((YQA,Y7W)::ZLv):=rfl;replace h:=YFs;by_cases q:p.1=n
  ·replace h:=Ykr
   (refine ZEI);rfl
  ·replace h:=Ykq;refine aj e (dT (ic λh=>q Z8G) YjC);rfl
theorem xk{cl:Calls}{f:Nat}{es:Yv}{Q:Y0i}(h:Y2c r m λvs aH=>cl f vs aH Y9J):ZG2.2 r m Q:=h
theorem forL{cl:Calls}{e:E}{b s:Mine.Internal.S}{t:dY}(h:Zd r m λv ab=>lst v ab λp O l=>∃P:Y2i,Z6J∧(∀r m,Y68→YWH∧Y4C)∧∀v vs r m,Y7F→YWH∧ZRv):a6 cl (Y0A hb [e] t b s) r m Qn Qr:=h
theorem WI{cl:Calls}{e:E}{b s:Mine.Internal.S}{t:dY}(h:Zd r m λv ab=>v.eM False λl=>∃P:Y2i,Z6J∧Yzb):a6 cl (Y0A iK [e] t b s) r m Qn Qr:=h
theorem arO{cl:Calls}{aJ aC:E}{b s:Mine.Internal.S}{t:dY}(h:YvU r m λv ab=>YvT r ab λu aH=>v.eM False λl=>u.eM False λl'=>l'.length=l.length∧Ymd∧l'.all sO=true∧∃P:Y2i,P ZXy r aH∧Zm1∧∀v vs r m,Y7F→YH4∧j3 t true v r YIe):a6 cl (Y0A Qj [aJ,aC] t b s) r m Qn Qr:=h
theorem LF{b:Bool}{x y:α}{P:YIU}(ak:Y6F→P x)(av:YhK→P y):P (cond b x y):=by
 cases b with
 |true=>exact ak rfl
 |false=>exact av rfl
noncomputable abbrev hk (S:bu) (c:Nat):Yd:=ZUw
abbrev xl(mh:ag)(w:Nat)(A:b9)(S:bu):Y1:=hR (∃t,mh w=some (t,ZD 236 YKW)) Y22
theorem xl.no{w:Nat}{A:b9}{S:bu}(W:YNi)(F:Y8o):xl aW w A S:=⟨W.1.imp λt z=>F _ _ z rfl,W.2.no F⟩
abbrev n5(g:G)(k:Nat)(A:b9)(S:bu)(w:Nat)(p:cE):Y1:=∀{mh:ag}{Q:Yj}{a c:Nat}{t:Tab},YNi→Y7H→ZbA≤100→Y2m→YKK→(∀b tg aW acc,YCc=ZaR→jC aW acc ZOM→Y7K)→aU g k 221 [Y64,YA,Y3Y,Zk] mh Q
theorem WJ{A:b9}{S:bu}(K:YN)(F:YZ){w n:Nat}(ar:ZPL):n5 g (k+2) A S w Y0r:=λ{mh Q a c t}W aD bq ao hf h=>by
 have BV:(ir t).length≤1000000:=by delta ir dW;refine Y2H;exact au (au Yk bq) Y2
 have WK:∀a b:Nat,V.str a=V.str b→a=b:=YrP;refine Y02;intro gb gc gd;refine el ⟨Y7j,_,rfl,ZMm⟩;show a6 _ Uu [Y6a,Y05,Y57,YXD,YXA,none,none,none,none,none,none] mh _ _;refine Yt;intro WL;refine el (d6 (bc rfl ⟨_,_,_,aD,rfl,kn BV,λb ah=>⟨0,tq ⟨_,_,_,Yc,rfl,BV,?_⟩⟩⟩));refine d9 YNd ?_;have f1:aB no mh (upd mh b (0,Y9 1 (eE Y6S ZM Y3Y))):=Y11;have a1:=f1.go aD rfl;refine Yt;intro arP;refine cZ ⟨⟨_,_,_,a1⟩,_,_,_,a1,rfl,?_⟩;rw[(qK WK:YiH)]
 cases q:Y9b with
 |none=>
  have aJ:ZOL=YRr:=ZI5
  rw[aJ]at h;refine⟨rfl,lS (iI Y3Y) ZiA⟩;exact aj Y6I (aa (zi WK q) rfl)
 |some u=>
  have aJ:ZOL=cond (u==c) [t] []:=ZI5
  rw[aJ]at h;by_cases e:u=c
  ·rw[e,beq_self_eq_true]at h;rw[e]at q;refine⟨rfl,lS (YJK (beq_iff_eq.mpr e)) ZiA⟩;exact aj Y6I (aa (arN q) rfl)
  ·rw[Yhm]at h;exact⟨rfl,iP (YJK Yhm) λe2 d7=>⟨0,h e2 0 _ [] Yc rfl ZNo⟩⟩
theorem WM(a b:V)(l l':Y3):qr ZAi (b::l')=YcX::ZXy:=by
 unfold qr;rw[g5,List.range_succ_eq_map,mF,kJ];rfl
theorem WN{cl:Calls}{aJ aC:E}{own:Nat}{t1 cy:dY}{elt:E}(h:YvU r m λv ab=>lst v ab λa O l=>∃P:Y1O,YeI∧jz P YHX Y87 (I1 t1 false cy hb Ywf YM1 YEY)):(bH cl (.sX hb [aJ] t1 hb [aC] cy own caps elt)).1 r m Q:=h
theorem WO{cl:Calls}{aC elt:E}{x:V}{N:Ys}(h:YvT YMu m λu m1=>lst u m1 λa O l=>∃P:Y1O,P l acc m1∧jz P YHX N λy acc m N=>YEY YPC m YsX):I1 YJg false (Y1L j) hb Ywf r YEY x acc m N:=h
theorem WQ(l:Y3):l.flatMap Zkb=l:=by
 induction l with
 |nil=>rfl
 |cons a l ai=>rw[uf,ai];rfl
theorem LG(a:α)(l:ZC)(f:YrH):(a::l).flatMap f=f a++l.flatMap f:=uf
variable{tg:Nat}
theorem arQ{A:b9}{S:bu}{w b c:Nat}{q:cE}(kY:n5 g k A S w q)(W:YNi)(bo:Y5X=Y6a)(lE:YiT=Y6Z)(qc:YTH=Y57)(OB:cI r 10=YXE)(ah:Y6U=ZaR)(R:jC mh acc ts)(aE:∀t∈ts,t.length+vars q≤100)(ao:Y2m)(hf:YKK)(hlen:(ts.flatMap YsL).length≤1000000)(h:∀kO aW gC,aW kO=some (0,Y5 gC)→jC aW gC (ts.flatMap YsL)→Y8o→Q (Y0 kO) aW):
  (bH ZH Z1s).1 r mh Q:=by
 have fx:YEk=Y6a:=bo;have Lq:YyX=Y57:=qc;have arR:YyU=YXE:=OB;have fB:inR 2 Z9U r=[none,none,Y6a,Y57,YXE]:=by
  show[none,none,YEk,YyX,YyU]=_;exact aa fx (aa Lq (aa arR rfl))
 refine WN (bc lE ⟨_,_,ah,aa fB (⟨λvs out m=>∃done rest,ts=ZLP∧jC m vs rest∧jC m out (done.flatMap YsL)∧Y7L,⟨[],ts,rfl,R,rfl,Yy⟩,λout m z=>?_,λv vs out m z=>?_⟩)⟩)
 ·refine YM;obtain⟨done,rest,e,qS,oT,f1⟩:=z;refine ax (⟨ZnY,λkO r1=>⟨0,h kO _ out Yc ?_ (f1.trans (aB.new r1))⟩⟩);replace e:=bL Y1U (fU (p5 qS.len.symm:YoZ) e);exact bW e (oT.dq (aB.new (p:=no) r1) rfl)
 ·refine YM;obtain⟨done,rest,e,qS,oT,f1⟩:=z;refine ax (⟨ZnY,?_⟩)
  cases rest with
  |nil=>exact absurd (show Y0O=[]from qS) Y03
  |cons t1 rest=>
   refine YM;obtain⟨a1,fX,ev,k8,LH⟩:=qS;refine Yb;have ev:=g4 ev;refine cb ev.1 YM;obtain⟨pS,hw⟩:=Yf2.1;refine ax (WO (jS rfl hw (F3 rfl rfl rfl (kY Yf2 k8 (aE t1 (Y1o:t1∈ts)) ao hf λe2 arS aH pR d7 WR f2=>⟨_,_,d7,zh pR Zkb out Ys5 ?_ (λm hm=>⟨arS,ZCC⟩) rfl ZkT YES⟩))))
   ·refine dU Z8h (aj cj (aT oT.len (aX WR.len (aQ cj ?_))));replace hlen:=aQ cj (aX Y0k (k7 Ydh (bN rg (k7 e hlen))));exact au Yk hlen
   ·subst hm;exact bc rfl ⟨ZEf,ZJW⟩
   ·subst hm;refine aa Z8h (⟨done++[t1],rest,Yhz,aa ev.2 (jC.dq f2 rfl LH),?_,Y7i⟩);exact aL rg (bW Ydh (fH Dt (bW Y1U ((oT.dq f2 rfl).app WR))))
def oU(p:cE):Nat:=p.rec Y5m (λO=>13*1) (λO O a=>13*a) λO O O a b=>13*(a*b)
def F6(pl:Y2C):Nat:=pl.rec 1 λp O b=>oU p*b
theorem Cf(p:cE):1≤oU p:=by
 induction p with
 |v n=>exact YW
 |c o=>exact(Y2:1≤13*1)
 |u o a ai=>exact Hx Y2 ai
 |b o a b eh eQ=>exact Hx Y2 (Hx eh eQ)
theorem arT(pl:Y2C):1≤F6 pl:=by
 induction pl with
 |nil=>exact YW
 |cons p pl ai=>exact Hx (Cf p) ai
theorem xm{f:YrH}{m:Nat}(h:∀a∈l,Yww):Yxi:=by
 induction l with
 |nil=>exact Z0
 |cons a l ai=>
  rw[uf,cj,g5,wb,gi];exact gR ZDq YGp
variable{nod:Ye8}
theorem LI{o n m c:Nat}{t:Tab}{F:YRc}(az:Zli)(h:∀x,(F t x).length≤m):(qR nod o n F t c).length≤13*m:=
 au (xm λx O=>LF (P:=λl:Y0S=>l.length≤m) (λO=>h x.2) Zgs) (mI _ (az c))
theorem WS(az:Zli)(p:cE):∀t c,(fk nod p t c).length≤oU p:=by
 induction p with
 |v n=>
  intro t c;show(YJQ YRr YsQ).length≤1
  cases Y9b with
  |none=>exact YW
  |some w=>exact LF (P:=λl:Y0S=>l.length≤1) (λO=>YW) Zgs
 |c o=>exact λt c=>LI (m:=1) (F:=YOG) az λx=>bV 1
 |u o a ai=>
  refine λt c=>LI (m:=oU a) (F:=ZkK) az YsU;show(kB [YkR] x [t]).length≤oU a
  cases x with
  |nil=>exact Cf a
  |cons k aZ=>exact au (xm (m:=oU a) λt O=>ai t k) ZKY
 |b o a b eh eQ=>
  refine λt c=>LI (m:=ZVy) (F:=ZkJ) az YsU;show(kB Z9g x [t]).length≤ZVy
  cases x with
  |nil=>exact Hx (Cf a) Z39
  |cons k aZ=>
   have ak:=au (xm (l:=[t]) (f:=YsM) λt O=>eh t k) ZKY
   cases aZ with
   |nil=>exact au ak (acz _ Z39)
   |cons du aZ=>exact au (xm λt O=>eQ t du) (mI _ ak)
theorem arU(q:cE):sO Y8v=true:=by cases q <;> rfl
theorem arV(pl:Y2C):(pl.map bB).all sO=true:=by
 induction pl with
 |nil=>rfl
 |cons q pl ai=>exact lF ⟨arU q,ai⟩
theorem Cg(pl:Y2C):hv Yo4=true:=by
 cases pl with
 |nil=>rfl
 |cons q pl=>cases q <;> rfl
def WT(pl:Y2C):Nat:=pl.rec 0 λp O n=>YI9+n
theorem arW(p:cE):∀t c,∀dg∈fk nod p t c,dg.length≤ZbA:=by
 have K:∀{o n c:Nat}{t:Tab}{F:YRc}{m:Nat},(∀x:a8,∀dg∈Z3o,ZLF)→∀dg∈ZXg,ZLF:=λ{o n c t F m}h dg bq=>(rj bq).elim λx z=>by
  cases q:YqS with
  |true=>replace z:=YQa;exact h x dg z.2
  |false=>replace z:=YQa;exact ZDM
 induction p with
 |v n=>
  intro t c dg bq;have bq:dg∈YJQ YRr YsQ:=bq
  cases q:Y9b with
  |none=>replace bq:=pf q bq;exact aX YL2 ZEH
  |some w=>
   replace bq:=pf q bq
   cases e:w==c with
   |true=>have bq:ZLH:=bq;replace bq:=pf e bq;exact aX YL2 Y1I
   |false=>have bq:ZLH:=bq;replace bq:=pf e bq;exact absurd bq cS
 |c o=>exact λt c=>K (F:=YOG) λx dg bq=>aX YL2 YW
 |u o a ai=>
  refine λt c=>K (m:=vars a) (F:=ZkK) Zkp;generalize x.2=l at bq
  cases l with
  |nil=>exact ZCJ
  |cons k aZ=>exact Yyc λt1 z=>ai t k dg ZGT
 |b o a b eh eQ=>
  refine λt c=>K (m:=vars a+vars b) (F:=ZkJ) Zkp;generalize x.2=l at bq
  cases l with
  |nil=>exact ZCJ
  |cons k aZ=>cases aZ with
   |nil=>exact Yyc λt1 z=>au (eh t k dg ZGT) ZIQ
   |cons du aZ=>
    exact(rj (show dg∈(Z9q YsM).flatMap λt=>fk nod b t du from bq)).elim λt1 z=>(rj z.1).elim λcy w=>au (eQ t1 du dg z.2) (au (h7 (eh t k t1 (bR w.1▸w.2)) _) ZKZ)
theorem arX{S:bu}(D:Y2p){c:Nat}{x:a8}(aq:YY6)(C:Y6P=ZUw)(h:∀v,v∈Y6P↔v∈YV1):(∀j∈x.2,ZRy)∧YII:=(qP.mp ((h x).mp aq)).elim λi z=>z.elim λy z=>by
 exact aa Z3 (⟨λj aM=>Ywm,by show(Yqp S.f).length≤2;exact aj YF ((D.3 i y z.1).2.1)⟩)
abbrev WU(S:bu):Y1:=hR (∀c x,YY6↔x∈YV1) (∀c,(hk S c).length≤13)
def tG(S:bu)(o:Nat)(pl:Y2C)(t:Tab)(x:a8):Y0S:=cond ZeK ZSn []
abbrev arY(mh:ag)(L:Yd)(F:YRv)(w a c o ff cO:Nat)(jD:V)(vs:Y3)(r:bG)(m:ag)(P:Y1):Y1:=∀(done rest:Yd)(acc:Y3)(x0 c6 cT eY:Yp),L=ZLP→vs=rest.map bO→ZU6→jC m acc (done.flatMap F)→Y7L→ZU4→r=[Y6a,Y05,Y57,some jD,YHo,none,YN8,x0,c6,cT,eY]→P
abbrev WV(mh:ag)(L:Yd)(F:YRv)(w a c o ff cO:Nat)(jD:V)(vs:Y3)(r:bG)(m:ag):Y1:=∀P:Y1,arY mh L F w a c o ff cO jD vs r m P→P
abbrev arZ(S:bu)(mh:ag)(L D:Yd)(F:YRv)(X:Y0S)(pl:Y2C)(acc:Y3)(w a c o ff cO:Nat)(jD LJ:V)(Ci:Y3)(r:bG)(m:ag)(P:Y1):Y1:=∀(ly:Y2C)(aZ:YV)(ts:Y0S)(b tg:Nat)(pR:Y3)(eg d1:Yp),Ci=qr Y4k ZTz→(∀q∈ly,q∈pl)→aZ.length=ly.length→(∀j∈aZ,ZRy)→kB (ly.map ZOK) aZ ts=X→(∀dg∈ts,dg.length+WT ly≤100)→ts.length*F6 ly≤1000→m b=some (tg,Y5 pR)→jC m pR ts→ZU6→jC m acc (D.flatMap F)→Y7L→ZU4→r=[Y6a,Y05,Y57,some jD,YHo,none,YN8,some LJ,Y6Z,eg,d1]→P
abbrev ar0(S:bu)(mh:ag)(L D:Yd)(F:YRv)(X:Y0S)(pl:Y2C)(acc:Y3)(w a c o ff cO:Nat)(jD LJ:V)(Ci:Y3)(r:bG)(m:ag):Y1:=∀P:Y1,arZ S mh L D F X pl acc w a c o ff cO jD LJ Ci r m P→P
theorem Cj{g:G}{k:Nat}{A:b9}{S:bu}{pend:YV}(K:YN)(F:YZ)(D:Y2p)(az:Y2j)(LK:WU S){w o:Nat}{pl:Y2C}{p:cE}(kC:Zk=YCB)(ar:Y3q)(aO:ZVZ)(wM:pl.length≤2)(ah:F6 pl≤1000)(n6:oU p≤400000)(E0:YI9=WT pl)(jO:∀t c,ZOM=qR Y2q o pl.length ZkI t c)(kY:∀q∈pl,n5 g (k+6) A S w q):n5 g (k+7) A S w p:=λ{mh Q a c t}W aD bq ar1 hf h=>by
 obtain⟨pS,hw⟩:=W.1;have aP:Yux≤1000001:=aj g5 (aT YF (au (dX wM) Y2))
 suffices key:∀jD,jD=Zk→aU g (k+7) 221 [Y64,YA,Y3Y,jD] mh Q from ZT6
 intro jD Ck;have LL:=Z3A;subst LL;have ao:∀{Q':Yj}{m:ag},Z6v→aU g (k+6) 86 [YCB] m Q':=λ{Q' m}h=>by
  exact jL Ck ZfX
 refine Y02;intro gb gc gd;refine el ⟨aP,_,rfl,ZMl⟩;show a6 (aU g (k+6)) Uv [Y6a,Y05,Y57,ZZs,YHo,none,none,none,none,none,none] mh _ _;refine Yt;intro arP;refine el λff WW=>Zmk
 have f1:aB no mh ZcU:=aB.new WW;have ke:=bw mh ff Y4W;generalize ZcU=m1 at f1 ke ⊢;have W1:=Yf2;refine nj rfl ZNj rfl W1.2.1 (e5 rfl (arK K F W1.2 D az ar1 λcO aH fK f2=>?_));rw[hf]at fK;have ei:(qR Y2q o pl.length ZkI t c).length≤500000:=by
  exact bN ZS7 (au (WS LK.2 p t c) (au n6 Y2))
 refine⟨_,_,fK,WV mh Y6P YHv w a c o ff cO YCB,
  (λO bA=>bA ([]) Y6P ([]) none none none none rfl rfl (f2 _ _ ke rfl) rfl Y7i fK rfl),Y3j,ZkW⟩
 ·refine ZHJ;subst LM;refine Yb;have fB:YoZ:=Z3M;replace aJ:=ZGB;refine⟨Zmi,cZ (bc rfl (h ff 8 m acc ke (aL ZS7 ?_) cz))⟩;dsimp only [qR];exact bW aJ R
 ·refine ZHJ;subst LM;refine ax (⟨Zmi,?_⟩)
  cases rest with
  |nil=>exact ZDG
  |cons x rest=>
  have aC:=g4 aC;refine d9 YAM ?_;have WX:=arX D (ZCj:YY6) rfl (LK.1 c);have vl:Yuy≤1000001:=aj g5 (aT YF (au (dX WX.2) Y2));have c1:Y6P=ZLO++rest:=ZHj
  have skip:∀(ab:ag)(gC:Y3),ab ff=some (8,Y5 gC)→jC ab gC YwZ→Y0G→ab cO=some (0,Y5 (YxE bO))→∀x0 c6 cT eY:Yp,WV mh Y6P YHv w a c o ff cO YCB vs [Y6a,Y05,Y57,ZZs,YHo,none,YN8,x0,c6,cT,eY] ab:=
   λab gC ak av aP da x0 c6 cT eY=>(λO bA=>bA ZLO rest gC x0 c6 cT eY c1 YAN ak av aP da rfl)
  have eA:∀l,tG S o pl t x=l→YwZ=done.flatMap YHv++l:=λl e=>aj rg (aX Ydh (dU Dt (aX Y1U Yin)));refine t1 (en ⟨vl,_,rfl,rfl,?_⟩);by_cases il:x.1=o
  ·refine lS (show b8 YCA ZE=true by exact gT il (iI _)) ⟨vl,aP,rfl,?_⟩;have kd:b8 (V.int ((Yuy:Nat):Int)) (V.int ((Yux:Nat):Int))=YqX:=by
    exact aa g5 (aa YF (aa g5 (aa YF (YJK Z5g))))
   by_cases ck:Y3O=pl.length
   ·refine lS (kd.trans (beq_iff_eq.mpr ck)) (el Zhh);have fn:aB no m Zc6:=Y8p;have Cm:=bw m b0 Ytt;have WY:=R.dq fn rfl;have k8:=fn _ _ (cz _ _ aD rfl) rfl;have WZ:=fn _ _ ke rfl;have W0:=fn _ _ zx rfl;have f0:=cz.trans fn;generalize Zc6=m0 at Cm WY k8 WZ W0 f0 ⊢;refine arO (d6 (bc rfl ⟨Y1X,vl,qJ _,d6 (bc rfl ⟨Y1X,aP,Cg pl,by show(pl.map bB).length=(a4 x.2).length;exact aL YF (aj YF (ck.symm)),K1 _,arV pl,?_⟩)⟩));refine⟨ar0 S mh Y6P done YHv ZSn pl acc w a c o ff cO YCB Y4r,
     (λO bA=>bA pl x.2 ([t]) b0 0 Y8j cT eY rfl YBZ ck WX.1 rfl (λdg Cn=>gT (bR Cn) (bN E0 bq)) (aT sx (aj (NJ ..) ah)) Cm (Y1L k8) WZ WY f0 W0 rfl),ZkB,λv Ci r m z=>YZO⟩
    ·refine bp λax=>z _ λly aZ ts b tg pR eg d1 kZ O qL O Co O O d7 oT r2 qS f4 LN LO=>?_;subst LO;refine Yb;have i5:aZ=[]:=by
      cases aZ with
      |nil=>rfl
      |cons k aZ=>cases ly with
       |nil=>exact absurd qL Y7q
       |cons q ly=>
        have kZ:[]=qr (ay k::Y4k) ZFw:=kZ;replace kZ:=ZG7;exact absurd kZ.symm Y03
     have eq:ly=[]:=p5 (by rw[←qL,i5];rfl);replace Co:=Av eq (eT i5 Co);have Bn:=eA _ (LF (b:=ZeK) (P:=λl=>l=ts) (λO=>Co.symm) λaF=>by replace aF:=eT Y3E (bN Y3E (yj ck (OR il aF)));exact nb aF);have gY:acc.length+pR.length≤1000000:=by
      refine aT qS.len (aX oT.len (aQ cj (bN Bn ?_)));dsimp only [qR]at ei;replace ei:=aQ cj (bN rg (k7 c1 ei));exact au (au Yk ei) Y2
     refine Yt;intro aq7;refine hO (mx (bc rfl ⟨⟨8,acc,r2⟩,e5 rfl ⟨_,_,r2,_,_,d7,gY,f9 (f9 (skip _ _ Yc ?_ ?_ (cg r2 LN) Yp5 _ eg d1))⟩⟩))
     ·refine aL Bn ?_;have fr:aB (λt=>t==8) m (upd m ff (8,Y5 ZDQ)):=aB.at r2 rfl;exact(qS.dq fr rfl).app (oT.dq fr rfl)
     ·intro kO o' zy _;exact aj (dE (λq=>by replace zy:=aQ WW (bN q zy);exact cW zy.symm)) (f4 _ _ zy rfl)
    ·refine bp λax=>z _ λly aZ ts b tg pR eg d1 kZ W2 qL W3 Co W4 ar2 d7 oT r2 qS f4 LN LO=>?_;subst LO;refine Yb
     cases ly with
     |nil=>
      have i5:aZ=[]:=p5 qL;replace kZ:=OO i5 kZ;exact absurd kZ Y03
     |cons q ly=>cases aZ with
      |nil=>exact absurd qL.symm Y7q
      |cons dC aZ=>
       have kZ:v::Ci=qr (ay dC::Y4k) ZFw:=kZ;replace kZ:=ZG7;have kZ:=g4 kZ;refine d9 kZ.1 ?_;have aF:=W2 q b3;have W5:=W3 dC b3;have l1:(ts.flatMap λt=>fk Y2q q t dC).length≤ZbT:=xm λt O=>WS LK.2 q t dC;have l2:ZbT*F6 ly≤1000:=aj Ycn ar2;exact cy (FR (arQ (kY q aF) (W.no f4) rfl rfl rfl rfl d7 oT (λdg Cn=>au ZIQ (W4 dg Cn)) W5.1 W5.2 (au l1 (au (acz _ (arT ly)) YSW)) λkO ab gC r1 sE gL=>f9 (λO bA=>bA ly aZ _ kO 0 gC (some (ay dC)) YXE kZ.2 (λq h=>W2 q (eI _ h)) (oc qL) (λj aM=>W3 j ZME) Co (λdg Cn=>(rj Cn).elim λt1 z=>au (h7 (arW q t1 dC dg z.2) _) (au ZKZ (W4 t1 z.1))) (au (mI _ l1) l2) r1 sE (gL _ _ r2 rfl) (qS.dq gL rfl) (f4.trans gL) (gL _ _ LN rfl) rfl)))
   ·refine iP (kd.trans ZGy) (f9 (f9 (skip m acc ke (aL (eA [] (by unfold tG;refine OT ZGy (dT YgW ?_);rfl)) ZBK) cz zx Yp5 c6 cT eY)));exact R
  ·refine iP (ic λe=>il YAH) (iP (b:=false) rfl (f9 (f9 (skip m acc ke (aL (eA [] (by unfold tG;refine wi (beq_false_of_ne il) ?_;rfl)) ZBK) cz zx Yp5 c6 cT eY))));exact R
theorem k0(L:ZC)(kv:Y6h)(Inv:ZC→Y5U){cl:Calls}{t:dY}{w:Bool}{b s:S}(h0:Inv [] r m)(az:∀d r m,YdN→Y3I)(step:∀d x rest,L=YCw→∀r m,YdN→∀K:hg,(∀dv aH,Inv YAc dv aH→K dv aH)→j3 t w Y3t r λb6=>a6 cl b b6 m K Qr)(fin:∀r m,Inv L r m→Y4C):
  ∃P:Y2i,P Ydf r m∧Zm3∧∀v vs r m,Y7F→Y3I∧j3 t w v r YIe:=
 ⟨λvs r m=>∃d rest,L=YLL∧ZdA∧YdN,Zmr,λr m z=>z.elim λd z=>z.elim λrest z=>⟨ZFS,fin r m (by
  have e:=z.1;replace e:=ZGA;exact ZCt)⟩,λv vs r m z=>z.elim λd z=>z.elim λrest z=>⟨ZFS,by
  cases rest with
  |nil=>exact ZDN
  |cons x rest=>
   have e:=g4 Z4;exact d9 e.1 (step d x rest z.1 r m Z3 _ λdv aH h=>ZnG)⟩⟩
inductive LP(p:Z5o)(X:Y1)(r:bG):Y1
 |mk (h:X) (x0 c6 cT eY:Yp) (e:r=p x0 c6 cT eY)
inductive ar3(p:Yp→Yp→Z5o)(X:Y1)(r:bG):Y1
 |mk (h:X) (x0 c6 cT eY fl e0:Yp) (e:r=p x0 c6 cT eY fl e0)
def gF(p:Y0j):V:=YD [YQA,Y7W]
def dr(t:Tab):V:=YD Y5k
def jE(t:Tab):Y1:=∃x,t=YAJ∨∃y,t=Yf7
theorem ar4{a b:Y0j}(h:Ykd=Yke):a=b:=by
 have h:=g4 Yex;exact iF Z8H (nW (g4 h.2).1)
theorem zz{a b:Tab}(h:YGW=YjM):a=b:=K0 (λO O=>ar4) Yex
theorem LQ(t:Tab):YxL=Y5k:=kJ
theorem jE.one{P:Tab→Y1}{t:Tab}(h:Y3s)(ak:∀x,P YAJ)(av:∀x y,P Yf7):P t:=h.elim λx z=>z.elim (λe=>aa e (ak x)) λz=>z.elim λy e=>aa e (av x y)
theorem W6(a b:Y0j):ZUC=true:=lF ⟨rfl,by
 show cond ZFi (mq [ay a.2] [ay b.2]) true=true
 cases ZFi with
 |false=>rfl
 |true=>exact WC [a.2] [b.2]⟩
theorem W7(l l':Tab):ZUp=true:=by
 induction l generalizing l' with
 |nil=>rfl
 |cons a l ai=>cases l' with
  |nil=>rfl
  |cons b l'=>
   refine lF Y3z;show cond ZFq ZUp ZUC=true;refine aT Ygn (aX (W6 ..) ?_);cases ZFq <;> rfl
theorem jE.cmp{t:Tab}(h:Y3s):m5 Y5k:=⟨λa aD b ah=>Y8K λx z=>YOn λy w=>z.2▸w.2▸W6 x y,
 h.one (P:=λt=>∀a∈Y5k,YpT) (λx a aD=>YhX▸rfl) λx y a aD=>Ywc Yrl λh=>Y1T▸rfl⟩
theorem ar5:eF (Y4 4) YF9=false:=ZL
theorem jE.ar6{t:Tab}(h:Y3s):j9 Y5k:=h.one (P:=λt=>j9 Y5k) (λx=>YRB) λx y=>Dx ⟨λa aD=>by refine aT YhX ?_;exact ar5,YRB⟩
theorem W8{t:Tab}(h:Y3s)(q:∀p,m p=none→Q Y0V (upd m p (0,Y5 Y5k))):wW YxL m Q:=by
 exact d9 (LQ ..) (⟨⟨h.one (P:=λt=>YBr<64) (λO=>(Y2:1<64)) λO O=>(Y2:2<64),h.cmp,h.one (P:=λt=>∀a∈Y5k,ZKd) (λx a aD=>YhX▸YtC) λx y a aD=>Ywc (λe=>e▸YtC) λh=>Y1T▸YtC⟩,λl pl hM p ar=>⟨0,aa (JX h.cmp pl hM h.ar6) (q p ar)⟩⟩)
theorem ar7{t:Tab}(h:Y3s):ZP1:=h.one (P:=λt=>ZP1) Zm Y2M
theorem W9{l:Y0S}(h:∀t∈l,Y3s):m5 (l.map dr):=⟨λa aD b ah=>Y8K λx z=>YOn λy w=>z.2▸w.2▸YPJ (W7 x y),
 λa aD=>Y8K λx z=>z.2▸YZj (Yx8 (P:=λt=>strsOk Y5k=true) Zm Y2M)⟩
theorem jC.zip{acc:Y3}(h:YVD):∃Z:Z5B,acc=Z.map Zl9∧ts=Z.map Y1w∧∀z∈Z,TabAt m z.1 z.2:=by
 induction ts generalizing acc with
 |nil=>exact⟨[],h,rfl,YZ4⟩
 |cons t ts ai=>exact h.elim λa z=>z.elim λr z=>(ai Z3).elim λZ w=>⟨(a,t)::Z,by rw[z.1,w.1];rfl,by rw[Y3i];rfl,λy bb=>(dz bb).elim (λe=>aa e Z4) (Y3M y)⟩
def vm(us:Y0S):dm:=us.map λt=>(Y24,Y0h)
theorem ar8{us:Y0S}{t:Tab}(n:us.Nodup):∃d0:Y0S,ZLw=vm d0∧d0.Nodup∧∀x,x∈d0↔Yqo∨x=t:=by
 induction us with
 |nil=>exact⟨[t],rfl,Y7t,λx=>z8.trans (or_iff_right cS).symm⟩
 |cons a us ai=>
  have n:=uk n;have e:eE (vm (a::us)) Y24 Y0h=cond (b8 YGW Y24) (Ywa::Yq9) (Ywa::ZLw):=rfl;refine Y4n;by_cases q:a=t
  ·exact aa q (aa Y3r (⟨t::us,rfl,ma ⟨aV q n.1,n.2⟩,λx=>⟨YY,λh=>h.elim id λh=>aa h b3⟩⟩))
  ·exact aa (ic λh=>q (zz h)) ((ai n.2).elim λd0 z=>⟨a::d0,congrArg (_::·) z.1,ma ⟨λh=>((Z3 a).mp h).elim n.1 q,Z4⟩,λx=>aj YHZ (dS YHZ (aX (propext (Z3 ..)) (or_assoc.symm)))⟩)
abbrev Cp(S:bu)(p:cE):Y1:=hR (∀c t,t∈YkQ→Y3s) (∀c(us:Y0S),us.Nodup→(∀t∈us,t∈YkQ)→ZcY)
noncomputable abbrev rowsOf (S:bu) (p:cE) (c:Nat):Y0S:=mz dr YkQ
inductive ar9(b:Nat)(bF:ag)(ll:Y5N)(d:Z5B)(r:bG)(m:ag):Y1
 |mk (da:∀x o,x≠b→bF x=YB→m x=YB) (us:Y0S) (ak:m b=some (8,Y9 5 Yq9)) (av:us.Nodup) (aP:∀t,t∈us↔t∈d.map Y1w) (fl:Yp) (fB:r=ll fl)
theorem asa{A:b9}{S:bu}(K:YN)(F:YZ)(ar:YQX)(aO:Zd2){w:Nat}(jO:ZV5)(W:YNi)(D:Y2p)(az:Y2j){c:Nat}(ao:Y2m)(h:∀b aW,YCc=some (0,Y5 ((rowsOf S p Y49).map dr))→Y7K):aU g YmN 228 [Y64,Y3Y,Zk] mh Q:=by
 refine YM;obtain⟨pS,hw⟩:=W.1;refine ax Y02;intro gb gc gd;refine el λb ah=>Zmk
 have f1:aB no mh ZcR:=Y11;have ip:=bw mh b YuD;generalize ZcR=m1 at f1 ip ⊢;refine jS rfl ZNj (aw Zhh);have f2:aB no m1 ZcB:=Y8p;have Cm:=bw m1 b0 (0,YPV);generalize ZcB=aH at f2 Cm ⊢;have lK:=W.no Y7i;refine aw (nj rfl (Y7i _ _ hw rfl) rfl lK.2.1 (e5 rfl (WB K F lK.2.1 lK.2.3 Y07 ao (e5 rfl (jO (t:=[]) lK Cm (aT Hl (aj YDb aO)) (YA8 ao) (D.1.2 c ao) λgg tg bF acc iQ R cz=>YM)))));obtain⟨Z,rfl,Cq,Bo⟩:=R.zip;refine Yb;have r1:=ZK8;refine⟨tg,_,iQ,k0 Z Zl9 (ar9 b bF λfl=>[Y6a,Y57,ZaD,Y6Z,fl]) ⟨λO O O h=>h,[],r1,lC,λt=>Hs,none,rfl⟩ (λd r m z=>⟨tg,z.1 _ _ Y5E iQ⟩) (λd x rest e r m z K e8=>?_) Y3j⟩
 ·replace iQ:=aQ r1 (bN e iQ);exact ct.noConfusion (gQ (cu iQ)).2
 ·refine YM;obtain⟨da,us,ak,av,aP,fl,rfl⟩:=z;refine Yb;have aq:x∈Z:=Y1o;have bq:=Y8s _ _ (aa Cq ZTH);have vl:=Bo x aq;have hlen:ZcY:=Y7T Y49 us av λt bq=>by
   refine aj Cq (bW e ((ee YZy).elim λy q=>kp ⟨y,ko _ q.1,q.2⟩))
  refine t1 (tq (cst (bc rfl (d6 (d6 (bc rfl ⟨_,_,_,da _ _ Y5E vl,rfl,W8 bq λcO fK=>⟨_,_,Yc,?_,?_,⟨8,5,_,cY fK ak,ar7 bq,?_,f9 (e8 _ _ ?_)⟩⟩⟩))))))
  ·have aC:=cA r1 (aV e vl);exact absurd ZJo Yw5
  ·exact bq.one (P:=ZkQ) Zgg ZgE
  ·exact ZHL
  ·exact aj YF (au hlen Y2)
  ·refine YM;obtain⟨d0,aJ,aC,c1⟩:=ar8 (t:=x.2) av;refine ax (⟨λy o bb aA=>?_,d0,aa aJ Yc,aC,λt=>?_,_,rfl⟩)
   rotate_left
   ·exact aj (propext (c1 ..)) (aT (propext YS9) (dS dK (aL YMk (or_congr Hs z8.symm))))
   ·exact aj (dE bb) (cY fK (da y o bb aA))
 ·obtain⟨da,us,ak,av,aP,fl,rfl⟩:=z;rw[←Cq]at aP;have ok:∀t∈us,Y3s:=λt bq=>Y8s _ t YZy;have hlen:=Y7T _ us av λt bq=>YZy;have i5:YzF=us.map dr:=kJ;refine cZ (d6 (bc rfl ⟨_,_,_,ak,?_⟩));show wW (YzF) m Q;refine d9 i5 (⟨⟨ZHh,W9 ok,λa aD=>Y8K λt z=>z.2▸(ok t z.1).one (P:=λt=>dI Y24 8=true∧Y24≠Y35) Zgv ZgL⟩,λl pl hM nd asb=>Y4V⟩);obtain⟨d0,rfl⟩:=WG λv aO=>pl.mem_iff.mp aO;have fB:rowsOf S p Y49=d0:=WE YO5 (W9 λt bq=>Y8s _ t bq) ((qQ YO5).mp (pl.nodup_iff.mpr ((qQ YO5).mpr av))) (λt=>by
   rw[←aP,←F5 (kv:=dr) YO5,pl.mem_iff,F5 (kv:=dr) YO5]) hM
  refine h nd _ (aa fB Yc) λx o aq O=>cY asb (da x o Y5E (cz _ _ (f2 _ _ (f1 _ _ aq rfl) rfl) rfl));replace aq:=aQ ah YhT;exact cW aq.symm
theorem LR(kv:Y6h)(l:ZC):Ysv:=by
 induction l with
 |nil=>exact⟨[],lC,λO=>Hs,Hk⟩
 |cons x l ai=>
  refine YM;obtain⟨us,n,m,r⟩:=ai;refine Yb;by_cases q:Yqo
  ·exact⟨us,n,λv=>(m v).trans ⟨eI _,λh=>YBk (λe=>aa e ((m x).mp q)) id⟩,r⟩
  ·have bI:us.Pairwise λa b=>ZM1=false:=HC r;have oB:∀v,v∈ZcW↔Y9c∨v=x:=λv=>by
    (refine aj YMk (aX YHZ (aT ZX2 ?_));rw[Dh])
    refine⟨λh=>h.elim ZiU λh=>h.elim YJ ZiU,λh=>h.elim Y6j λh=>Z0P⟩
    cases c:eF (kv v) Y3t with
    |true=>exact YY ZnO
    |false=>exact YJ (YJ ZnO)
   refine⟨ZcW,?_,λv=>?_,?_⟩
   ·refine Dz ⟨ZV3,ma ⟨λh=>q Yoc.1,ZV3⟩,λa aD b ah e=>?_⟩;have aD:=Yob;rcases YLS with h | h
    ·exact q (aV h (e▸aD.1))
    ·have h:=Yoc.2
     (rw[←e]at h;replace h:=bN aD.2 h);exact Y0L
   ·exact aj (propext (oB ..)) (aT (propext (m ..)) (aL YHZ ZWG))
   ·refine yg (OJ ⟨ZG4,Dx ⟨λa aD=>jY _ |>.mp Yob.2,ZG4⟩,Zh3⟩);have aD:=Yob.2;rcases YLS with h | h
    ·exact aa h (JW aD)
    ·cases c:ZM1 with
     |false=>rfl
     |true=>
      have h:=Yoc.2;replace h:=bN (JU _ _ _ c aD) h;exact Y0L
theorem qT(kv:Y6h)(l:ZC):(mz kv l).Nodup∧(∀v,v∈YVo↔YNa)∧j9 ((mz kv l).map kv):=by
 have e:YVo=(LR kv l).choose:=dif_pos (LR kv l);rw[e];exact(LR kv l).choose_spec
abbrev fT:=Ye7
def h4(h:fT):V:=YD [ay h.1,ZLS]
def F7(S:bu)(p:cE):Y1P:=(roots S.N.length S.f).flatMap λc=>Yav YsK
theorem Xa{S:bu}(ar:YQX)(c:Nat):(rowsOf S p c).length≤13:=Y7T c _ YoJ.1 λt bq=>YZX bq
theorem asd{A:b9}{S:bu}(K:YN)(F:YZ)(ar:YQX)(aO:Zd2){w:Nat}(jO:ZV5)(W:YNi)(D:Y2p)(az:Y2j)(h:∀b aW,YCc=some (0,Y5 YuP)→Y7K):aU g ZSd 233 [Y64,Zk] mh Q:=by
 refine YM;obtain⟨pS,hw⟩:=W.1;refine Yb;have LS:(a4 Yod).flatMap ZkY=YuP:=by
  exact aj (List.flatMap_map ..) (aL List.map_flatMap (congrArg (ND · _) (funext λc=>(kJ (f:=YsK) (g:=h4)).symm)))
 refine Y02;intro gb gc gd;refine cZ (WN (nj rfl hw rfl W.2.1 (aS (aqW K F W.2.1 W.2.3 Y07 λb m1 ah f1=>⟨_,_,ah,zh _ ZkY [] ZjN ?_ (λm hm=>⟨0,hm.go ah⟩) Yy (λv LU acc m N aD hm cf=>?_) λm hm e2 d7=>⟨0,h e2 _ (aa LS Yc) (Ywz Y5R)⟩⟩))))
 ·exact au (xm (m:=13) λv O=>aj YF (Xa ar _)) (au (mI 13 (show(a4 Yod).length≤13 from(aj YF ZEc))) (Y2:13*13≤1000000))
 ·refine(jm LU).elim Yrf;obtain⟨ao,rfl⟩:=z;have ao:=pL.mp ao;have W1:=W.no (f1.trans hm);obtain⟨t1,F8⟩:=W1.1;refine WO (jS rfl F8 (oS rfl rfl (asa K F ar aO jO W1 D az Y7S λe2 aH d7 f2=>?_)));rw[ao.2]at d7;have zA:(Yav dr).flatMap Zka=Yav λt=>h4 (c,t):=by rw[List.flatMap_map,ayJ];rfl
  refine⟨_,_,d7,zh _ Zka acc Ys5 ?_ (λm hm=>⟨0,ZCC⟩) rfl (λv aO acc m N aD hm cf=>?_) ZjK⟩
  ·exact dU zA (aj cj aD)
  ·subst hm;exact Y9l λt z=>z.2▸bQ (oS rfl rfl ⟨(Y8s c t (YZX z.1)).one (P:=ZkS) Zm Y2M,ZEf,aa z.2 (cf _ rfl)⟩)
  ·subst e;exact aX zA (cf _ ZQg)
theorem kf(L:ZC)(kv:Y6h)(Inv:ZC→Ys){vb:Y3}{K:Ys}{T:YKS}(h0:Inv [] vb m0)(az:∀d acc m,YdM→Y3I)(step:∀d x rest,L=YCw→∀acc m,YdM→∀N:Ys,(∀gC ab,Inv YAc gC ab→N gC ab)→T Y3t acc m N)(fin:∀acc m,Inv L acc m→YdT):∃P:Y1O,P Ydf vb m0∧YVG:=
 ⟨λvs acc m=>∃d rest,L=YLL∧ZdA∧YdM,Zmr,λacc m z=>z.elim λd z=>z.elim λrest z=>⟨ZFR,fin acc m (by
  have e:=z.1;replace e:=ZGA;exact ZCt)⟩,λv vs acc m z=>z.elim λd z=>z.elim λrest z=>⟨ZFR,by
  cases rest with
  |nil=>exact ZDN
  |cons x rest=>
   have e:=g4 Z4;exact cb e.1 (step d x rest z.1 acc m Z3 _ λgC ab h=>ZnG)⟩⟩
def eR(o:Nat)(r:Y8a):YR5:=(zj r.1 Y6r,rS r.1 Y6r)
def putN(t:Tab)(p:cE):Yd→YR5:=p.rec (λn N=>(N,YBp)) (λo N=>eR o YBe) (λo O A N=>eR o ((A N).1,[(A N).2])) λo O O A B N=>eR o (Z2i.1,[(A N).2,Z2i.2])
def putL(t:Tab)(ps:Y2C):Yd→Y8a:=ps.rec (λN=>YBe) λp O ai N=>(ZDh.1,YBn::ZDh.2)
theorem vn{t:Tab}(d:Y2C)(q:cE)(N:Yd):putL t Yix N=(ZXM.1,Y7w.2++[ZXM.2]):=by
 induction d generalizing N with
 |nil=>rfl
 |cons p d ai=>
  have e:putL t (p::Yix) N=(ZXG.1,YBn::ZXG.2):=rfl;rw[Oj,e,ai];rfl
theorem Cr{x:a8}(bZ:N.Nodup)(h:Ye5):ZfR:=by
 have aq:=YUF;refine⟨if_pos aq,?_⟩;obtain⟨i,e,af⟩:=w6 aq;unfold rS;refine YCa;exact(xX Y4J bZ).mp (af.trans h.symm)
theorem zB{x:a8}(h:x∉N):ZfQ:=⟨Ylo,by unfold rS;refine aT YdV ?_;rfl⟩
abbrev tH(N:Yd)(n:Nat)(M:Yd):Y1:=jd M.Nodup YBb (M.length≤N.length+n)
theorem tH.le{M:Yd}{n:Nat}(W:tH N n M):Z5U:=Z8b Yra
theorem tH.trans{M Cs:Yd}{b:Nat}(W:tH N a M)(lK:tH M b Cs):tH N (a+b) Cs:=⟨lK.1,Z8b λX e=>lK.2.elim Zh1,au lK.3 (bL ZO (h7 W.3 _))⟩
theorem pT{o:Nat}{r:Y8a}(bZ:r.1.Nodup):tH r.1 1 Y6p∧Y8J<Ywk∧Y6p[Y8J]?=some Y6r:=by
 by_cases h:YP6
 ·obtain⟨i,e,af⟩:=w6 h;have w:=Cr bZ af;have aJ:YOm:=w.1;have aC:Y8J=i:=w.2;rw[aJ,aC];exact⟨⟨bZ,YBc,Y1I⟩,Y4J,af⟩
 ·have w:=zB h;have aJ:YJC:=w.1;have aC:YaI:=w.2;rw[aJ,aC];exact⟨⟨Dz ⟨bZ,Y7t,λa aD b ah e=>h (by refine bL YCp ZGF;exact aD)⟩,YOM,by refine YKq;exact YW⟩,by refine ZBO;exact YDo,ug⟩
def eS(t:Tab)(n:Nat)(p:cE):Y1:=p.rec (λv=>∃c,YXS∧c<n) Y5n Zg8 λO O O a b=>a∧b
theorem lX{t:Tab}{n m:Nat}(h:YB5):YLX→eS t m p:=by
 induction p with
 |v x=>exact λz=>z.imp λc z=>⟨z.1,ew z.2 h⟩
 |c o=>exact id
 |u o a ai=>exact ai
 |b o a b eh eQ=>exact λz=>⟨eh z.1,eQ z.2⟩
theorem kg{t:Tab}:∀{N:Yd},N.Nodup→YAj→tH N ZV Y6s∧YBn<YyE:=by
 induction p with
 |v x=>exact λ{N}bZ h=>⟨ZnC,h.elim λc z=>by show YBq<N.length;exact aT z.1 z.2⟩
 |c o=>exact λbZ h=>⟨ZWl.1,ZWl.2.1⟩
 |u o a ai=>exact λbZ h=>⟨Ygo.1.trans (pT (o:=o) (r:=Yv2) Ygo.1.1).1,(pT (r:=Yv2) Ygo.1.1).2.1⟩
 |b o a b eh eQ=>
  intro N bZ h;have ak:=(eh bZ h.1).1;have av:=(eQ ak.1 (lX ak.le h.2)).1;exact⟨(ak.trans av).trans (pT (o:=o) (r:=(_,YRn)) YG3).1,(pT (r:=(_,YRn)) YG3).2.1⟩
abbrev n7(S a7:bu):Y1:=Ak (∃X,a7.N=S.N++X) YLV Zlr Z7f (∀P,YHI→lu a7.N P a7.f) (YCZ+S.N.length≤Y1Q+a7.N.length) Yeg
theorem n7.refl{S:bu}(D:Y3a):n7 S S:=⟨YBc,D,Y2M,id,YBZ,YW,YW⟩
variable{a7:bu}
theorem n7.le{S:bu}(G:YVs):YKJ:=G.1.elim Yra
theorem ase{b c x:Nat}(h:a+x≤b+y)(av:c+y≤a+d):c+x≤b+d:=Nat.le_of_add_le_add_left (a:=a) (au (dH (acB a c x)) (au (c0 h c) (au (dH (acB c b y)) (au (c0 av b) (dH (acB b a d))))))
theorem n7.trans{S qO:bu}(a:n7 S qO)(b:n7 qO cK):YnH:=⟨a.1.elim λX e=>b.1.elim Zh1,b.2,λi af=>(b.3 i (ew af a.le)).trans ZA8,λh=>b.4 (a.4 h),λP h=>b.5 P ZA9,ase a.6 b.6,au a.7 b.7⟩
theorem FZ.asf{S:bu}{x:a8}(a:FZ S x a7):YVs:=⟨⟨[x],a.1⟩,a.2,a.3,a.4,λP h=>aa a.1 ZA9,by refine fH a.1 ZGb;exact au (h7 a.6 _) (dH (by rw[dw,gi 1];rfl)),a.7⟩
variable{ps:Y2C}
theorem xn{t:Tab}:∀{N:Yd},N.Nodup→(∀p∈ps,YAj)→tH N YJL YBB.1∧(∀c∈YBB.2,c<YBB.1.length)∧YBB.2.length=ps.length:=by
 induction ps with
 |nil=>exact λbZ h=>⟨ZnC,Zhn,rfl⟩
 |cons p ps ai=>
  intro N bZ h;have ak:=kg bZ (h p b3);have av:=ai ak.1.1 λq aF=>lX ak.1.le (h q (eI _ aF));refine⟨ak.1.trans YG3,λc ao=>Ywd (λe=>aa e (ew ak.2 av.1.le)) (YG4.1 c),congrArg Y3l YG4.2⟩
abbrev xo(mh:ag)(A:b9)(S:bu)(r:YR5)(Q:Yj):Y1:=∀aW bl a7,Y4D→Y0Y→Yj2→YVs→a7.N=r.1→Q (ay r.2) aW
theorem Xb{A:b9}{S:bu}(K:YN)(F:YZ)(H:Y22)(D:Y3a)(az:Z7M)(he:Z7U){o:Nat}(aA:Y4K)(aE:YgJ)(aR:∀c∈aZ,Y2m)(hs:ZYO)(qu:Zlx)(h:xo mh A S Yjb Q):ZC2:=
 arC K F H D az he aA aE aR hs qu (λj aM m f1 H1=>by
  have w:=Cr D.2 aM;exact(w.2:Yjb.2=j)▸h m A S f1 rfl H1 YcF YID) λaq m bl a7 f1 bx H1 ad=>by
  have w:=zB aq;exact(w.2:Yjb.2=S.N.length)▸h m bl a7 f1 bx H1 ad.asf (ad.1.trans YID)
theorem F9{n hA dx sp:Nat}(ak:ZH7)(av:ZNW)(aP:YlH≤sp)(da:n+Zak≤13)(fG:e+Zak≤800000):ey+dx≤12∧bk+dx≤800000:=by
 have b:∀{x y:Nat},x≤y+hA→x+dx≤y+sp:=λ{x y}h=>au (h7 h dx) (aj ZO (c0 aP y));exact⟨au (b av) (NX da),au (b YvH) (au Y1I fG)⟩
abbrev LV(mh:ag)(w:Nat)(A:b9):Y1:=∃t,mh w=some (t,ZD 301 YKW)∧Yjf
abbrev LW(g:G)(k w:Nat)(p:cE):Y1:=∀{mh:ag}{Q:Yj}{A:b9}{S:bu}{a:Nat}{t:Tab},Ydj→Y22→Y3a→Y7H→YRT→YRW→ZMR→Zee→aU g YVJ 286 Z9R mh Q
theorem Ct{t:Tab}{n c:Nat}(h:YXQ):YiG=Y57:=by
 rw[YyI,h];rfl
theorem hD{cl:Calls}(j:Nat){x:V}(bo:Y1G=some ZZ)(aE:Y2Z)(aO:vs[j]?=YQ)(h:YFW):(bH cl (.op fi [v i,bY YaY])).1 r m Q:=bQ (aw (bc bo (aw (cst (aS ⟨aE,x,aO,h⟩)))))
theorem ash(K:YN)(F:YZ){w n:Nat}(ar:ZPL):LW g k w Y0r:=λ{mh Q A S a t}W H D aD az he ah h=>by
 obtain⟨c,ao⟩:=ah;refine Y02;intro gb gc gd;refine ZMm;show a6 _ UA [Y6a,YXD,Y05] mh YYV _;refine cZ (bQ (aw (bc rfl (aw (hD 0 rfl Y7j rfl (aS ⟨_,_,_,aD,rfl,_,Ct Y7S,?_⟩))))));have e:(putN t Y0r S.N).2=c:=by show YBp=c;refine aT Y7S ?_;rfl
 exact aV e (h mh A S Yy rfl H YcF rfl)
abbrev asi(mh:ag)(A:b9)(S:bu)(T:Y8a)(acc:Y3)(m:ag)(P:Y1):Y1:=∀(bl:b9)(a7:bu),YS1→Y0Y→ZKP→YVs→a7.N=T.1→acc=a4 T.2→P
abbrev Xc(mh:ag)(A:b9)(S:bu)(T:Y8a)(acc:Y3)(m:ag):Y1:=∀P:Y1,asi mh A S T acc m P→P
theorem LX{g:G}{k:Nat}(K:YN)(F:YZ){w o:Nat}{ps:Y2C}{p:cE}(kC:YKx)(ar:Y3q)(aA:Y4K)(aO:ZVZ)(aE:Y9S)(hd:YjI)(ah:∀{t n},ZMS)(cf:∀{t N},ZXK)(kY:∀q∈ps,∀{mh:ag}{Q:Yj}{A:b9}{S:bu}{a:Nat}{t:Tab},Ydj→Y22→Y3a→Y7H→Z7L→Z7Q→eS t S.N.length q→xo mh A S (putN t q S.N) Q→aU g YDY 286 [Y64,Y8v,YA] mh Q):Z57:=λ{mh Q A S a t}W H D aD az he n6 h=>by
 refine YM;obtain⟨pS,hw,Xd⟩:=W;refine Yb;have aP:YEX:=Yi1
 suffices key:∀jD,jD=Zk→aU g YVJ 286 [Y64,jD,YA] mh Q from ZT6
 intro jD Ck;have LL:=Z3A;subst LL;have ao:∀{Q':Yj}{m:ag},Z6v→aU g YDY 86 [Y46] m Q':=λ{Q' m}h=>by
  refine jL Ck YmU;exact ZfX
 refine ZSr;refine Y02;intro gb gc gd;refine ZMl;show a6 _ UB [Y6a,YNA,Y05] mh YYV _;refine Yt;intro asj;refine cZ (nj rfl hw rfl H.1 (aw (hD 0 rfl aP rfl (aw (tF (d6 (bc rfl ⟨Y1X,aP,Cg ps,kf ps bB (λd acc m=>Xc mh A S ZXH acc m) ZgN Y2L Zhy Y3y⟩)))))))
 ·refine ZHF;subst ni;refine Yb;have aq:YY7:=Y1o;have gv:=xn (ps:=d) D.2 Zjv;replace gv:=ZCT;have i2:=Z3v;have F8:m w=some (pS,ZD 301 [Yc7]):=aa bx (f1 _ _ hw Xd);refine my (jS rfl F8 (oS rfl rfl (kY x aq ⟨pS,F8,Xd⟩ H1 iq.2 ZNh ZEx i2.2 (lX iq.le YSM) ZhE)))
  ·refine Ygs;exact Yh1
  ·exact ZEL
  ·refine ZO2;exact(dK (f:=ay) (l₁:=ZXH.2) (l₂:=[_])).symm
 ·refine ZHF;subst ni;refine Yb;have gv:=xn (ps:=ps) D.2 Zjw;rw[←dO]at gv;have i2:=Z3u;have hE:ZXL=eR o (a7.N,YyA):=ZHp
  refine ZhX
  show aU g YDY 522 [Y1M,ZE,Y0B] _ Q;refine Z5i;refine Xb K F Z4G iq.2 i2.1 ZEg aA ZHk YUg (YJ ⟨b,0,rfl,Yc⟩) (λq dg aJ aC=>?_) ZhD
  ·replace aC:=aQ Y6I (aX Z89 aC);exact(show 0=dg from ZJo)▸rfl
  ·rw[←hE]at h5 ⊢;exact h aH gm cK ((f1.trans (Y8p:aB ea m (upd m b (0,Y5 (a4 YyA))))).trans f2) Y9K hK Ylz h5
theorem Ga{b:Nat}:k+6+YfT=k+b+7+a:=dS (fO k b 7) (aL (fO (k+7) ..) (aL (dw (k+7) ..) (aQ (dw (k+6) ..) ((fO (k+6) ..)))))
theorem asl{k:Nat}(K:YN)(F:YZ){w:Nat}(ar:Y3q):Z57:=by
 induction p generalizing k with
 |v n=>exact ash K F ar
 |c o=>exact LX (ps:=[]) K F rfl ar ar rfl Z0 rfl YrS rfl Y88
 |u o a ai=>
  have jU:=Y8x;exact @LX g k K F w o [a] Y76 rfl ar YH1 rfl Y5G rfl Yro rfl Zju
 |b o a b eh eQ=>
  have jU:=Y8x;have fK:=YiV;refine @LX g k K F w o Y1R Y4a rfl ar YH1 rfl Y5s rfl (λh q aF=>Y6o (λe=>e▸h.1) ZhC) rfl YOF
  ·exact ZCq
  ·exact ZCY
abbrev Xe(g:G)(k:Nat)(p:cE):Y1:=∀{mh:ag}{Q:Yj}{A:b9}{S:bu},Y22→Y3a→YRT→YRW→YAi→xo mh A S ZXJ Q→aU g YVJ 527 [Y1M,Zk] mh Q
theorem LY{g:G}{k:Nat}(K:YN)(F:YZ){o:Nat}{ps:Y2C}{p:cE}(kC:YKx)(aA:Y4K)(aE:Y9S)(hd:YjI)(ah:YAi→∀q∈ps,ZMO)(cf:∀{N},YWc=eR o (putL [] ps N))(kY:∀q∈ps,∀{mh:ag}{Q:Yj}{A:b9}{S:bu},Y22→Y3a→Z7L→Z7Q→ZMO→xo mh A S (putN [] q S.N) Q→aU g YDY 527 [Y1M,Y8v] mh Q):Z8r:=λ{mh Q A S}H D az he n6 h=>by
 have aP:YEX:=Yi1
 have jT:∀q∈ps,eS [] S.N.length q:=λq aF=>lX Z0 Ygm;refine oh kC ZSr;refine Y02;intro gb gc gd;refine cZ (jS rfl H.1 (aw (hD 0 rfl aP rfl (aw (d6 (tF ZKQ))))));refine kf ps bB (λd acc m=>Xc mh A S ZXF acc m) ZgN Y2L Zhy Y3y
 ·refine YY9;subst ni;have aq:YY7:=Y1o;have gv:=xn (ps:=d) D.2 λq aF=>jT q ZCs;replace gv:=ZCT;have i2:=Z3v;refine my (jS rfl (bx▸H1.1) (e5 rfl ((λaF=>aV bx (kY x aq H1 iq.2 ZEx i2.2 YSM aF):∀{Q':Yj},xo m bl a7 (putN [] x a7.N) Q'→aU g YDY 527 [Y1M,bB x] m Q') ZhE)))
  ·refine Ygs;exact Yh1
  ·exact ZEL
  ·refine ZO2;exact(dK (f:=ay) (l₁:=ZXF.2) (l₂:=[_])).symm
 ·refine YY9;subst ni;have gv:=xn (ps:=ps) D.2 jT;rw[←dO]at gv;have i2:=Z3u;have hE:ZXJ=eR o (a7.N,Yan):=ZHp
  refine λb jT=>⟨0,⟨_,_,Yc,?_,qJ _,?_⟩⟩
  ·refine Ygs;exact Y7U
  show aU g YDY 522 [Y1M,ZE,YD ZAH] _ Q;refine Z5i;refine Xb K F Z4G iq.2 i2.1 ZEg aA ZHk YUg Zj (λq dg aJ aC=>V.noConfusion aJ) ZhD
  (replace h5:=bW hE h5;refine k7 hE ?_)
  exact h aH gm cK ((f1.trans (Y8p:aB ea m (upd m b (0,Y5 ZAH)))).trans f2) Y9K hK Ylz h5
theorem asm{k:Nat}(K:YN)(F:YZ)(ar:Y3q):Z8r:=by
 induction p generalizing k with
 |v n=>exact λH D az he ah h=>ah.elim λc z=>Yib
 |c o=>exact LY (ps:=[]) K F rfl ar Z0 rfl YrS rfl Y88
 |u o a ai=>
  have jU:=Y8x;exact @LY g k K F o [a] Y76 rfl YH1 Y5G rfl Yro rfl Zju
 |b o a b eh eQ=>
  have jU:=Y8x;have fK:=YiV;refine @LY g k K F o Y1R Y4a rfl YH1 Y5s rfl ZiN rfl YOF
  ·exact ZCq
  ·exact ZCY
noncomputable abbrev c5:cE:=.v 3
noncomputable abbrev py:cE:=.v 4
def cB:List YFR:=[Yu9,Yu8,Yu5,Yu6]
theorem lY{P:YFR→Y1}(ak:P Yu9)(av:P Yu8)(aP:P Yu5)(da:P Yu6):∀q∈cB,P q:=λq aF=>
 Y6o (λe=>aa e ak) λaF=>Y6o (λe=>aa e av) λaF=>Y6o (λe=>aa e aP) λaF=>Y0H▸da
theorem zC{S:bu}(az:Y2j):WU S:=⟨Zhq,λc=>au (B8 ZXh.1 λx aq=>Ytm) (by
 unfold i8;exact aj YF (au YI5 (au ZKa az)))⟩
theorem asn{A:b9}{S:bu}(K:YN)(F:YZ)(D:Y2p)(az:Y2j){w:Nat}:∀q∈cB,n5 g YMB A S w YG:=by
 have x:n5 g ZSa A S w c5:=Z8d;have two:∀{p q:cE},n5 g YmL A S w p→n5 g YmL A S w q→∀r∈[p,q],n5 g YmL A S w r:=λar aF r bo=>(dz bo).elim (λe=>ZNX) λbo=>bR bo▸aF;refine lY (P:=λq=>n5 g (Y2V+7) A S w YG) ?_ ?_ ?_ ?_
 ·exact @Cj g Y2V A S pend K F D az YIQ w 8 [c5] Y4d rfl rfl rfl Y2 Y2 Y2 rfl Y2M λq aF=>Y0H▸x
 ·exact @Cj g Y2V A S pend K F D az YIQ w 1 [c5,py] YbI rfl rfl rfl Y2 Y2 Y2 rfl Y2M (two x (Z8d:n5 g ZSa A S w py))
 ·exact @Cj g Y2V A S pend K F D az YIQ w 1 [c5,c5] YBv rfl rfl rfl Y2 Y2 Y2 rfl Y2M (two x x)
 ·exact @Cj g Y2V A S pend K F D az YIQ w 1 [c5,Y9u] YPQ rfl rfl rfl Y2 Y2 Y2 rfl Y2M (two x (@Cj g YDW A S pend K F D az YIQ w 17 [] Y9u rfl rfl rfl Y2 Y2 Y2 rfl Y2M Y88:n5 g (YDW+7) A S w Y9u))
theorem Gb{o c:Nat}{t dg:Tab}{n:Nat}{F:YRc}:dg∈ZXg↔∃aZ,Z6∈nod c∧aZ.length=n∧dg∈F t aZ:=by
 refine G6.trans ⟨ZiZ,λh=>h.elim λaZ z=>⟨Z6,z.1,OQ Y3E (aa Z4 (Ar Y3E Z3))⟩⟩
 cases q:YqS with
 |true=>
  replace z:=YQa;have q:=YAX;exact⟨x.2,by refine um ZMw ?_;exact z.1,ZMx,z.2⟩
 |false=>replace z:=YQa;exact ZDM
theorem aso(h:aZ.length=2):∃a b,aZ=Y1R:=by
 cases aZ with
 |nil=>exact ZDK
 |cons a aZ=>cases aZ with
  |nil=>exact absurd (show 1=2 from h) Yf
  |cons b aZ=>cases aZ with
   |nil=>exact⟨a,b,rfl⟩
   |cons d aZ=>exact absurd (oc ZW5) Y7q
theorem asp(h:aZ.length=1):∃a,aZ=[a]:=by
 cases aZ with
 |nil=>exact ZDK
 |cons a aZ=>cases aZ with
  |nil=>exact Yt5
  |cons d aZ=>exact absurd ZW5 Y7q
def xp(K:a8→Yo)(t:Tab)(p:cE):Yo:=p.rec (λn c=>YXQ) (λo c=>K YP3 c) (λo O A c=>∃x,A x∧K YP5 c) λo O O A B c=>∃x y,A x∧B y∧K YP4 c
def pU(n:Nat)(R:YV)(t:Tab):Y1:=∃x,YNm∧if YHR then∃y,y∈R∧t=Yf7 else t=YAJ
theorem LZ{o c:Nat}{dg:Tab}{A:Yes}:dg∈qR nod o 2 (λt aZ=>kB [YkS,A] aZ [t]) [] c↔∃a b,Yxw∧dg∈A YCV b:=by
 refine Gb.trans ⟨λh=>h.elim λaZ z=>(aso Z4).elim λa w=>w.elim λb w=>⟨a,b,aV w z.1,?_⟩,λh=>h.elim λa h=>h.elim λb z=>⟨Y1R,z.1,rfl,?_⟩⟩
 ·have fz:=Z3;replace fz:=fU w fz;exact(rj (fz:ZLG)).elim λt1 y=>(bR y.1:t1=YCV)▸y.2
 ·show ZLG;exact Ap ⟨YCV,Y2t,z.2⟩
theorem L0{n x:Nat}{R:YV}(az:YnY)(aq:YNm):pU n R YAJ:=⟨x,aq,aa Ylm rfl⟩
theorem tI{t:Tab}{n:Nat}{R:YV}(az:YnY)(h:Ynz):∃x,YNm∧t=YAJ:=h.imp λx z=>⟨z.1,by have z:=z.2;rw[Ylm]at z;exact z⟩
theorem Xf{R:YV}(gI:∀c x,Yqn→∀j∈x.2,j∈R):∀q∈cB,Zm7:=by
 have av:∀{o a b c:Nat},Yxw→a∈R∧b∈R:=λh=>⟨gI _ _ h _ b3,gI _ _ h _ YGZ⟩
 refine lY (P:=λq=>Zm7) (λt c=>(Gb (o:=8) (n:=1) (t:=[]) (F:=λt aZ=>kB [YkS] aZ [t])).trans ⟨λh=>h.elim λaZ z=>(asp Z4).elim λa w=>?_,Y6j⟩) (λt c=>(LZ (o:=1) (A:=fk nod py)).trans YtG) (λt c=>(LZ (o:=1) (A:=YkS)).trans YtG) λt c=>(LZ (o:=1) (A:=fk nod Y9u)).trans YtG
 ·have fz:=Z3;rw[w]at fz;rw[w]at z;rw[(bR fz:t=YCV)];exact⟨L0 Yf (gI _ _ z.1 _ b3),a,rfl,z.1⟩
 ·obtain⟨x,aq,e⟩:=YHw
  (replace h:=YWU;refine Y4n)
  obtain⟨y,aC,bb⟩:=h.2;exact⟨[y],bb,rfl,(show YAJ∈[[(3,y)]]from YGQ▸Y2t)⟩
 ·have e:t=[(3,a),(4,b)]:=bR z.2;rw[e];exact⟨⟨a,YSX.1,by refine ZCe;exact⟨b,YSX.2,rfl⟩⟩,a,b,rfl,rfl,z.1⟩
 ·obtain⟨⟨x,aq,e⟩,h⟩:=h;rw[Y0c]at e;obtain⟨y,bb,e⟩:=e
  (rw[e]at h;refine Y4n)
  obtain⟨a,b,aJ,aC,aR⟩:=h;have aJ:x=a:=YLK;have aC:y=b:=YGQ;exact⟨x,y,aa aJ (aC▸aR),Y2t⟩
 ·have fz:t∈cond YKe [YCV] []:=z.2
  cases q:YKe with
  |false=>rw[q]at fz;exact absurd fz cS
  |true=>
   rw[q]at fz;have e:t=YCV:=bR fz;rw[e];exact⟨Z51,a,a,rfl,rfl,by have f3:=z.1;rw[←Y1e]at f3;exact f3⟩
 ·obtain⟨x,aq,e⟩:=YHw
  (rw[e]at h;refine Y4n)
  obtain⟨a,b,aJ,aC,aR⟩:=h.2;have aJ:x=a:=YLK;refine⟨x,x,by rw[←aJ,←(YGQ:x=b)]at aR;exact aR,?_⟩;show YAJ∈cond (x==x) [YAJ] [];refine Ar Y3E ?_;exact Y2t
 ·refine((Gb (o:=17) (n:=0) (F:=YOG)).mp z.2).elim λaZ y=>?_;have i5:aZ=[]:=p5 y.2.1;have e:t=YCV:=by have d1:=YNo;replace d1:=um i5 d1;exact bR d1
  rw[e];exact⟨Z51,a,b,rfl,aV i5 y.1,z.1⟩
 ·obtain⟨x,aq,e⟩:=YHw
  (rw[e]at h;refine Y4n)
  obtain⟨a,b,aJ,aC,aR⟩:=h.2;have aJ:x=a:=YLK;exact⟨x,b,by refine sC aJ ?_;exact aR,(Gb (o:=17) (n:=0) (F:=YOG)).mpr ⟨[],aC,rfl,Y2t⟩⟩
theorem asq{S:bu}(D:Y2p):∀c x,YY6→∀j∈x.2,j∈Yod:=λc x aq j aM=>pL.mpr (((qP.mp Ytm).elim λi z=>z.elim λy z=>by
 replace aM:=ZO8;exact Ywm))
def hf(n:Nat)(x:a8):Tab:=if YHR then[(3,YqV),(4,ZeM 1 0)]else[(3,YqV)]
theorem Gd{R:YV}:∀q∈cB,Zm6:=by
 have dn:∀{n:Nat}{x:a8}{a y:Nat},YnY→YqV=a→Y06=Y0l→hf n x=[(3,y)]:=λaz h e=>by unfold hf;exact aj Ylm (gT h (mL Y4G rfl))
 refine lY (P:=λq=>Zm6) ?_ ?_ ?_ ?_ <;> intro t c h
 ·refine YM;obtain⟨x,aq,e⟩:=YHw;refine Yb
  (replace h:=YWU;refine Y4n)
  exact Yl7 λy z=>⟨_,z.2,ZLN⟩
 ·refine YM;obtain⟨⟨x,aq,e⟩,a,b,aJ,aC,aR⟩:=h;rw[Y0c]at e;obtain⟨y,bb,e⟩:=e;refine Yb
  (replace aJ:=ZGP;replace aC:=bN e aC;refine Y4n)
  exact⟨_,aR,by unfold hf;refine aj Y0c (mL ((YLK:x=a)) (aa ((YGQ:y=b)) ?_));rfl⟩
 ·obtain⟨x,aq,e⟩:=YHw
  (replace h:=YWU;refine Y4n)
  exact ZPo
 ·obtain⟨x,aq,e⟩:=YHw
  (replace h:=YWU;refine Y4n)
  exact ZPo
theorem Xg{S:bu}(D:Y2p)(az:Y2j):∀q∈cB,Cp S YG:=λq aF=>by
 have m:=Xf (asq D) q aF;refine⟨λc t bq=>(Yae bq).1.elim YEU,λc us bZ bj=>?_⟩
 ·by_cases e:YWh
  ·have z:=z.2;rw[YLz]at z;exact z.elim λy z=>⟨x,YJ ⟨y,z.2⟩⟩
  ·have z:=z.2;rw[YDQ]at z;exact⟨x,YY z⟩
 ·exact au (B8 (M:=YxE (hf q.1)) bZ λt bq=>(Gd q aF t c (Yae (bj t bq))).elim λx z=>kp ⟨x,z.1,z.2⟩) (aj YF (YIQ.2 c))
structure eC where
 (r rs op mu pl af re n2:Nat) (hM:YL)
abbrev zD(m:ag)(a:Nat)(q:YFR):Y1:=m a=some (0,ZD 263 Z9S)
abbrev n8(m:ag)(R:eC)(h:Nat)(tr:Bool)(most cQ aE:Nat):Y1:=OA (m R.r=some (5,ZD 358 [Y74,Z1c,Z1Z,Yc6,Z1a,Z1X,ay cQ,Z1b,Z1Y])) (m R.rs=some (0,Y5 (Y8G λi=>YJk))) (∀i q,YGI→zD m Z77 q) (m R.op=some (0,Y9 1 Z9A)) (m R.mu=Za1) (m R.pl=Za2) (∃L,m R.af=some (13,Y5 L)∧L.length≤aE) (m R.n2=ZZz)
variable{most:Nat}{aE:Nat}{tr:Bool}{cQ:Nat}
theorem n8.dq{p:Z9}{R:eC}{h:Nat}(B:ZV8)(F:YFo)(ar:YWI)(fG:ZWP)(L1:ZWO):ZV6:=
 ⟨F _ _ B.1 fG,F _ _ B.2 ar,λi q e=>F _ _ Z2k ar,F _ _ B.4 ar,F _ _ B.5 ar,F _ _ B.6 ar,Ycs λL z=>⟨F _ _ z.1 L1,z.2⟩,F _ _ B.8 ar⟩
theorem n8.ea{R:eC}{h:Nat}(B:ZV8)(F:ZAm):ZV6:=B.dq F rfl rfl rfl
theorem Ge{t:Tab}(h:Y3s):ZR9:=h.one (P:=λt=>ZR9) (λx=>⟨Y7t,λe he=>YhY⟩) λx y=>⟨ma ⟨λh=>absurd (V.str_inj Y1T) (Yf:(3:Nat)≠4),Y7t⟩,λe he=>YJA (λh=>YSK) λh=>Y1T▸rfl⟩
theorem Xh{A:b9}{S:bu}(K:YN)(F:YZ){w:Nat}(ar:Y3q)(hd:ZV≤3){t:Tab}(W:Ydj)(H:Y22)(D:Y3a)(aD:Y7H)(az:YRT)(he:YRW)(ah:ZMR)(h:Zee):aU g (k+10) 286 Z9R mh Q:=by
 have e:k+10=k+(3 - ZV)+7+ZV:=aL (fO _ 7 ..) (dS YjO (mL (x8 hd) (aL Y98 rfl)));exact kK e (asl K F ar W H D aD az he ah h)
noncomputable abbrev iR (t:Tab) (q:YFR) (N:Yd):YR5:=putN t Yq YoA.1
theorem dec_lt(a b:Nat):decide (YZx<(b:Int))=ZL7:=decide_eq_decide.mpr x1
theorem asr{A:b9}{S:bu}(K:YN)(F:YZ){R:eC}(B:ZV9)(H:Y22)(az:YRU)(h:Q (YK (decide ZUn)) mh):aU g (k+3) 324 [YA3] mh Q:=
 fS ZT K rfl Y2 (by intro gb gc gd;exact cZ (bQ (aw (nj rfl B.1 rfl H.1 (aS (Ll K F H.1 H.2 az (aw (mx (kA rfl B.1 rfl ⟨Zmx,aw (cst (aw (cst (aS ⟨_,_,_,B.4,rfl,aS (show Q (YK (decide (Yxo<(S.N.length:Int)))) mh from(dec_lt _ _).symm▸h)⟩))))⟩)))))))))
theorem Xi{n hA dx:Nat}(ak:ZH7)(av:ZNW):ey+dx≤n+YlH∧bk+dx≤e+YlH:=by
 exact⟨by refine YhO;exact h7 av dx,bL ZO (h7 YvH dx)⟩
theorem ass{A:b9}{S:bu}(K:YN)(F:YZ){R:eC}{q:YFR}(aF:Y1t)(bo:zD mh a q){t:Tab}(bq:Y3s)(ah:eS t S.N.length YG∧eS t S.N.length Yq)(B:ZV9)(H:Y22)(D:Y3a)(az:Yeb)(he:Z7R)(h:∀aW bl cK,Y4D→Y0Y→YnH→cK.N=YDN.1→eG cK []→(YTK=YTJ→d3 aW bl ZfZ→Z6d)∧
   (YTK≠YTJ→d3 aW bl (gM cK (min YTK YTJ) (max YTK YTJ))→Z6e)):aU g ZSY 336 [YA3,YA,Y24] mh Q:=by
 have ok:ZPM:=lY (P:=λq=>ZPM) YZJ YZJ YZJ YZJ q aF;have l1:YBr≤2:=bq.one (P:=λt=>YBr≤2) (λO=>Y5G) λO O=>bV 2;refine Y02;intro gb gc gd;refine el (d6 (bc rfl ⟨Y6S,congrArg id Yuc,ZEz,Ge bq,ZhX⟩));have fn:aB no mh ZcP:=Y8p;have qU:=bw mh b YIr;generalize ZcP=m1 at fn qU ⊢;revert m1;refine Y17;intro m1 fn qU;have H1:=H.no fn;have a3:=B.dq fn rfl rfl rfl;have zf:=fn _ _ bo rfl;refine Yt;intro Xj;refine en ⟨_,_,zf,_,rfl,rfl,rfl,rfl,?_⟩;show a6 _ UJ Z9l m1 ZS Q;refine Yt;intro asu;refine en ⟨_,_,zf,_,rfl,kf [] (λv=>v) (λO acc m=>YSL∧m=m1) Zn Y2L (λd x rest e=>absurd Y7c (by refine ZGb;exact(k5 _).symm)) Y3y⟩;obtain⟨rfl,rfl⟩:=z;refine λb1 ip=>⟨0,λe2 d7=>⟨0,_,_,YTU,_,_,Yc,Zm,?_⟩⟩
 have zE:aB no m Zbp:=YvB Y5R;generalize Zbp=aH at zE ⊢;have hK:=H1.no zE;have cc:=a3.dq zE rfl rfl rfl;have Xk:=zE _ _ zf rfl;have Xl:=zE _ _ qU rfl;show a6 _ UI Z9l aH ZS Q;have kx:=kg D.2 Y2R;have up:∀{x:Nat},x≤3→S.N.length+x≤13∧Y1Q+x≤800000:=λaq=>⟨gR az aq,au (gR he aq) Y2⟩
 have uV:=up ZEh;have i3:=up YWE;refine Yt;intro asv;refine B0 (aw (nj rfl cc.1 rfl cc.6 (aw (kA rfl Xk rfl (e5 rfl (Xh K F YHW ZEh ⟨0,cc.6,rfl⟩ hK D Xl uV.1 uV.2 Y2R λbF jd oV cz pP xg lV L2=>?_))))));have Gf:=cc.ea cz;have Xm:=cz _ _ Xk rfl;rw[←L2]at kx;have dv:=Xi (dx:=YjJ) lV.6 kx.1.3;refine aw (nj rfl Gf.1 rfl Gf.6 (aw (kA rfl Xm rfl (e5 rfl (Xh K F ok.2.1 (au Y1X YWE) ⟨0,aa pP Gf.6,rfl⟩ xg lV.2 (cz _ _ Xl rfl) (au dv.1 i3.1) (au dv.2 i3.2) ZTm λeK hr xq f4 vo Cc nh vp=>?_)))));have mX:=kg lV.2.2 ZTm;rw[←vp]at mX;have Xn:=Xi (dx:=0) nh.6 mX.1.3;have G:=lV.trans nh;have f:=((fn.trans zE).iO.trans cz).trans f4;have bJ:=λYJI(bl:b9)(dZ:aB ea eK m)(L3:bl.h=hr.h)=>h m bl xq YUR (L3.trans Zd4) G (by exact aj vp ZKo) nh.2;have aC:(putN t Yq oV.N).2=YDN.2:=by exact ZKo
 rw[aC]at mX ⊢;generalize YDN.2=y at mX bJ ⊢;generalize YyF=x at kx bJ ⊢;show a6 _ UH [Y2Y,Y05,YNG,Y6Z,YE2,ZaC] eK ZS Q;refine Yt;intro asw;refine cZ (nj rfl (aa Zd4 (Gf.ea f4):n8 eK R hr.h tr most cQ aE).1 rfl Cc.1 (aw (bc rfl (aw (bc rfl (aw (bQ (aw (cst (aw (kA rfl (f4 _ _ Xm rfl) rfl (aw (d6 (bc rfl ⟨ZEz,ZHL,aS ⟨rfl,aS (arq (k:=k+6) K F Cc nh.2 (au (au Xn.1 dv.1) i3.1) (au (au Yk (au (au Xn.2 dv.2) i3.2)) Y2) (ew kx.2 nh.le) mX.2 (λe m dZ tJ=>(bJ m hr dZ rfl).1 e tJ) λe m bl dZ L3 tJ=>(bJ m bl dZ L3).2 e tJ)⟩⟩))))))))))))))
abbrev cn:=YCL
abbrev hl(N:Yd)(P:cn)(f:YL):Y1:=hr YVX (∀(i j:Nat)(x y:a8),Y4g→YRD→YTW→f i=f j) (∀p∈P,YLh) YVc
theorem Xo{P:cn}{g:YL}(b:YlQ):xf N P Zio:=⟨Zm,λh=>h.symm,λh h'=>h.trans h',b.3,λi j x y h af aM ao e=>b.2 i j x y af aM (by
 have hm:∀z:a8,(∀c∈z.2,g c=g (h c))→z.2.map g=(z.2.map h).map g:=λz hz=>aL kJ (sv hz);have aC:=Ykj;refine iF YAM ?_;show Y5A g=Yqp g;exact aj (hm x λc aq=>YvQ id λq=>absurd aq q.1) (aL (hm y λc bb=>YvQ id λq=>absurd bb q.2) (congrArg _ YAN)))⟩
theorem Xp{P:cn}{f g:YL}(a:Y5b)(b:YlQ)(af:Y2r):g i≤f i:=by
 exact aj (a.4 _ (Xo b) i af:g i=g (f i)) (b.1.1 _ (a.1.lt af))
theorem Cu{P:cn}{f g:YL}(a:Y5b)(b:YlQ)(af:Y2r):f i=g i:=mG (Xp b a af) (Xp a b af)
open Classical in
noncomputable def h6 (N:Yd) (P:cn):YL:=if h:ZmQ then h.choose else id
theorem zF{P:cn}{f:YL}(h:Y5b):ZQe:=by
 exact aL (dif_pos ZnK:YLs=(ZnK:ZmQ).choose) (Exists.choose_spec _)
variable{e1:cn}
theorem asx{P:cn}{f:YL}(J:YVc)(h:∀p∈P,YDs):lu N e1 f:=λR C=>J R ⟨C.1,C.2,C.3,λp ar=>C.4 p (h p ar),C.5⟩
abbrev Rest(S:bu)(P:cn):Y1:=hr Y3a YFe (∀p∈P,ZWU) YHI
theorem Rest.r3{S:bu}{P:cn}(R:YRS):hl S.N P S.f:=⟨R.1.1,λi j x y af aM e=>by
 refine YM;obtain⟨a,bx,hL⟩:=R.1.6 i x af ZKj cS;obtain⟨b,cM,ff⟩:=R.1.6 j y aM ZKj cS;refine Yb;replace bx:=ZBi;exact ZBl,λp ar=>YOV.2,R.4⟩
abbrev fm(N:Yd):Y1:=hR N.Nodup (∀(i:Nat)(x:a8),Y4g→ZQP)
theorem eG.wf{S:bu}(D:Y2p):fm S.N:=⟨D.2,D.3⟩
theorem Rest.grow{P:cn}(X:Yd):∀{E:bu},Z7D→fm Z3d→∃E',Rest E' P∧E'.N=Z3d∧∀i,ZQs→E'.f i=E.f i:=by
 induction X with
 |nil=>exact λ{E}R O=>⟨E,R,Y8I,Y2M⟩
 |cons x X ai=>
  intro E R W;have aq:=W.2 E.N.length x ZI2;have a:=added (cs:=ZeN) R.1 (λh=>(HE W.1).2.2 x h x b3 rfl:x∉E.N) Y4F Y6E.1 Y6E.2 λc=>OC;generalize n3 (gf E x ZeN) E.N.length x=rY at a;revert rY;refine Y17;intro rY a;have le:∀{i},ZQs→i<rY.N.length:=λaf=>bW a.1 (aL cj (ew af Yk));have qS:Rest rY P:=⟨a.2,a.4 R.2,λp ar=>⟨le YFX.1,le YOV.1,aj (a.3 _ YFX.1) (aL (a.3 _ YOV.1) (YOV.2))⟩,aa a.1 (a.5 P R.4)⟩
  refine YM;obtain⟨E',sE,bk,dZ⟩:=ai qS (dS a.1 (aL Y0k W));exact ax (⟨E',sE,by rw[bk,a.1,hG];rfl,λi af=>(dZ i (le af)).trans ZA8⟩)
abbrev vq(P:cn)(S:bu)(fr:cn)(j:Nat):Y1:=hr Y3a (lu S.N YAB S.f) (∀p∈YAB,ZWU) (∃E,Z7D∧E.N=S.N∧(j=0→(∀i,Y2I→Za=E.f i)∧YFe)∧(0<j↔∃p,YoD∧E.f p.1≠E.f p.2))
theorem Rest.mid{S:bu}{P:cn}(R:YRS):vq P S [] 0:=⟨R.1,Ywi▸R.4,Ywi▸R.3,S,R,rfl,λO=>⟨Y2M,R.2⟩,⟨ZiV,λh=>h.elim λp z=>absurd z.1 cS⟩⟩
theorem eG.more{S:bu}(D:Y3a):eG {S with e:=e} []:=⟨D.1,D.2,D.3,D.4,D.5,D.6,D.7,D.8,D.9,YCI,YFF⟩
variable{fr:cn}
theorem vq.step{P:cn}{S:bu}{b:Nat}(M:YqA)(G:YnH)(aD:a<cK.N.length)(ah:b<cK.N.length):
  (YGK=YGL→vq P ZfZ YUX j)∧(YGK≠YGL→vq P (gM cK (min YGK YGL) (max YGK YGL)) YUX (j+1)):=by
 refine YM;obtain⟨E,xr,dO,h0,aM⟩:=M.4;obtain⟨X,Xq⟩:=G.1;obtain⟨zG,oT,h5,f2⟩:=xr.grow X (aa dO (Xq▸G.2.wf));refine Yb;have h5:zG.N=cK.N:=by exact aj h5 (aT dO (Xq.symm))
 have Cv:∀p∈YAB,p.1<cK.N.length∧p.2<cK.N.length∧cK.f p.1=cK.f p.2:=λp ar=>have z:=YR8;⟨ew z.1 G.le,ew Z4 G.le,by refine aj (G.3 _ z.1) (aL (G.3 _ Z4) ?_);exact Z3⟩
 have Cw:j=0→(∀i,i<cK.N.length→cK.f i=zG.f i)∧cK.wait=[]:=λe=>by
  have z:=h0 e;have nq:YHI:=λR C i af=>(z.1 i af).symm▸xr.4 R (aV dO.symm C) i (aV dO.symm af);have LH:Rest cK P:=⟨G.2,G.4 z.2,λp ar=>Cv p YVQ,G.5 P nq⟩
  exact⟨λi af=>Cu LH.r3 (aV h5 oT.r3) af,G.4 z.2⟩
 have L4:0<j↔∃p,YoD∧zG.f p.1≠zG.f p.2:=aM.trans ⟨λh=>h.imp λp z=>⟨z.1,by refine aj ZNq (aL ZNr ?_);exact z.2⟩,λh=>h.imp λp z=>⟨z.1,by
  have fz:=z.2;rw[ZNq,ZNr]at fz;exact fz⟩⟩
 have mem:∀{p},p∈Z6O→p∈YAB∨p=YIx:=λh=>by
  replace h:=aL Y0k h;exact YxQ
 have Xr:lu cK.N Z6O cK.f:=asx (G.5 _ M.2) Zjo
 refine⟨λe=>⟨G.2.more,Xr,λp ar=>Yxl (Cv p) λh=>aa h (⟨aD,ah,e⟩),zG,oT,h5,Cw,L4.trans ⟨λh=>h.imp Zjr,λh=>h.elim λp z=>?_⟩⟩,Y5E⟩
 ·rcases iw z.1 with h | h
  ·exact⟨p,h,z.2⟩
  ·rw[←L4];refine acp λq=>z.2 ?_;rw[Y1T];exact cA (YOR a aD) (e.trans (YOR b ah))
 ·have m:=B9 G.2.1 aD ah e;refine⟨Wj G.2 m.1 YHK YHL YHM λO O h=>Y4o,Ls Xr (λi af=>G.2.1.lt af) Zgw,λp ar=>Yxl (λh=>⟨Yd2.1,Yd2.2.1,Lv Yd2.2.2⟩) λh=>aa h (⟨aD,ah,Lu⟩),zG,oT,h5,λq=>absurd q Y7q,⟨λO=>?_,λO=>Y3G⟩⟩
  ·have r:R YGK YGL:=C.3 (C.2 YUh) (C.3 (C.4 YIx ZKR) ZPY);rcases qM YGK YGL with w | w
   ·refine YSQ;exact r
   ·refine YSQ;exact C.2 r
  ·by_cases q:j=0
   ·exact⟨YIx,YCx,λh=>e ((YOR a aD).trans (h.trans (YOR b ah).symm))⟩
   ·exact(L4.mp (acp q)).imp Zjr
theorem vq.rest{P:cn}{S:bu}(M:YqA)(F:Yng)(D:YLV)(w:YRu):Rest a7 YAB∧(0<j↔∃p,YoD∧YlF≠YlG):=by
 refine YM;obtain⟨E,xr,dO,h0,aM⟩:=M.4;refine ax (⟨⟨D,w,λp ar=>aa F.1 (⟨YR8.1,YR8.2.1,F.3 _ _ YR8.2.2⟩),aa F.1 (F.2 _ M.2)⟩,aM.trans ?_⟩);have e:∀p∈fr,E.f p.1=YlF∧E.f p.2=YlG:=λp ar=>by
  have z:=M.3 p (d8 _ ar);rw[F.1,←dO];exact⟨Cu xr.r3 ZfI (dO.symm▸z.1),Cu xr.r3 ZfI (dO.symm▸Z4)⟩
 exact exists_congr λp=>acO λar=>by rw[ZLb.1,ZLb.2]
abbrev hQ:=YFR
abbrev cv:=Yd×cn
def qV(N:Yd)(f:YL)(p:cE):Y1P:=(roots N.length f).flatMap λc=>(mz dr ZON).map YsK
noncomputable abbrev jo (s:cv) (q:hQ):Y1P:=qV s.1 YUo YG
def pV(N:Yd)(f:YL)(q:hQ)(h:fT):Y1:=pU q.1 Y2X h.2∧xp YsS h.2 YG h.1
theorem asy{f g:YL}(h:Ysm):Y2X=roots N.length g:=acA λi af=>aT ZPb rfl
theorem asz{f g:YL}(W:Y0a)(h:Ysm):YlZ=i8 N g:=funext λc=>by
 unfold i8;refine aX ((acA λi af=>by rw[ZPb]:YaD Zj4=YaD λi=>g i==c)) ?_;refine Zb3;have af:=jK (ri af).1;have aq:N[i]?=some N[i]:=Y2o;rw[ho,aq];exact iF rfl (sv λc ao=>h c (lD ((W.2 i _ aq).2.2 c ao) af))
theorem asA{f g:YL}(W:Y0a)(h:Ysm)(p:cE):qV N f p=qV N g p:=by
 unfold qV
 (exact aX (asy h) (aa (asz W h) rfl))
theorem Xs{S:bu}{P:cn}(R:YRS)(q:hQ):F7 S YG=YVF:=asA R.1.wf (λi af=>Cu R.r3 (zF R.r3) af) _
variable{q:hQ}
theorem Gg{f:YL}(aF:Y1t)(W:Y0a)(F:YVX)(h:fT):h∈YoK↔YWP:=by
 have nod:∀c x,x∈YVn↔x∈Y6Q:=Zhq;have m:=Xf (nod:=Zhs) (R:=Y2X) (λc x aq j aM=>pL.mpr ((qP.mp ((nod c x).mp aq)).elim λi z=>z.elim λy z=>by
  replace aM:=ZO8;exact Ywl λa w=>have e4:=lD ((W.2 i y z.1).2.2 a w.1) YLb;w.2▸⟨F.lt e4,F.2 a e4⟩)) q aF
 rw[(funext λx=>funext λc=>propext (nod c x):(λx c=>x∈YVn)=YsS)]at m;refine aj ZX4 (⟨λz=>z.elim λc z=>(ee z.2).elim λt w=>aV w.2 (Yae (YZX w.1)),λz=>⟨h.1,pL.mpr ((Gd (nod:=YlZ) q aF h.2 h.1 z).elim λx w=>YyJ λi v=>v.elim λy v=>aV v.2.1 (⟨F.lt YU7,F.2 i YU7⟩)),kp ⟨h.2,(YoJ.2.1 _).mpr ((m h.2 h.1).mpr z),rfl⟩⟩⟩)
theorem Xt(a b:Nat):eF Y1E Y3A=ZL7:=dec_lt a b
theorem Xu(a b:fT):eF ZQE ZQF=cond (b8 ZFI ZFK) (cond (b8 ZLQ ZLR) false (eF ZLQ ZLR)) (eF ZFI ZFK):=(ti _ _).trans rfl
theorem L5{f:YL}(p:cE):(qV N f p).Nodup∧j9 ((qV N f p).map h4):=by
 have key:(qV N f p).Pairwise λa b=>YCl∧eF ZQF ZQE=false:=by
  refine HF ⟨λc ao=>yg ?_,(Oq _ Ho:(roots N.length f).Pairwise YEo).imp λ{a b}h x aq y bb=>?_⟩
  ·have u:=qT dr ZON;refine((Di.mp u.1).and (HC YI2)).imp λ{a b}h=>⟨λe=>h.1 Ykj.2,aj Z8u ZKm⟩
   show cond _ false (eF YjM YGW)=false;refine aX h.2 ?_;cases b8 YjM YGW <;> rfl
  ·obtain⟨t,_,rfl⟩:=ee aq;obtain⟨u,_,rfl⟩:=ee bb;refine⟨λe=>absurd Ykj.1 YU3,aj Z8u (dT (ic λe=>p8 h YMb) ?_)⟩;show ZLz;exact aj (Xt ..) ZLA
 exact⟨HD (key.imp λh=>h.1),yg (key.imp λh=>h.2)⟩
open Classical in
noncomputable def applyN (most:Nat) (q:hQ) (s:cv) (h:fT):cv:=if YnF then s else Ytd
def mA(most:Nat)(q:hQ)(hs:Y1P)(s:cv):cv:=hs.foldl (applyN most q) s
def n9(most:Nat)(lots:Ydm)(s:cv):Y12:=
 let r:=lots.foldl YsB Yye
 ((r.1,s.2++r.2),r.2.any λp=>h6 r.1 s.2 p.1 !=h6 r.1 s.2 p.2)
def kE(most:Nat)(q:hQ)(s:cv):Y12:=n9 most [YBo] s
def roundN(tr:Bool)(most:Nat)(s:cv):Y12:=cond tr ZIp ZVB
inductive iD where
 |once (q:hQ) |all |seq1 (a:iD) |Cx (a b:iD) |either (a b:iD) |rep (a:iD) (n:Nat)
def Cy(f:Y4v)(n:Nat):Bool→Y4v:=n.rec (λzH s=>(s,zH)) λO ai zH s=>cond (f s).2 (ai true YOr) Yta
def eH(tr:Bool)(most:Nat)(p:iD):Y4v:=p.rec YMD (roundN tr most) (λO A=>A) (λO O A B s=>(Ycp.1,(A s).2||Ycp.2)) (λO O A B s=>cond (A s).2 (A s) Ycp) λO n A=>Cy A n false
def gh(p:iD):V:=p.rec (λq=>YD [YcM,Y34]) (YD [Y4 6]) (λO a=>YD [YQ8,a]) (λO O a b=>YD [YQ8,a,b]) (λO O a b=>YD [Z1w,a,b]) λO n a=>YD [Z21,a,Y3B]
theorem Cz{cl:Calls}{es:Yv}{Q:Y0i}{f p:Nat}(bo:YGJ)(hm:Yms)(h:Y2c r m λvs aH=>cl f Z1l aH Y9J):ZG1.2 r m Q:=jS bo hm h
theorem fo{cl:Calls}{es:Yv}{Q:Y0i}{o:dj}(h:Y2c r m λvs aH=>o.o.ij cl vs aH Y9J):ZG3.2 r m Q:=h
theorem L6{cl:Calls}{a:E}{Q:Y0i}(h:YG7.2 r m λx ab=>Q (!x) ab):(bH cl Z0h).2 r m Q:=h
theorem Gh{cl:Calls}{a b:E}{Q:Y0i}(h:YG7.2 r m λx ab=>cond x (YSe.2 r ab Q) (Q false ab)):ZFz.2 r m Q:=h
abbrev vr(n:Nat)(q:hQ)(t:Tab):Y1:=jd Y3s (eS t n YG) (eS t n Yq)
theorem Gi{n m:Nat}{f:YL}(az:YB5):∀q∈cB,Zm9:=by
 have b:∀{x},x∈YDw→x<m:=λh=>ew ZWg.1 az;refine lY (P:=λq=>Zm9) YYx YYx YYx YYx
 ·exact Yb4 λx z=>aa z.2 (⟨YZP,YZQ,YZQ,x,rfl,YCm⟩)
 ·obtain⟨x,aq,e⟩:=h;rw[Y0c]at e;exact e.elim λy z=>aa z.2 (⟨Znb,⟨⟨x,rfl,b aq⟩,y,rfl,YCm⟩,⟨y,rfl,YCm⟩,x,rfl,b aq⟩)
 ·exact Yb4 λx z=>aa z.2 (⟨YZP,⟨YZQ,x,rfl,YCm⟩,x,rfl,YCm⟩)
 ·exact Yb4 λx z=>aa z.2 (⟨YZP,⟨YZQ,trivial⟩,x,rfl,YCm⟩)
theorem vr.up{n m:Nat}{t:Tab}(h:vr n q t)(az:YB5):Zd5:=⟨h.1,lX az h.2,lX az h.3⟩
noncomputable abbrev pW (t:Nat):Bool:=Yjg
theorem Xv{d:Y1P}{x:fT}{s:cv}:mA most q YAc s=applyN most q (mA most q d s) x:=wc
abbrev tK(m:ag)(A:b9)(R:eC)(tr:Bool)(most cQ u:Nat)(P:cn)(S:bu)(fr:cn)(j:Nat):Y1:=hr Yj3 YqA ZV7 Y2j
theorem L7(h:YAk)(k:Nat)(aR:4≤k):ZJf:=by
 have z:∀i,i<4→YTb→ZJf:=λi af h=>beq_false_of_ne λq=>absurd ZIo (ej (ew af aR));exact Y8M (z 1 Y2) λh=>Y8M (z 2 Y2) (z 3 Y2)
theorem L8{cl:Calls}{R:eC}{h u:Nat}(h0:Y5X=Y2Y)(ak:YTF=Y3g)(B:ZVA)(af:i<4)(dp:Q YJk mh):(bH cl YF4).1 r mh Q:=
 bQ (aw (kA h0 B.1 rfl (aw (bc ak (aS ⟨_,_,B.2,YEc,YJk,by rw[gy,q9 af];rfl,dp⟩)))))
theorem asB(K:YN)(F:YZ){A:b9}{R:eC}{u:Nat}{P:cn}{S:bu}(aF:YGI)(hm:Y3e)(M:Ypc){h:fT}(ah:YqB)(he:Z7R)(h0:Y5X=Y2Y)(ak:YTF=Y3g)(fG:cI r 5=Yp6){Q:Y0i}(dp:∀aW bl a7 qW x,Y4D→Y0Y→tK aW bl R tr most cQ u P a7 qW (cond x (j+1) j)→YZw=ZEW→YCZ≤Y1Q+4→YKJ→Q x aW):
  (bH (aU g ZSY) Yzy).2 r mh Q:=by
 refine Gh (L6 (Cz h0 M.3.1 (aS (asr (k:=k+8) K F M.3 M.1 (au M.4 Y2) ?_))));by_cases hf:ZUn
 ·rw[decide_eq_true hf];exact dp mh A S fr false Yy rfl M (by unfold applyN;exact(if_pos hf).symm) Yk YW
 ·rw[decide_eq_false hf];have az:Yeb:=au (hq hf) hm;have af:i<4:=eo aF;refine Cz h0 M.3.1 (aw (L8 h0 ak M.3 af (e5 fG (ass K F Yjw (M.3.3 i q aF) Y2R ⟨Y2l,ah.3⟩ M.3 M.1 M.2.1 az he λab bl cK f bx G dO r0=>?_))));have dD:=kg M.2.1.2 Y2l;have w2:=kg YGT (lX YAd ah.3);have aD:YyB<cK.N.length:=aa dO Yk6;have st:=M.2.step G aD (dO▸Y5l);have ln:cK.N.length≤S.N.length+3:=by refine ZCS;exact au (ZKV YEE).3 (c0 (lY (P:=λq=>YLR) Y2 Y2 Y2 Y2 q Yjw:YLR) _)
  have Xw:cK.N.length≤13:=au ln (h7 az 3);have c1:cK.e+cnt cK≤Y1Q+3:=acC (au G.6 (au (c0 ln _) (dH (by exact aX (gi S.N.length 3) Ywb))));have lW:(cK.N,fr++[(YyB,(iR h.2 q S.N).2)])=ZEW:=by unfold applyN;exact aL (if_neg hf) (aT dO rfl)
  have Xx:=bx.symm▸Z5Q;refine⟨λe tJ=>dp ab bl _ _ false f bx ⟨tJ,Y0f e,Xx,Xw⟩ lW ?_ G.le,λe tJ=>dp ab bl _ _ true f bx ⟨tJ,Zb e,Xx,Xw⟩ lW ?_ G.le⟩
  ·show YiU+cnt cK≤_;rw[fO];exact dX c1
  ·have m:=B9 r0.1 aD (aa dO Y5l) e;show YiU+cnt (gM _ _ _)≤_;rw[fO];refine dX (au (c0 ?_ cK.e) c1);refine bL ((zt r0.1 m.1 YHK YHL YHM)) ?_;exact Y1I
inductive asC(mh:ag)(A:b9)(R:eC)(tr:Bool)(most cQ u:Nat)(P fr:cn)(S:bu)(j:Nat)(q:hQ)(d:Y1P)(v0 v1 v2:Yp)(r:bG)(m:ag):Y1
 |mk (f:YS1) (bl:b9) (a7:bu) (qW:cn) (h2:Nat) (fl e0:Yp) (bx:Y0Y) (M:tK m bl R tr most cQ u P a7 qW YVC) (dO:YZw=mA most q d YZp) (e3:YCZ≤Z7O) (ln:YKJ) (e:r=[v0,v1,v2,some Yh7,fl,e0])
theorem L9(K:YN)(F:YZ){A:b9}{R:eC}{u:Nat}{P:cn}{S:bu}(aF:YGI)(hm:Y3e)(M:Ypc){hs:Y1P}(ah:∀h∈hs,YqB){c:Nat}(he:Z7P≤c)(ao:c≤799000)(bj:Zcd){ff:Nat}(hf:mh ff=some (tg,Y5 (hs.map h4)))(Xy:ea tg=false)(h:∀aW bl a7 qW h2,aB pW mh aW→Y0Y→tK aW bl R tr most cQ (u+1) P a7 qW YVC→YZw=mA most q hs YZp→YCZ≤c→YKJ→Q Yh7 aW):aU g YDW 343 [YA3,Y4p,Z1g] mh Q:=by
 refine Y02;intro gb gc gd;refine el (cst (forL (bc rfl ⟨_,_,hf,?_⟩)));let asD:=λYOf=>asC mh A R tr most cQ u P fr S j q d Y2Y Y3g YN8;refine k0 hs h4 asD
  ⟨Yy,A,S,fr,0,none,none,rfl,M,rfl,YW,YW,rfl⟩ (λd r m z=>⟨tg,z.1 _ _ hf Xy⟩) YIh Y3j
 ·refine YM;obtain⟨f,bl,a7,qW,h2,fl,e0,bx,lZ,dO,e3,ln,rfl⟩:=z;refine Yb;have aq:x∈hs:=Y1o;have qe:Z7O+4≤Z7P:=by
   rw[dw];refine c0 ?_ _;refine fH e (bW cj (fH g5 (bL YK2 ?_)));exact iu 4 (show Y5Y≤ZKI from YL9)
  refine cy (en (asB K F aF hm lZ ((ah x aq).up ln) (au (au e3 (au (cx _ 4) (au qe he))) ao) rfl rfl rfl λaH gm cK Ma b f2 kD M2 h5 asE ln2=>?_));have Xz:∀xt,h2+(cond b 1 0)=xt→jq [Y2Y,Y3g,YN8,some (ay xt),some YCk,some YAh] aH:=λxt fe=>e8 _ _ ⟨Y4y,gm,cK,Ma,xt,_,_,Y9K,by
   refine fU fe ?_
   cases b <;> exact M2,by refine aL Xv (um dO ?_);exact h5,au asE (au (h7 e3 4) (dH (by refine fH cj ?_;rfl))),au ln ln2,rfl⟩
  cases b with
  |true=>
   exact lS rfl (el (bQ (aw (bc rfl (aw (cst (aS (Xz (h2+1) rfl))))))))
  |false=>exact iP rfl (Xz h2 rfl)
 ·refine YM;obtain⟨f,bl,a7,qW,h2,fl,e0,bx,lZ,dO,e3,ln,rfl⟩:=z;obtain⟨L,eW,BN⟩:=Y5d.7;refine YSY;intro aBY;refine hO (mx (kA rfl Y5d.1 rfl ⟨⟨_,_,eW⟩,aw (bQ (aw (kA rfl Y5d.1 rfl (aw (bQ (aw (L8 rfl rfl Y5d (eo aF:i<4) (aS ⟨_,_,Y5d.3 i q aF,_,rfl,aw (d6 (bc rfl ⟨_,_,f _ _ hf Xy,?_,aw (bc rfl (aS ⟨rfl,aS ⟨_,_,eW,au BN (au bj Y2),?_⟩⟩))⟩))⟩))))))))⟩))
  ·refine Y2H;exact au (au (au (Oe _ Y0J) (au Y1X he)) ao:hs.length≤799000) Y0J
  have XA:aB YTa m (upd m R.af (13,Y5 (L++[V.tup [ay cQ,Z8E,V.int (((hs.map h4).length:Nat):Int),Yh7]]))):=aB.at eW rfl;refine cZ (bc rfl (h _ bl a7 qW h2 ((f.weak ZkM).trans (XA.weak ZkL)) bx ⟨lZ.1.dq XA λt bq=>?_,lZ.2,?_,lZ.4⟩ dO (au e3 he) ln))
  ·exact Z52
  ·exact⟨cg eW Y5d.1,cg eW Y5d.2,λi q e=>cg eW (Y5d.3 i q e),cg eW Y5d.4,cg eW Y5d.5,cg eW Y5d.6,⟨_,Yc,by refine YKq;exact dX BN⟩,cg eW Y5d.8⟩
abbrev gN(m:ag)(A:b9)(R:eC)(tr:Bool)(most cQ u c:Nat)(P:cn)(S:bu):Y1:=iG Yj3 YRS ZV7 Y2j Z7S
theorem gN.vt{A:b9}{R:eC}{u c:Nat}{P:cn}{S:bu}(Z:ZOu)(F:Y6B):ZOs:=⟨YFj F,Z.2,Z.3.dq F rfl rfl rfl,Z.4,Z.5⟩
theorem gN.mid{A:b9}{R:eC}{u c:Nat}{P:cn}{S:bu}(Z:Y5a):tK mh A R tr most cQ u P S [] 0:=⟨Z.1,Z.2.mid,Z.3,Z.4⟩
theorem Gj{A:b9}{R:eC}{u c:Nat}{P:cn}{S:bu}(K:YN)(F:YZ)(M:Ypc)(he:Z7S)(ao:ZKC)(h:∀aW bl a7,Y4D→Y0Y→gN aW bl R tr most cQ u c YAB a7→Yfb→(YAf=fr.any λp=>h6 S.N P p.1 !=h6 S.N P p.2)→YFU):YgH:=
 arp K F M.1 M.2.1 M.4 (au he ao) λaW bl a7 f bx tJ asF n4 w=>by
  have z:=M.2.rest n4 asF w;refine h aW bl a7 f bx ⟨tJ,z.1,aV bx.symm Z5Q,aV n4.1.symm M.4,ZF3⟩ n4.1 ?_
  (refine xZ Bool.eq_iff_iff (aj ZX5 (aj (propext z.2) (aL (propext abO) (aa n4.1 ?_)))))
  exact exists_congr λp=>acP λO=>bne_iff_ne.symm
theorem XB{A:b9}{R:eC}{u c:Nat}{P:cn}{S:bu}(K:YN)(F:YZ)(Z:Y5a)(ao:ZKC)(h:∀aW bl a7,Y4D→Y0Y→gN aW bl R tr most cQ u c P a7→Yfb→YFU):YgH:=
 Gj K F Z.mid Z.5 ao λaW bl a7 f bx cw dO O=>h aW bl a7 f bx (eL P▸cw) dO
theorem asG{S:bu}(ar:YQX)(az:Y2j):(F7 S p).length≤169:=by
 exact au (xm (m:=13) λc O=>aj YF (Xa ar c)) (mI 13 (m:=13) ZEc)
theorem gN.found{A:b9}{R:eC}{u c:Nat}{P:cn}{S:bu}(K:YN)(F:YZ)(Z:Y5a)(aF:Y1t)(h:ZlV):aU g ZSd 233 [Yc6,Y4q] mh Q:=
 asd K F Z8s (lY (P:=λq=>vars YG≤100) Y2 Y2 Y2 Y2 q aF) (asn K F YAI Z.4 q aF) ⟨⟨0,Z.3.5⟩,Z.1⟩ YAI Z.4 λb aW ah f=>h b aW (Z8t▸ah) f
theorem gN.good{A:b9}{R:eC}{u c:Nat}{P:cn}{S:bu}(Z:Y5a)(aF:Y1t):(∀h∈YVF,YqB)∧(jo ZX q).length≤169:=⟨λh bJ=>Gi YW q aF h.2 ((Gg aF Z.2.1.wf (zF Z.2.r3).1 h).mp bJ).1,Z8t▸asG Z8s Z.4⟩
theorem XC{A:b9}{R:eC}{u c:Nat}{P:cn}{S:bu}(K:YN)(F:YZ)(Z:Y5a)(aF:YGI)(h:ZlV):aU g ZSe 331 [YA3,Y4p] mh Q:=by
 have af:i<4:=eo aF;refine Y02;intro gb gc gd;refine en (fo (aw (bQ (aw (kA rfl Y8h rfl (aw (bc rfl (aS ⟨_,_,Z.3.8,by refine aj List.length_replicate ?_;decide,YSZ,by exact aj (List.getElem?_replicate) (ZRO),aw (kA rfl Y8h rfl Y3o)⟩))))))));show a6 _ UG [Y2Y,Y3g,none] mh ZS Q;refine el (nj rfl Y8h rfl Z.3.5 (aw (bQ (aw (L8 rfl rfl Z.3 af (aS ⟨_,_,Z.3.3 i q aF,_,rfl,aS (Z.found K F Yjw λb m ah f=>?_)⟩))))));have B:=Z92.3;refine Yt;intro asH;refine en (Gh (fo (aw (mx (kA rfl B.1 rfl ⟨Zmx,aw (cst (aw (cst (aS ⟨_,_,_,B.4,rfl,aw (cst (aS ⟨rfl,iP (ic Y5E) (iP (b:=false) rfl (f9 (cZ (bc rfl (h b m ah f)))))⟩))⟩))))⟩)))))
 cases tr <;> exact absurd YAH Yf
theorem Gk{cl:Calls}{e:E}{b s:Mine.Internal.S}{t:dY}(h:Zd r m λv ab=>lst v ab λp O l=>∃P:Y2i,Z6F∧(∀r m,Y68→YWH∧YKd)∧∀v vs r m,Y7F→YWH∧j3 t yE.o.weak v r Yrd):a6 cl (Y0A yE [e] t b s) r m Qn Q:=h
theorem Mb{cl:Calls}{es:Yv}{p q u w CA f:Nat}{hs:Y3}(bo:YGJ)(hm:Ymt)(hf:YkX)(aF:ZU7)(cR:sI[dM]?=some Y3T)(hz:m z=some (w,ZD C hs))(h:Y2c r m λvs aH=>cl f (Y3T::vs) aH Q):(bH cl (Ya YiD Z0y es)).1 r m Q:=
 mx (bQ (aw (kA bo hm hf (aS ⟨_,_,aF,_,cR,⟨_,_,hz,trivial⟩,h⟩))))
theorem XD{cl:Calls}{p q u CA:Nat}{x:V}(bo:YGJ)(hm:Ymt)(hf:YkX)(aF:ZU7)(cR:sI[dM]?=YQ)(h:YFW):(bH cl Z0y).1 r m Q:=
 bQ (aw (kA bo hm hf (aS ⟨_,_,aF,_,cR,h⟩)))
theorem zI(f:ZAm):aB pW m ab:=f.weak ZkM
theorem asI:∀q∈cB,∀bS∈cB,ZGU:=by
 have n:∀{a b:Nat}{x y:cE×cE},ZVs=false→a=b→(a,x)=(b,y):=λh e=>absurd e Z48;refine lY (P:=λq=>∀bS∈cB,ZGU) ?_ ?_ ?_ ?_ <;> refine lY (P:=λbS=>Y3D=_→bS=_) ?_ ?_ ?_ ?_ <;> first | exact Zm | exact n rfl
theorem XE(most:Nat)(q:hQ)(hs:Y1P)(s:cv):n9 most [(q,hs)] s=((YMN.1,s.2++YMN.2),YMN.2.any λp=>h6 YMN.1 s.2 p.1 !=h6 YMN.1 s.2 p.2):=rfl
abbrev XF(mh:ag)(A:b9)(R:eC)(tr:Bool)(most u c:Nat)(r:Y12)(Q:Y0i):Y1:=∀ab bl a7 kh,YKg→Y0Y→ZOt→ZAU→Q r.2 ab
inductive asJ(mh:ag)(pl:Nat)(q:hQ)(d:YV)(r:bG)(m:ag):Y1
 |mk (e:Y9M) (iA:∀j∈d,∀bS,ZIr→bS≠q) (cT eY:Yp) (fB:r=[Y3J,Y2v,cT,eY,none])
variable{pl:Nat}
theorem asK{A:b9}{R:eC}{u c:Nat}{P:cn}{S:bu}(K:YN)(F:YZ)(aF:Y1t)(hm:Y3e)(Z:Y5a)(bj:Zcd)(ao:Yi6≤799000)(ar:YVj)(h:XF mh A R tr most (u+1) Yi6 (kE most q ZX) ZhN):aU g ZSe 388 [Y8T,Y34] mh Q:=by
 refine Y02;intro gb gc gd;refine Gk (XD rfl ar rfl Y8h rfl ⟨_,_,YRk,?_⟩);have aE:∀j,j<4→∃bS,ZIr:=λj aM=>⟨_,dy ZZQ⟩
 refine k0 YjK Zj3 (asJ mh pl q) ⟨rfl,λj aM=>ZDH,none,none,rfl⟩ (λd r m z=>aa z.1 (⟨0,YRk⟩)) Zhv Y3j
 ·obtain⟨rfl,iA,cT,eY,rfl⟩:=z;obtain⟨bS,vu⟩:=aE j (jK YgQ:j<4);refine cy (en (fo (aw (kA rfl (Z.3.3 j bS vu) rfl Yh5))));by_cases fq:Y3D=q.1
  ·have eq:=asI q aF bS ZNK fq;subst eq;refine lS (iI (V.str Y3D)) ?_;show a6 _ UW [Y3J,some (Y4 Y3D),YBK,some (Y0 (R.hM j)),none] m _ Q;refine Yt;intro XG;refine hO (Mb rfl ar rfl Y8h rfl YRi (aS (XB K F Z YSV ZjL)));have kF:=ZNi;refine Yt;intro aBZ;refine el (nj rfl kF rfl YDE (aw (bc rfl (aw (Mb rfl kF rfl YDE rfl YGg.5 (aw (kA rfl (YGg.3 j bS vu) rfl (aS (fg.found K F aF ZhM)))))))));have c9:=fg.vt f2;have mS:=fg.good aF;refine L9 (c:=Yi6) K F vu hm c9.mid mS.1 ZOx ao bj ah rfl λbF jd oV fr h2 cz pP nf lW c1 O=>?_;have CC:kE most bS ZX=((oV.N,YAB),ZOT):=by
    unfold kE
    (exact aj Z8o (aV tL ZCD))
   replace h:=aQ CC h;refine Yt;intro asL;refine hO (Mb rfl (cz _ _ ZNs rfl) rfl nf.3.1 rfl nf.1.1 (aS (Gj (k:=YDX) K F nf c1 ZEs λeK hr xq f4 vo qX vp hd=>cZ YSk)));show Q (YK ZL5) eK;exact aX ((dec_lt 0 h2).trans (l8 h2▸hd):ZL5=ZOT) (h eK hr xq cQ ((Yb9 f2.iO).trans ZK9) (vo.trans (pP.trans xu)) qX vp)
  ·refine iP (ic λz=>fq Z8I) (e8 _ _ ⟨rfl,λi af ck av=>?_,_,_,rfl⟩);rcases iw af with af | af
   ·exact iA i af ck av
   ·replace av:=bN (bR af) av;exact λz=>fq (congrArg _ ((c4 vu av).trans z))
 ·refine YM;obtain⟨rfl,iA,_,_,_⟩:=z;obtain⟨i,af⟩:=List.getElem?_of_mem aF;exact ax (absurd rfl (iA i ZWF q af))
theorem forR{cl:Calls}{e:E}{b s:Mine.Internal.S}{t:dY}(h:Zd r m λv ab=>v.EA False λn=>YB4∧∃P:Y2i,P YDl r ab∧Zlz∧∀v vs r m,Y7F→YH4∧j3 t false v r Yrd):a6 cl (Y0A nM [e] t b s) r m Qn Q:=h
theorem asM(l:YV):YxJ=((l.sum:Nat):Int):=by
 induction l with
 |nil=>rfl
 |cons a l ai=>
  have e:(intsOf ZAG).sum=YZx+YxJ:=yb;rw[e,ai,yb];rfl
theorem asN(a b:Nat):decide (0<a+b)=(decide (0<a)||decide (0<b)):=by
 cases a with
 |zero=>refine YgL;rfl
 |succ a=>rw[decide_eq_true (ew ZS4 Yk),decide_eq_true ZS4];rfl
def vv(most:Nat)(l:YR6)(s:cv):Y12:=l.foldl YsF Yay
abbrev asO(mh:ag)(A:b9)(R:eC)(tr:Bool)(most u c:Nat)(r:Y12)(Q:Nat→Y6):Y1:=∀ab bl a7 kh j,YKg→Y0Y→ZOt→ZAU→YAf=r.2→Q j ab
abbrev asP(mh:ag)(A:b9)(R:eC)(tr:Bool)(most cQ u c:Nat)(T:Y12)(n:Nat)(v0 v2:Yp)(r:bG)(m:ag)(P:Y1):Y1:=∀(bl:b9)(a7:bu)(e1:cn)(j:Nat)(hx:Yp),Yfk→Y0Y→gN m bl R tr most cQ (u+n) ZIJ e1 a7→T=(Y6m,YAf)→r=[v0,YBK,v2,hx,none]→P
abbrev asQ(mh:ag)(A:b9)(R:eC)(tr:Bool)(most cQ u c:Nat)(T:Y12)(n:Nat)(v0 v2:Yp)(r:bG)(m:ag):Y1:=∀P:Y1,asP mh A R tr most cQ u c T n v0 v2 r m P→P
variable{eY:Yp}
theorem turns{A:b9}{R:eC}{u c:Nat}{P:cn}{S:bu}(K:YN)(F:YZ)(hm:Y3e)(Z:Y5a)(bj:Ypg)(ao:Yi8)(h:∀ab bl a7 j hx,YKg→Y0Y→gN ab bl R tr most cQ (u+4) YCt YqE.1.2 a7→a7.N=YqE.1.1→YAf=YqE.2→Qn [Y2Y,YBK,Y81,hx,none] ab):a6 YSC UL Z9m mh Qn Q:=by
 refine forR Yhc;refine k0 cB.zipIdx Ysb (λd=>asQ mh A R tr most cQ u c (vv most YaB ZX) d.length Y2Y Y81)
  (λO bA=>bA A S P 0 eY Yy rfl Z rfl rfl) Y2L YIh Y3j
 ·refine ZHD;subst qY;refine Yb;have aq:=ZWe;have hd:Y5Y≤4:=by
   have w:=Y7c;rw[cj,g5]at w;exact(show 4=ZKI from w)▸YL9
  have qZ:ZIH:=by
   refine aj ZO (bN YK2 ?_);exact ZEd
  refine t1 (el (bQ (aw (bc rfl (aw (jS rfl cw.3.1 (aw (bc rfl (aw (jS rfl cw.3.1 (e5 rfl (XC (k:=k+1) K F cw aq ZhM))))))))))));have c9:=ZK6;have mS:=cw.good (et aq);refine aS (L9 (k:=YDW) (c:=YT5) K F aq hm c9.mid mS.1 ZOx qZ (ZEe:Zbd≤1000) ah rfl λbF jd oV fr h2 cz pP nf lW c1 O=>Y3o);show a6 _ UK [Y2Y,some (ay YVC),Y81,some (ay x.2),none] bF jq Q;refine hO (nj rfl nf.3.1 rfl nf.1.1 (aS (Gj (k:=YH8) K F nf c1 (au qZ Y2) λeK hr xq f4 vo qX vp aM=>f9 (Qr:=Q) (e8 _ _ (λO bA=>bA hr xq ZLk YVC _ (f.trans (f2.iO.trans ZK9)) (vo.trans Yny) ?_ ?_ rfl)))))
  ·rw[cj,sx,Du,←dw,←dw];exact qX
  ·have asR:vv most (YaA Yh) ZX=(YmR.1,YAf||YmR.2):=by
    unfold vv at vw ⊢;refine aX dK (aj wc (aT vw ?_));rfl
   have asS:YmR=((oV.N,ZLk),fr.any λp=>h6 oV.N e1 p.1 !=h6 oV.N e1 p.2):=by
    unfold kE;exact aj Z8o ZCD
   rw[asR,asS,vp,asN,←aM,l8]
 ·refine ZHD;subst qY;refine Yb;have fa:cB.zipIdx.map Yh=cB:=K2 cB;rw[fa]at vw;rw[vw]at h;exact f9 (Qr:=Q) (h m bl a7 j hx f bx cw rfl rfl)
theorem Gl{cl:Calls}{c:E}{elt:wG}{x:V}{N:Ys}(h:YvW YMu m λok ab=>cond ok (elt YMu ab λy Ed=>Y8q∧N ZDP Ed) Ydz):mV YJg false r Ywg elt x acc m N:=h
abbrev zJ:=YlK×Nat
def asT(most:Nat)(s0:cv)(Z:YKC)(s:cv):cv:=Z.foldl (λr z=>mA most Y5D (jo s0 Y5D) r) s
abbrev asU(mh:ag)(S:bu)(P:cn)(d:Z5G)(acc:Y3)(m:ag)(bU:Y1):Y1:=∀(W:YKC),Yf1=d→(acc=W.map ZlA)→(∀z∈W,m z.2=ZZu)→Y7L→bU
abbrev asV(mh:ag)(S:bu)(P:cn)(d:Z5G)(acc:Y3)(m:ag):Y1:=∀bU:Y1,asU mh S P d acc m bU→bU
theorem asW{A:b9}{R:eC}{u c:Nat}{P:cn}{S:bu}(K:YN)(F:YZ)(Z:Y5a)(h:∀ab(W:YKC)b,Yf1=cB.zipIdx→Y1y=some (0,Y5 (W.map ZlA))→(∀z∈W,ab z.2=ZZu)→Y0G→a6 YSC UM [Y2Y,Yp3,Y81,eY,Y6Z] ab Qn Q):ZAL:=by
 refine Yt;intro aB0;refine el Z3t;refine kf cB.zipIdx Ysb (asV mh S P)
  (λO bA=>bA ([]) rfl rfl YZ4 Yy) Y2L YYj Y3y
 ·refine Zf1;subst xv;have aq:=ZWe;have fg:=Z92;refine my (jS rfl YDE (e5 rfl (XC (k:=k+1) K F fg aq λb aH ah f2=>⟨?_,cf _ _ (λO bA=>bA (W++[(x,b)]) ?_ ?_ YOJ Y4y)⟩)))
  ·have w:=Y7c;replace w:=um YF (mL q0 YSg);exact ZDy
  ·refine aj dK (aT q0 ?_);rfl
  ·refine ZBP;rfl
  ·exact(iw hz).elim (λh=>f2 _ _ (rT z h) rfl) λh=>Y1T▸ah
 ·refine Zf1;subst xv;exact λb ah=>⟨0,h _ W b q0 Yc (λz hz=>cY ah (rT z hz)) ZNg⟩
abbrev asX(m1:ag)(A:b9)(R:eC)(tr:Bool)(most cQ u c:Nat)(P:cn)(S:bu)(d:YKC)(acc:Y3)(m:ag)(bU:Y1):Y1:=∀(bl:b9)(a7:bu)(fr:cn)(nq:YV),aB pW m1 m→Y0Y→tK m bl R tr most cQ Zbd P a7 fr nq.sum→Yv6=asT most ZX d YIw→YCZ≤ZIG→acc=a4 nq→YKJ→nq.length=d.length→bU
abbrev asY(m1:ag)(A:b9)(R:eC)(tr:Bool)(most cQ u c:Nat)(P:cn)(S:bu)(d:YKC)(acc:Y3)(m:ag):Y1:=∀bU:Y1,asX m1 A R tr most cQ u c P S d acc m bU→bU
theorem asZ{A:b9}{R:eC}{u c:Nat}{P:cn}{S:bu}(K:YN)(F:YZ)(hm:Y3e)(Z:Y5a)(bj:Ypg)(ao:Yi8)(h:∀ab bl a7 j hx mW,YKg→Y0Y→gN ab bl R tr most cQ (u+4) YCt YVt.1.2 a7→a7.N=YVt.1.1→YAf=YVt.2→Qn Z9n ab):ZAL:=by
 refine asW K F Z λm1 W b q0 ah rT f1=>?_;have rU:W.length=4:=cA (bt (f:=λz:zJ=>z.1)) (congrArg l5 q0);have as0:∀z∈W,∀d rest,W=ZKF→Y6g=d.length∧cB[Y6g]?=some Y5D:=λz hz d rest e=>by
  have w:(Yf1)[d.length]?=Zag:=by rw[e,dK,ra (by rw[bt];exact YW),bt,rf];rfl
  replace w:=eT q0 w;refine⟨?_,(pJ (N:=cB) (x:=Y5D) (j:=Y6g) (et w))⟩;replace w:=aQ (acD) w
  cases q:cB[d.length]? with
  |none=>replace w:=YCo;exact YLD
  |some y=>replace w:=YCo;exact((gQ (cu w)).2.symm.trans YVV)
 refine Yt;intro asu;refine el (d6 Z3t);have zA:nL 4=W.map ZlD:=by
  have w:nL 4=cB.zipIdx.map Ysb:=rfl;rw[w,←q0,kJ];rfl
 refine aa zA ?_;refine kf W ZlD (asY m1 A R tr most cQ u c P S)
  (λO bA=>bA A S ([]) ([]) Yy rfl ((Z.vt f1).mid) rfl Z.5 rfl YW rfl) Y2L YYj Y3y
 ·refine ZHG;subst qY;refine Yb;have aq:x∈W:=Y1o;have kS:=as0 x aq d rest e;have hd:Y5Y≤4:=by
   exact bL rU (bW e (aL cj (bW g5 YL9)))
  have mS:=Z.good (et kS.2);have qZ:ZIH:=by
   exact aj ZO (bN YK2 ZEd)
  have as1:=f _ _ ah rfl;have item:∀{cl:Calls}{Q':Yj},Q' Z1n m→(bH cl YPq).1 [some (ay Y1K),Y2Y,Y6Z] m Q':=λaF=>bQ (aw (bc rfl (aw (bc rfl (aS ⟨_,_,as1,by refine aj YF ZEP;decide,Z1n,by refine aj (gy) (dU kS.1 (gS e (aX YoW (dU Yoa ?_))));rfl,aF⟩)))));refine Gl (fo (aw (item (aw (cst (aS ⟨rfl,jS rfl M.3.1 (aw (bc rfl (aw (item (aS (L9 (k:=YDW) (c:=YT5) K F kS.2 hm M (λh bJ=>(mS.1 h bJ).up ln) (gR mR ZRl) qZ ZEe (f _ _ (rT x aq) rfl) rfl λbF jd oV tM h2 cz pP nf lW c1 Mc=>⟨?_,cf _ _ (λO bA=>bA jd oV tM (nq++[h2]) (f.trans cz) Yny ?_ ?_ ?_ ?_ ?_ ?_)⟩))))))⟩))))))
  ·exact aj YF (aj rH (au Zbj Y2))
  ·(refine acW cj (aa sx (acS ZO (aL ui (aL Ot ?_)))));exact nf
  ·refine aj lW (aX dO (aL wc ?_));rfl
  ·(refine fH cj (aa sx (bW YK2 YhO)));exact c1
  ·exact(dK (f:=ay) (l₁:=nq) (l₂:=[h2])).symm
  ·exact au ln Mc
  ·rw[cj,cj,rH];rfl
 ·refine ZHG;subst qY;refine ax (λe2 d7=>⟨0,_,_,Yc,K1 nq,aa (asM ..) ?_⟩);have M2:tK Ypu bl R tr most cQ (u+W.length) P a7 fr nq.sum:=⟨M.1.no Y5R,M.2,M.3.dq (p:=no) Y5R rfl rfl rfl,M.4⟩
  have fn:aB pW m Ypu:=Y5R;generalize Ypu=aH at M2 fn ⊢;have CC:YVt=((a7.N,YAB),fr.any λp=>YlF !=YlG):=by
   have LS:(cB.map Zjx).foldl YsB YIw=Yv6:=by
    rw[List.foldl_map,dO,(cA (K2 cB) ((congrArg (z9 Yh) q0.symm).trans kJ):cB=W.map λz=>Y5D),List.foldl_map];rfl
   show((YZu.1,P++YZu.2),YZu.2.any _)=_;exact aa LS rfl
  rw[CC]at h
  (replace M2:=acX rU M2;replace mR:=DE rU mR)
  refine Yt;intro aB1;refine hO (nj rfl M2.3.1 rfl M2.1.1 (aS (Gj (k:=YH8) K F M2 mR ZEs λeK hr xq f4 vo qX vp aM=>f9 (Qr:=Q) (h eK hr xq nq.sum eY _ (f1.iO.trans (f.trans (fn.trans ZfJ))) (vo.trans bx) qX vp aM))))
theorem as2(a b:α):cond true a b=a:=rfl
theorem as3(a b:α):cond false a b=b:=rfl
theorem as4{s:cv}:ZYg=vv most cB s:=by unfold roundN vv;exact as2 _ _
theorem as5{s:cv}:roundN false most s=ZVB:=by unfold roundN;exact as3 _ _
theorem as6{A:b9}{R:eC}{u c:Nat}{P:cn}{S:bu}(K:YN)(F:YZ)(hm:Y3e)(Z:Y5a)(bj:Ypg)(ao:Yi8)(h:asO mh A R tr most (u+4) YCt ZYf λj ab=>Q Y8u ab):aU g (k+25) 348 [YA3] mh Q:=by
 refine Y02;intro gb gc gd;refine B0 (aw (cst (aw (d6 (d6 (kA rfl Y8h rfl ⟨_,_,YRk,YEc,?_⟩))))));show a6 _ UO [Y2Y,Yp3,Y81,none,none] mh ZS Q;have fin:∀{cw:Y12},ZYf=cw→∀ab bl a7 j hx mW,YKg→Y0Y→gN ab bl R tr most cQ (u+4) YCt cw.1.2 a7→a7.N=cw.1.1→YAf=cw.2→a6 YSC UN Z9n ab ZS Q:=λCq ab bl a7 j hx mW f bx fg dO fe=>by
  replace h:=aQ Cq h;refine Yt;intro aB2;refine zg (bQ (aw (kA rfl YDE rfl Y8t)));refine⟨_,_,YDE,(Y2:6≤9),(Y2:9≤100),cZ (Qn:=ZS) (bc rfl ?_)⟩;have fr:aB YTa ab (upd ab R.r (5,ZD 358 [Yc7,Z1c,Z1Z,Yc6,Z1a,Z1X,ay ZIx,Z1b,Z1Y])):=aB.at YDE rfl;have B:=YGg;exact h _ bl a7 ZIx j (f.trans (fr.weak ZkL)) bx ⟨fg.1.dq fr λt bq=>Z52,fg.2,⟨Yc,cg B.1 B.2,λi q e=>cg B.1 Z2k,cg B.1 B.4,cg B.1 B.5,cg B.1 B.6,Ycs λL z=>⟨cg B.1 z.1,z.2⟩,cg B.1 B.8⟩,fg.4,fg.5⟩ dO fe
 refine Yt;intro aB3;refine hO (nj rfl Y8h rfl YRi (aS (XB (k:=YH8) K F Z YSV ZjL)));refine en (fo (aw (mx (kA rfl YDE rfl ⟨⟨_,_,_,YGg.4⟩,aw (cst (aw (cst (aS ⟨_,_,_,YGg.4,rfl,aw (cst (aS ⟨by cases tr <;> rfl,?_⟩))⟩))))⟩))))
 cases tr with
 |true=>
  exact turns K F hm fg bj ao λab bl a7 j hx f bx cw dO fe=>fin (by rw[←tL];exact as4) ab bl a7 j hx none YzV ZHQ cw dO fe
 |false=>
  exact asZ K F hm fg bj ao λab bl a7 j hx mW f bx cw dO fe=>fin (by rw[←tL];exact as5) ab bl a7 j hx mW YzV ZHQ cw dO fe
theorem kG{cl:Calls}{a s:Mine.Internal.S}{n x:Nat}(bo:Y1G=ZZr)(h:ZVt)(q:Y4C):ZAN:=en (fo (aw (bc bo (aw (cst (aS ⟨rfl,iP ZR6 YkF⟩))))))
theorem tN{cl:Calls}{a s:Mine.Internal.S}{n:Nat}(bo:Y1G=YXA)(q:ZAP):ZAN:=en (fo (aw (bc bo (aw (cst (aS ⟨rfl,lS (iI Yew) q⟩))))))
def XH(cl:Calls)(t:dY)(b s:Mine.Internal.S)(Qn:hg)(Qr:Yj)(vs:Y3):Y5U:=vs.rec YsE λv O ai r m=>j3 t false v r λb6=>a6 cl b b6 m ai Qr
theorem as7{cl:Calls}{b s:Mine.Internal.S}{t:dY}{l:Y3}(h:XH cl t b s Qn Qr l r m):∃P:Y2i,P l r m∧Yzb:=⟨XH cl t b s Qn Qr,h,λO O z=>ZnZ,λO O O O z=>ZnZ⟩
def hF(p:iD):Nat:=p.rec Y5m 4 ZgM YrL YrL λO n a=>n*a
def k1(p:iD):Nat:=p.rec Y86 0 (λO a=>a+2) Zg6 Zg6 λO O a=>a+2
def Md(p:iD):Y1:=p.rec (λq=>Y1t) True ZgM Zg7 Zg7 λO n a=>Y2W∧a
def r4(tr:Bool)(most:Nat)(l:YFP)(s:cv):YGR:=l.foldl (λr p=>(ZM8.1,r.2++[ZM8.2])) Yax
theorem XI{d:YFP}{x:iD}{s:cv}:r4 tr most YAc s=(ZM9.1,ZYG.2++[ZM9.2]):=by
 unfold r4;rw[wc];rfl
theorem gN.up{A:b9}{R:eC}{u c om ft:Nat}{P:cn}{S:bu}(Z:Y5a)(bj:u≤om)(ao:c≤ft):gN mh A R tr most cQ om ft P S:=⟨Z.1,Z.2,⟨Y8h,YRk,Z.3.3,Z.3.4,Z.3.5,Z.3.6,Z.3.7.imp λL z=>⟨z.1,au z.2 bj⟩,Z.3.8⟩,Z.4,au Z.5 ao⟩
abbrev r5(g:G)(k:Nat)(p:iD):Y1:=∀{mh:ag}{Q:Yj}{A:b9}{R:eC}{tr:Bool}{most cQ u c:Nat}{P:cn}{S:bu}{pl:Nat},Y3e→Y5a→u+YDM≤1000→ZII≤799000→YVj→XF mh A R tr most (u+YDM) ZII (eH tr most p ZX) ZhN→aU g k 381 [Y8T,YAn] mh Q
theorem Gm(l:YFP):hv (l.map gh)=true:=by
 cases l with
 |nil=>rfl
 |cons p l=>cases p <;> rfl
theorem as8(bs:Ydn):YtJ=ZHM:=by
 induction bs with
 |nil=>rfl
 |cons b bs ai=>cases b with
  |true=>rfl
  |false=>exact ai
theorem as9(K:YN)(F:YZ)(aF:Y1t):r5 g Y7p Z0m:=λ{mh Q A R tr most cQ u c P S pl}hm Z bj ao ar h=>by
 refine Y02;intro gb gc gd;refine ZMi;exact tN rfl (cZ (jS rfl ar (aw (hD 1 rfl Y4X rfl (aS (asK (k:=k+2) K F aF hm Z (ud bj) ao ar h))))))
theorem ata(K:YN)(F:YZ):r5 g Y7p YEt:=λ{mh Q A R tr most cQ u c P S pl}hm Z bj ao ar h=>by
 refine Y02;intro gb gc gd;refine ZMh;refine kG rfl rfl (tN rfl (cZ (bQ (aw (nj rfl ar rfl Y8h (aS (as6 (k:=k) K F hm Z bj ao λab bl a7 kh j f bx cw dO fe=>Y8t)))))));show Q (YK ZL6) ab;refine aX (show ZL6=YAf from dec_lt 0 j) (aX fe ?_);exact h ab bl a7 kh f bx cw dO
abbrev atb(mh:ag)(A:b9)(R:eC)(tr:Bool)(most u c n:Nat)(T:YGR)(l:Nat)(acc:Y3)(m:ag)(bU:Y1):Y1:=∀(bl:b9)(a7:bu)(e1:cn)(kh:Nat),Yfk→Y0Y→gN m bl R tr most kh (u+n) ZIJ e1 a7→Y6m=T.1→acc=T.2.map YK→acc.length=l→bU
abbrev atc(mh:ag)(A:b9)(R:eC)(tr:Bool)(most u c n:Nat)(T:YGR)(l:Nat)(acc:Y3)(m:ag):Y1:=∀bU:Y1,atb mh A R tr most u c n T l acc m bU→bU
theorem XJ{g:G}{k:Nat}(K:YN)(F:YZ){p:iD}{ps:YFP}(kC:YAn=YcU)(hw:ZQL)(aE:Y9S)(dk:∀{tr most s},YLW=(ZYH.1,ZYH.2.any id))(kY:∀q∈ps,r5 g (k+1) q):r5 g (k+2) p:=λ{mh Q A R tr most cQ u c P S pl}hm Z bj ao ar h=>by
 have aP:Yuw:=Yi1
 refine Ynn;refine Y02;intro gb gc gd;refine el (hD 0 rfl aP rfl ?_);show a6 _ UU [Y3J,some YcU,some YQ8] mh ZS Q;refine kG rfl rfl (kG rfl rfl (tN rfl (cZ (bQ (aw (tE (tF (d6 (bc rfl ⟨Y1X,aP,?_,?_⟩)))))))))
 ·exact Gm ps
 let atd:=λYOf YvI YJI=>atc mh A R tr most u c Yw9 ZYF d.length acc m;refine kf ps gh atd
  (λO bA=>bA A S P cQ Yy rfl Z rfl rfl rfl) Y2L YYj Y3y
 ·refine YM;refine Zf2;refine Yb;have aq:YY7:=Y1o;have ws:Yw9+hF x≤YDM:=by refine aL hw ZO4;exact Yk
  have kF:=ZNa;refine my (jS rfl kF (e5 rfl (kY x aq hm cw ?_ ?_ kF λaH gm cK q1 f2 kD c9 h5=>⟨?_,cf _ _ (λO bA=>bA gm cK ((eH tr most x Y6m).1.2) q1 Y4y Y9K ?_ ?_ ?_ ?_)⟩)))
  ·refine ZE4;exact au (c0 ws u) bj
  ·refine aj ZO (bN YI6 ?_);exact au (c0 (iu 676 ws) c) ao
  ·refine aj e4 ?_;exact Yh1
  ·rw[dK,ui,acE,Ot,uh,←dw,←dw];exact c9
  ·exact bW XI (aV dO (aT h5 rfl))
  ·refine fH XI (aV dO (aT Gn ?_));exact(dK (f:=V.bool) (l₁:=ZYF.2) (l₂:=[_])).symm
  ·rw[cj,e4,cj];rfl
 ·refine YM;refine Zf2;refine Yb;rw[←hw]at cw;refine aX Gn ?_;generalize cM:(r4 tr most ps ZX).2=bs;revert bs;refine Y17;intro bs cM;have ate:bs.length≤2:=by
   replace e4:=bN cM (aQ YF (bN Gn e4));exact aa e4 aE
  refine λb ah=>YOL
  have ip:=bw m b YZd;have f1:aB no m Zc4:=Y11;generalize Zc4=m1 at ip f1 ⊢;refine kf bs V.bool (λd acc aH=>m1=aH∧acc=(d.filter id).map YrV) Zn (λd acc aH z=>aV z.1 (⟨0,ip⟩)) (λd x rest e acc aH z N cf=>?_) λacc aH z=>?_
  ·obtain⟨rfl,rfl⟩:=z
   cases x with
   |true=>exact Gl ⟨au (au (by refine Y2H;exact YI5) (au YSv ate)) Y2,cf _ _ ⟨rfl,by refine ZGY;rfl⟩⟩
   |false=>exact Gl (cf _ _ ⟨rfl,by refine ZGY;exact Y8I⟩)
  ·obtain⟨rfl,rfl⟩:=z;refine λe2 d7=>⟨0,λgg iQ=>⟨0,_,_,cY iQ Yc,_,_,Yc,λhz=>?_,?_⟩⟩
   ·refine gz (p5 hz) ?_;rfl
   ·show Q (YK YtJ) _;refine aX (as8 ..) ?_;have f2:=(f1.trans (aB.new (x:=(0,Y5 Ya5)) d7)).trans (aB.new (x:=Y5p) iQ);replace h:=yj cM (aQ dk h);exact h _ bl a7 kh (f.trans f2.iO) bx ((congrArg Prod.snd dO)▸ZK6) (congrArg NW dO)
theorem XK{u w b n:Nat}(h:u+b≤n)(e:YqF):u+w+a≤n:=aj ZO (au (c0 e u) h)
theorem XM{c w b n:Nat}(h:c+676*b≤n)(e:YqF):ZIK+676*a≤n:=aj ZO (bN YI6 (au (c0 (iu 676 e) c) h))
theorem atf{g:G}{k:Nat}(K:YN)(F:YZ){a b:iD}(aD:ZYI)(ah:r5 g k b):r5 g (k+2) Y9w:=λ{mh Q A R tr most cQ u c P S pl}hm Z bj ao ar h=>by
 refine gJ ZT K rfl Y2 (el (hD 0 rfl Y5H rfl (kG rfl rfl (kG rfl rfl (kG rfl rfl (tN rfl (cZ (jS rfl ar (aw (d6 (bc rfl ⟨fp 1 2,Y5H,Gm Y1R,aS (gJ ZT K rfl Y2 (WI (bc rfl (as7 ?_))))⟩)))))))))));show a6 ZH FK [Y3J,ZZt,ZaH] mh (λr m=>a6 ZH FK (r.set 2 ZaI) m (λr m=>a6 ZH UY r m ZS Q) Q) Q;refine Yt;intro aB4;refine(en (Cz rfl ar (e5 rfl (aD hm Z (au ZIR bj) (au ZIT ao) ar λm1 CB qO atg f1 xu fg tL=>?_))));have hE:eH tr most Y9w ZX=cond YGY.2 YGY YjX:=rfl;replace h:=YgA
 cases e:YGY.2 with
 |true=>
  replace h:=YLn;exact cZ (Qn:=ZS) (cst (aV e (h m1 CB qO atg f1 xu (fg.up ZIR ZIT) tL):Q Y0h m1))
 |false=>
  replace h:=YLn;have kF:=ZNi;show a6 _ FK [Y3J,ZZt,ZaI] m1 _ Q;refine Yt;intro aB5;refine en (Cz rfl kF (e5 rfl (ah hm fg (XK bj YW) (XM ao YW) kF ZhF)))
  (replace c9:=mK YI6 (Aq ZO (lG ZO c9));rw[tL]at c9)
  (rw[tL]at h5;refine aa tL ?_)
  show cond YjX.2 _ _;have q:=h aH gm cK q1 Y7i (kD.trans xu) c9 h5
  cases aC:YjX.2 with
  |true=>exact cZ (Qn:=ZS) (cst (aC▸q:Q Y0h aH))
  |false=>exact cZ (Qn:=ZS) (cst (aC▸q:Q Y1A aH))
theorem XN{f:Y4v}{n:Nat}{zH:Bool}{s:cv}:Cy f (n+1) zH s=cond (f s).2 (Cy f n true YOr) Yta:=rfl
abbrev ath(mh:ag)(A:b9)(R:eC)(tr:Bool)(most u c w:Nat)(T:Y12)(F:Y4v)(n:Nat)(b:Bool)(v0 v1 v2:Yp)(r:bG)(m:ag)(bU:Y1):Y1:=∀(bl:b9)(a7:bu)(e1:cn)(kh:Nat)(eY:Yp),Yfk→Y0Y→gN m bl R tr most kh (u+w) ZIK e1 a7→T=Cy F n b Y6m→r=[v0,v1,v2,eY]→bU
abbrev ati(mh:ag)(A:b9)(R:eC)(tr:Bool)(most u c w:Nat)(T:Y12)(F:Y4v)(n:Nat)(b:Bool)(v0 v1 v2:Yp)(r:bG)(m:ag):Y1:=∀bU:Y1,ath mh A R tr most u c w T F n b v0 v1 v2 r m bU→bU
theorem atj{g:G}{k:Nat}(K:YN)(F:YZ){a:iD}{n:Nat}(az:Y2W)(aD:ZYI):r5 g (k+2) YF7:=λ{mh Q A R tr most cQ u c P S pl}hm Z bj ao ar h=>by
 refine gJ ZT K rfl Y2 (el (hD 0 rfl Y5H rfl (kG rfl rfl (kG rfl rfl (kG rfl rfl (kG rfl rfl (tN rfl (cZ (jS rfl ar (aw (hD 1 rfl Y5H rfl (aw (hD 2 rfl Y5H rfl (aS (gJ ZT K rfl Y2 (forR (d6 (bc rfl ZnB))))))))))))))))));refine k0 Y6K ay (λd=>ati mh A R tr most u c YTf (eH tr most YF7 ZX) ZM6 YHQ YTq Y3J ZaH YHp)
  (λO bA=>bA A S P cQ none Yy rfl (by rw[Hl,Oo];exact Z) rfl rfl) Y2L YIh Y3j
 ·refine ZHE;subst qY;have w:YwJ:=YSx
  have hd:ZKJ:=ZHY
  have ex:ZeV:=ZHt
  have ws:ZKH:=ZdQ;obtain⟨j,fe⟩:ZmS:=ZnU
  refine Yb;have Me:ZUx:=ZHc
  replace hE:=bL XN (pf fe hE);have kF:=ZNa;refine t1 (en (L6 (Cz rfl kF (e5 rfl (aD hm cw (XK bj ws) (XM ao ws) kF ZhF)))));rw[dw,dw,←uh,←wb]at c9;show cond (! YjV.2) _ _
  cases cM:YjV.2 with
  |true=>
   rw[cM]at hE;refine e8 _ _ (λO bA=>bA gm cK (YjV.1.2) q1 _ Y4y Y9K ?_ ?_ rfl)
   ·refine ZCp;exact c9
   ·rw[cj,sx,Me,ZLC,h5];exact hE
  |false=>
   replace hE:=ZWp;replace h:=YgA;refine ZCw;refine ZJ7;show Z6b;exact ZZO▸(h aH gm cK q1 Y4y Y9K (c9.up (c0 YMR u) (c0 (iu 676 YMR) c)) h5)
 ·refine ZHE;subst qY;refine Yb
  (rw[fN]at cw;rw[fN]at hE)
  rw[rf]at hE;replace h:=YgA;refine cZ YSk;show Z6c;exact ZZP▸h m bl a7 kh f bx cw rfl
theorem vx(k c a b:Nat):k+c+(a+b)=k+b+c+a:=dS (fO k b c) (aL (dw (k+c) ..) (bW ZPC rfl))
theorem Mf(k a:Nat):Y7p+a+1=k+1+26+a:=aj (fO Y7p a 1) (dS (fO k 26 1) rfl)
theorem atk{k:Nat}(K:YN)(F:YZ){p:iD}(ok:Md p):r5 g (Y7p+k1 p) p:=by
 induction p generalizing k with
 |once q=>exact as9 K F ok
 |all=>exact ata K F
 |seq1 a ai=>
  exact @XJ g ZSg K F YcL [a] rfl YZo Y5G ZlJ λq aF=>aa Y0H (aa Ydx ZDn)
 |Cx a b eh eQ=>
  refine @XJ g ZSf K F Yzm Y1R rfl Yvy Y5s Yza YOF
  ·exact aa e (aa Ydx YSI)
  ·exact aa Y0H (aa Ydx YSF)
 |either a b eh eQ=>
  refine @atf g ZSf K F a b ?_ ?_
  ·exact YSI
  ·exact YSF
 |rep a n ai=>exact @atj g ZSg K F a n YHW ZDo
def lz(T:Y3)(x:a8):V:=YD (YCA::Y5A λc=>Z82)
def bM(N:Yd):Y3:=N.foldl Zgx []
theorem xw(N:Yd)(x:a8):bM YA9=Yr++[YHJ]:=wc
theorem iE(N:Yd):Y8E=N.length:=by
 have h:∀T:Y3,(N.foldl Zgx T).length=T.length+N.length:=by
  induction N with
  |nil=>exact Zm
  |cons x N ai=>exact λT=>YvN
 exact(h []).trans YVV
theorem XO(N X:Yd):∃Y,ZGJ=Yr++Y:=by
 induction X generalizing N with
 |nil=>exact⟨[],aL Y1U ZJw⟩
 |cons x X ai=>exact(ai YA9).elim λY e=>⟨YHJ::Y,by rw[show N++x::X=YA9++X from(hG N [x] X).symm,e,xw,hG];rfl⟩
theorem Gp{X:Yd}(af:Y2r):ZGJ[i]?=Y8F:=(XO N X).elim λY e=>by exact aT e ((qb (aL Y3c af)))
theorem atl{T iY:Y3}{x:a8}(h:∀c∈x.2,Z84):lz T x=lz iY x:=congrArg (λl=>V.tup (YCA::l)) (sv λc ao=>by rw[ho,ho,YUi])
theorem tO(W:Y0a){x:a8}(h:Y4g):Y8F=Yp9:=by
 have af:=eo h;have e:N=Ye2++YR9:=by
  have aJ:N.drop i=x::YR9:=by refine um (YmA.2) ?_;exact NV af
  exact aL Y0k (bW List.singleton_append (fU aJ ((Ai ..).symm)))
 have li:(N.take i).length=i:=Oi YUp;have aC:Y8F=(bM Ye2)[i]?:=by
  have w:=Gp (N:=Ye2) (X:=YR9) (i:=i) (aL cj (dS li YW8));replace w:=gT e w;exact w
 refine aj aC (aT YNl (aj (ra (aj Y3c (aj li YW))) (dU Y3c (dU li (aX Yoa ?_)))));refine congrArg some (atl Yre);have w:=Gp (N:=Z5W) (X:=[x]++YR9) (i:=c) (aL li ((W.2 i x h).2.2 c ao));replace w:=gT e (gT Y0k w);exact w.symm
theorem atm{g:YKE}{l l':YV}(h:∀a∈l,∀b∈l',g a=g b→a=b)(e:l.map g=l'.map g):l=l':=by
 induction l generalizing l' with
 |nil=>cases l' with
  |nil=>rfl
  |cons _ _=>exact ZDJ
 |cons a l ai=>cases l' with
  |nil=>exact ZDI
  |cons b l'=>
   have e:=YGi;exact aT (h a b3 b b3 e.1) (congrArg _ (ai (λa aD b ah=>h a ZMD b YjY) e.2))
theorem CD(h:Y2r):∃x,Y4g:=⟨_,YTu⟩
theorem atn(W:Y0a):∀(n i j:Nat)(v:V),i<n→YIz→Yr[j]?=Ym→i=j:=by
 intro n
 induction n with
 |zero=>exact λi O O h=>YCe
 |succ n ai=>
  intro i j v BP af aM;have lt:∀{i v},YIz→Y2r:=λh=>by have w:=eo h;replace w:=ZGD;exact w
  obtain⟨x,aq⟩:=CD (lt af);obtain⟨y,bb⟩:=CD (lt aM);replace af:=aQ YNO af;replace aM:=aQ ZbO aM;have e:=g4 (V.tu ((cu af).trans (cu aM).symm));have i5:x.2=y.2:=atm (λa aD b ah q=>by
   have e4:=YRg.2.2 a aD;have ga:Yr[a]?=some (Y8D a Y7):=by rw[ho,dy (by rw[iE];exact lD e4 (lt YNO))];rfl
   have sN:Yr[b]?=some (Y8D b Y7):=by rw[ho,dy (by rw[iE];exact lD ((W.2 j y bb).2.2 b ah) (lt ZbO))];rfl
   exact ai a b _ (ew e4 ZQj) ga (aa q sN)) e.2
  exact(xX YLa W.1).mp (aq.trans ((iF (V.str_inj e.1) i5:x=y)▸bb.symm))
theorem Mg(W:Y0a):(bM N).Nodup:=HD (N5.mpr λi j af aM gK e=>ej gK (atn W (i+1) i j _ YW8 Y2o (aa e ZLW)))
def lA(L:Y3):dm:=dW id (hi L)
open Classical in
theorem Mh{L:Y3}{v:V}(bZ:L.Nodup)(h:L[i]?=Ym):YiI=Y3g:=by
 have e:ZIl:=ZXe;obtain⟨j,fe,aM⟩:=w6 YUF;refine aj e (aX fe (dU ((xX YLZ bZ).mp (aM.trans h.symm)) ?_));rfl
open Classical in
theorem ato{L:Y3}{v:V}(h:v∉L):YiI=none:=by
 have e:ZIl:=ZXe;rw[e,YdV];rfl
open Classical in
theorem atp{L:Y3}{v:V}(h:v∉L):eE ZTd v (ay L.length)=lA (L++[v]):=by
 unfold lA;exact bW Z8Q (zi (kv:=id) Y4T YdV)
def fL(T:Y3)(t:Tab)(p:cE):V:=p.rec (λn=>T.getD YBp Y7) Zjk Zja ZjZ
theorem atq{T iY:Y3}{t:Tab}{n:Nat}(h:∀c,c<n→Z84)(ah:YLX):YkL=fL iY t p:=by
 induction p with
 |v x=>
  obtain⟨c,e,ao⟩:=ah;show Z81=iY.getD YBq Y7;rw[e,ho,ho];exact congrArg (·.getD Y7) YUi
 |c o=>rfl
 |u o a ai=>exact ZJp
 |b o a b eh eQ=>
  show V.tup [ZE,fL T t a,fL T t b]=V.tup [ZE,fL iY t a,fL iY t b];exact ZCb
theorem Mi{T:Y3}(ah:YAi):fL T [] p=Zk:=by
 induction p with
 |v x=>exact ah.elim Yrg
 |c o=>rfl
 |u o a ai=>exact ZJp
 |b o a b eh eQ=>
  show V.tup [ZE,fL T [] a,fL T [] b]=V.tup [ZE,bB a,bB b];exact ZCb
theorem Mj{t:Tab}{M:Yd}(h:YBb)(ah:YAj):fL (bM M) t p=YDC:=h.elim λX e=>atq (λc ao=>e▸Gp ao) ah
theorem XP{x:a8}(W:Y0a)(aq:x∉N)(aA:YGv)(aE:YII)(aR:∀c∈x.2,YLA):fm YA9:=⟨Dz ⟨W.1,Y7t,Zh2⟩,λi y bb=>by
 by_cases q:Y2r
 ·replace bb:=aQ ZXn bb;exact W.2 i y bb
 ·have e:i=N.length:=mG (hp (by have w:=eo bb;replace w:=YSg;exact w)) Y9D;replace bb:=aQ (ug) YhU;exact aa e (aV Yip ZnA)⟩
theorem CE{o:Nat}{r:Y8a}(W:fm r.1)(aA:Y4K)(aE:YoR≤2)(aR:∀c∈r.2,c<YHh):fm Y6p∧ZGK[Y8J]?=some ZU3:=by
 by_cases h:YP6
 ·obtain⟨i,e,af⟩:=w6 h;have w:=Z3B;have aJ:YOm:=w.1;have aC:Y8J=i:=w.2;rw[aJ,aC];exact⟨W,ZbN⟩
 ·have w:=zB h;have aJ:YJC:=w.1;have aC:YaI:=w.2;rw[aJ,aC,xw,←iE r.1];exact⟨XP W h aA aE aR,ug⟩
theorem r6{t:Tab}:∀{N:Yd},Y0a→Yku→YAj→fm Y6s∧(bM Y6s)[YBn]?=some YDC:=by
 have Mk:∀{T:Y3}{i:Nat}{v:V},T[i]?=Ym→T.getD i Y7=v:=λh=>by refine aj (ho) YFt;rfl
 induction p with
 |v x=>
  intro N W _ ah;refine YM;obtain⟨c,e,ao⟩:=ah;refine Yb;have aC:(putN t (.v x) N).2=c:=by show YBq=c;refine YCa;rfl
  refine mL aC (⟨W,?_⟩);show Ya3=some (Y8D YBq Y7)
  (refine aa e (bW (ho) ?_))
  show Ya3=some (Yr[c]?.getD Y7);rw[ZLU];rfl
 |c o=>exact λW aA ah=>CE (r:=(_,[])) W Yff Z0 Zhn
 |u o a ai=>
  intro N W aA ah;have aA:=cL Yff;have ak:=ai W (YY aA.2) ah;have m:=CE (o:=o) (r:=Ytk) ak.1 aA.1 Y5G λc ao=>aj (bR ao) ((kg (p:=a) W.1 ah).2);refine ZnR;show V.tup [ZE,(bM Y1g.1).getD YEj Y7]=V.tup [ZE,ZO6];exact aa (Mk ak.2) rfl
 |b o a b eh eQ=>
  intro N W aA ah;refine pg Yff YIf;have ak:=eh W YbT Y2R;have dD:=kg W.1 Y2R;have d7:=ZTk;have av:=eQ ak.1 Z0N d7;have w2:=kg YGT d7;have m:=CE (o:=o) (r:=Ytl) YG3 bD Y5s λc ao=>Ywd (λe=>aj e Yk6) λh=>aj Y1T Y5l;refine ZnR;show V.tup [ZE,YvZ YEj Y7,YvZ Y7y.2 Y7]=V.tup [ZE,ZO6,fL Yr t b];exact aa (Mk YG4) (aa (Mk (YEE.2.elim λX e=>by refine gT e (aj (Gp dD.2) ?_);exact ak.2)) (aa (Mj YTj Y2l) rfl))
structure fu where
 (b T L:Nat)
def gw(p:Y0j):V:=YD [ZFL,Y7W]
noncomputable abbrev gO (B:fu) (pp:Nat) (ext:dm):dm:=(YcP,Z1V)::(Z1z,Z1U)::(YcN,YcB)::ext
abbrev fv(m:ag)(B:fu)(s:cv)(ext:dm):Y1:=jd (∃pp,m B.b=Za6∧m pp=some (0,Y5 YN1)) (m B.T=some (12,Y5 YhS)) (m B.L=some (20,Y9 4 (lA YhS)))
variable{ext:dm}{B:fu}
theorem fv.dq{p:Z9}{s:cv}(Z:ZOa)(F:YFo)(h0:YWI)(da:p 4=false)(atr:p 12=false)(ats:p 20=false):ZOX:=⟨Yf4 λpp z=>⟨F _ _ z.1 da,F _ _ z.2 h0⟩,F _ _ Z.2 atr,F _ _ Z.3 ats⟩
theorem fv.no{s:cv}(Z:ZOa)(F:Y6B):ZOX:=Z.dq F rfl rfl rfl rfl
noncomputable abbrev jF:Z9:=cl 4
def jG(N:Yd):Y1:=∀v∈Yr,ZOB
theorem XQ(n:Nat):∀v,YGe→fV (n+1) v=true:=by
 induction n with
 |zero=>exact Zc
 |succ n ai=>
  intro v h;refine YM;obtain⟨vs,e,h⟩:=V.ph ZZS;refine ax YgI
  cases vs with
  |nil=>exact Y0L
  |cons a r=>
   have h:=Y1q;exact lF ⟨h.1,sz λx aq=>ai x (ju h.2 x aq)⟩
theorem k2{n m:Nat}(h:YB5){v:V}(t:YGe):fV m v=true:=h.rec t λO ai=>XQ _ v ai
theorem r7{n:Nat}{o:Nat}:fV (n+1) Y2P=true↔∀v∈vs,YGe:=(show(true&&vs.all ZOC)=true↔_ from aX Zec (NC))
theorem kH{cl:Calls}{n p:Nat}{x:V}(bo:Y1G=Yoy)(hm:m p=YpC)(cR:c8 es ZM=YQ)(h:YFW):(bH cl (.op fc Z9y)).1 r m Q:=bQ (aw (bc bo (aw (cst (aS ⟨_,_,_,hm,rfl,_,cR,h⟩)))))
theorem XR{P:cn}{o:Nat}(Z:Y3p)(W:Y0a)(aE:Y8b)(aA:Y4K)(av:YgJ)(aR:∀c∈aZ,YLA)(aO:Z8K=ZU1)(bq:fV 8 Y2P=true){cT:Yp}(h:∀ab,Y8n→fv ab B (YEd,P) ext→Q (ay Y91.2) ab):a6 ZH KQ Z9k mh ZS Q:=by
 refine YM;obtain⟨pp,ah,nr⟩:=Z.1;refine Yb;have oW:ZIk:=rfl;have xx:YTD:=rfl;refine Yt;intro aB6;refine en (fo (aw (bc rfl (aw (kH rfl ah oW (aS ⟨_,_,_,Z.3,bq,?_⟩))))));by_cases hm:Z6∈N
 ·obtain⟨i,e,af⟩:=w6 hm;have w:=Z3B;have aJ:YEd=N:=w.1;have aC:Y91.2=i:=w.2;rw[aJ,aC]at h;have l0:c8 ZTc Y2P=Y3g:=Mh Z5R (aa aO ZbN);refine OU l0 ?_;show a6 ZH U7 Z9k mh ZS Q;refine Yt;intro aB7;exact cZ (bQ (aw (kH rfl ah oW (aw (bc rfl (aS ⟨_,_,_,Z.3,bq,_,l0,h mh Yy Z⟩))))))
 ·have w:=zB hm;have aJ:YEd=YFQ:=w.1;have aC:Y91.2=N.length:=w.2;rw[aJ,aC]at h;have att:=XP W hm aA av aR;have bZ:=Mg att;replace bZ:=sC aO (bL YNl bZ);have uv:Z8K∉Yr:=λq=>(HE bZ).2.2 _ q _ Y2t rfl;refine OU (ato uv) ?_;have vy:Yvc:=aj Y3c aE;show a6 _ U6 _ _ _ _;refine Yt;intro aB8;refine tq (d6 (kH rfl ah xx ⟨_,_,Z.2,Yh2,kH rfl ah oW (bc rfl ⟨_,_,_,Z.3,bq,?_,?_⟩)⟩))
  ·exact aj YF (aj Z8P Yh2)
  have atu:eE ZTc Y2P (YI ((Y8E:Nat):Int))=YVW:=atp uv;refine aa atu ?_;have f1:aB jF mh ZcG:=aB.at Z.3 rfl;have Ml:=bw mh B.L (20,ct.dict 4 YVW);have tP:upd mh B.L YIu B.T=some (12,Y5 Yr):=cg Z.3 Z.2;have ip:upd mh B.L YIu B.b=Za6:=cg Z.3 ah;have kF:upd mh B.L YIu pp=ZZv:=cg Z.3 nr;generalize ZcG=m1 at f1 Ml tP ip kF ⊢;refine hO (mx (kH rfl ip xx ⟨⟨_,_,tP⟩,e5 rfl ⟨_,_,tP,Yh2,?_⟩⟩));have vw:bM YFQ=YCn:=aj YNl (sC aO rfl);have l0:c8 YVW Y2P=some YG5:=Mh bZ (iE N▸ug);exact f9 (Qr:=Q) (cZ ((bQ (aw (kH rfl ZJc oW (aw (bc rfl (aS ⟨_,_,_,ZJb,bq,_,l0,h _ (f1.trans (aB.at tP rfl:aB jF m1 Zc9)) (⟨⟨pp,ZJc,cg tP kF⟩,by refine aa vw ?_;exact Yc,aa vw ZJb⟩:fv Zc9 B (YFQ,P) ext)⟩))))))))
theorem Gq{l:Y3}(h:∀v∈l,Zch):ZQn:=by
 cases l with
 |nil=>rfl
 |cons a r=>exact(V.ph (show a.eM false Y29=true from YGp)).elim Zkm
theorem Mm{n:Nat}{v:V}(h:YGe):Zch:=by
 cases n with
 |zero=>exact Y0L
 |succ n=>exact(V.ph ZZS).elim Zkm
abbrev atv(mh:ag)(B:fu)(N:Yd)(P:cn)(ext:dm)(st:Ydr)(J:Ydq)(ll:Y5N)(d:ZC)(r:bG)(m:ag)(bU:Y1):Y1:=YFm→ZOZ→J YGS→∀(cT:Yp),r=ll cT→bU
abbrev atw(mh:ag)(B:fu)(N:Yd)(P:cn)(ext:dm)(st:Ydr)(J:Ydq)(ll:Y5N)(d:ZC)(r:bG)(m:ag):Y1:=∀bU:Y1,atv mh B N P ext st J ll d r m bU→bU
theorem XS{P:cn}(F:YZ)(l:ZC)(kv:Y6h)(st:Ydr)(J:Ydq)(va:J N){o:Nat}(aE:l.length≤2)(bq:∀v∈Y7s,fV 7 v=true)(Z:Y3p)(H:∀d x rest,l=YCw→∀(m:ag)(Q':Yj),YFm→ZOZ→J YGS→(∀v ab,ZAn→fv ab B (Zam,P) ext→J Zam→Q' v ab)→aU g k 655 [Y1Z,Y3t] m Q')(h:∀m cT,YFm→fv m B (ZTS,P) ext→J ZTS→a6 ZH KQ Z9j m ZS Q)(K:YN):aU g (k+1) 655 [Y1Z,Z29] mh Q:=by
 have aP:(YKQ::Y7s).length≤1000001:=YFz;refine Y02;intro gb gc gd;refine WI (d6 (bc rfl ⟨Y1X,aP,Gq λv aO=>Mm (bq v aO),?_⟩));refine k0 l kv (atw mh B N P ext st J λcT=>Z9j) (λO bA=>bA Yy Z va none rfl) Y2L YIh Y3j
 ·refine Zf4;subst xy;exact t1 (hO (eZ (oS rfl rfl (H d x rest e m _ f cw j λv ab dZ c9 xt=>f9 (Qr:=Q) (e8 _ _ (λO bA=>bA YUR (aT wc c9) (aL wc xt) _ rfl))))))
 ·refine bp λax=>Zf4;subst xy;exact ax (h m cT f cw j)
theorem fold_same(l:ZC)(N:Yd):l.foldl (λ(N:Yd)(_:α)=>N) N=N:=by
 induction l with
 |nil=>rfl
 |cons a l ai=>exact ai
theorem atx{P:cn}(K:YN)(F:YZ)(W:Y0a)(c2:Y52)(aE:Y8b):∀(n i k:Nat)(v:V){mh:ag}{Q:Yj},i<n→Y3p→YIz→(∀ab,Y8n→fv ab B (N,P) ext→Q Y4p ab)→aU g (k+1+i) 655 [Y1Z,v] mh Q:=by
 intro n
 induction n with
 |zero=>exact λi O O O O h=>YCe
 |succ n ai=>
  intro i k v mh Q BP Z aO h;have Mn:Y2r:=ZHZ
  obtain⟨x,aq⟩:=CD Mn;have e:=c4 aO YNO;have Gr:ZOB:=c2 v ZNH;have dI:=YRg
  (replace Gr:=bN e Gr;refine oh e ?_)
  refine kK Y98 (XS F x.2 Yrh (λN O=>N) Y5n trivial YLM (r7.mp Gr) Z (λd c rest iW m Q' f cw O dp=>?_) (λm cT f cw O=>?_) K)
  ·have ao:c<i:=dI.2.2 c YgQ;obtain⟨j,fe⟩:=Nat.exists_eq_add_of_lt ao;have lv:k+i=k+j+1+c:=aX fe (dS (dw k j 1) (aL YjO (bW (gi (j+1) c) (congrArg _ (dw c ..)))))
   (replace cw:=ZMT;rw[fold_same]at dp)
   refine kK lv (ai c (k+j) _ (ew ao ZQj) cw ?_ λab dZ c9=>dp _ ab dZ c9 trivial);rw[ho,dy (by rw[iE];exact lD ao Mn)];rfl
  ·replace cw:=ZMT;have w:=Cr W.1 aq;have aC:ZMM.2=i:=w.2;exact XR cw W aE dI.1 YLM (λc ao=>lD YjA Mn) rfl Gr λab dZ c9=>aa aC (h ab YUR ((w.1:ZMM.1=N)▸c9))
theorem Mo{t:Tab}(ps:Y2C):∀N,YBB.1=ps.foldl Zfx N:=by
 induction ps with
 |nil=>exact Zm
 |cons p ps ai=>exact λN=>ai _
theorem aty{o:Nat}(c2:Y52)(h:fV 8 ZU1=true):jG YEd:=by
 by_cases q:Z6∈N
 ·exact aL (show YEd=N from ZU) c2
 ·refine aL (show YEd=YFQ from ZN) ?_;intro v aO;replace aO:=bL YNl aO;exact YxO (c2 v) λe=>aX (bR e) h
abbrev Gs(g:G)(k:Nat)(B:fu)(P:cn)(ext:dm)(t:Tab)(p:cE):Y1:=∀{mh:ag}{Q:Yj}{N:Yd},Y3p→Y0a→Y52→N.length+ZV≤13→YAj→fV 8 YDC=true→(∀ab,Y8n→fv ab B (Y6s,P) ext→jG Y6s→Q (ay YBn) ab)→aU g YmM 655 [Y1Z,YDC] mh Q
theorem XT{P:cn}(K:YN)(F:YZ){t:Tab}{n:Nat}:Gs g k B P ext t Y0r:=λ{mh Q N}Z W c2 az ah bq h=>by
 refine YM;obtain⟨c,e,ao⟩:=ah;refine Yb;have aC:Yao=c:=by show YBp=c;refine YCa;rfl
 rw[aC]at h;have c1:YkJ:=ZI4
 refine oh c1 ?_;have lv:YH7+dep Y0r=k+Z2N+1+c:=by refine aL (fO _ 1 c) (dS (dw k Z2N c) (mL (x8 (h9 (ew ao az):c≤13)) ?_));rfl
 refine kK lv (atx K F W c2 Y07 (c+1) c _ _ (o9 c) Z ?_ λab f cw=>h ab f cw c2);rw[ho,ZLU];rfl
theorem Mp{g:G}{k:Nat}{B:fu}{P:cn}{ext:dm}(K:YN)(F:YZ){t:Tab}{o:Nat}{ps:Y2C}{p:cE}(kC:∀{T},YkL=YD (ZE::ps.map (fL T t)))(ar:Y3q)(aA:Y4K)(atz:∀q∈ps,gu q=true)(aE:Y9S)(hd:YjI)(ah:∀{n},ZMS)(cf:∀{N},ZXK)(kY:∀q∈ps,∀{mh:ag}{Q:Yj}{N:Yd},Y3p→Y0a→Y52→N.length+dep q≤13→eS t N.length q→fV 8 YkK=true→(∀ab,Y8n→fv ab B (Yo9.1,P) ext→jG Yo9.1→Q (ay Yo9.2) ab)→aU g ZSZ 655 [Y1Z,YkK] mh Q):YdD:=λ{mh Q N}Z W c2 az n6 bq h=>by
 refine kK (show YmM=ZSZ+1 from fO Y2V 1 _) ?_;have jD:=r6 W YbS n6
 (rw[cf]at jD;rw[cf]at h)
 (replace bq:=bN kC bq;rw[kC]at jD;refine Ynn)
 have kt:=r7.mp bq;refine XS F ps ZO5 Zfx (λM=>fm M∧jG M) ⟨W,c2⟩ aE kt Z (λd x rest e m Q' f cw j dp=>?_) (λm cT f cw j=>?_) K
 ·have aq:YY7:=Y1o;have gv:=xn (ps:=d) W.1 Zjv;replace gv:=bN Z5S gv;have nt:=lX gv.1.le YSM;have fa:=Mj gv.1.2 YSM;refine ac1 fa (kY x aq cw j.1 j.2 (au ZQH (au ?_ az)) nt (aX fa (XQ 7 _ (kt _ ZTH))) λab dZ c9 CF=>dp _ ab dZ c9 ⟨(r6 j.1 (YY (atz x aq)) nt).1,CF⟩)
  (refine bW hd ?_;refine aa e YgP;refine sC ui ?_;refine ZD2;refine aT yb ZE4)
  exact c0 (au ZG9 Y1I) _
 ·have gv:=xn (ps:=ps) W.1 Zjw
  (replace cw:=aT Z5S cw;rw[←Mo]at j)
  have mv:=CE (o:=o) (r:=YBB) j.1 aA ZEK YUg;have ev:=c4 jD.2 mv.2;refine XR cw j.1 (au (au YLp (c0 (au Y1I (dH hd.symm)) _)) Y07) aA ZEK YUg ev bq λab dZ c9=>h ab YUR c9 (aty j.2 (aV ev bq))
theorem XU(k a b:Nat):Y2V+YfT=k+b+14+a:=dS (fO k b 14) (aL (dw YH7 ..) (bW ZPC (fO Y2V (a+b) 1 |>.symm▸(dw Y2V (a+b) 1).symm)))
theorem atA{k:Nat}{P:cn}(K:YN)(F:YZ){t:Tab}(ar:Y3q):YdD:=by
 induction p generalizing k with
 |v n=>exact XT K F
 |c o=>exact @Mp g k B P ext K F t o [] Y9v Ysc ar ar Y88 Z0 rfl YrS rfl Y88
 |u o a ai=>
  have jU:=Y8x;exact @Mp g k B P ext K F t o [a] Y76 Ysc ar YH1 (λq aF=>Y0H▸jU.2) Y5G rfl Yro rfl λq aF=>aa Y0H (aa (show Y2V+dep Y76=YH7+Y3Z from fO Y2V Y3Z 1) ZDm)
 |b o a b eh eQ=>
  have jU:=Y8x;have fK:=YiV;refine @Mp g k B P ext K F t o Y1R Y4a Ysc ar YH1 (λq aF=>Y6o (λe=>aa e fK.1) λaF=>Y0H▸fK.2) Y5s rfl ZiN rfl YOF
  ·exact aa e (aa (show Y2V+YTs=k+YAg+14+Y3Z from Z8p) ZMf)
  ·exact aa Y0H (aa (show Y2V+YTs=k+Y3Z+14+YAg from(congrArg (λz=>Y2V+(z+1)) ZP9).trans Z8p) ZML)
theorem Gu{n:Nat}(h:r.length=n):r=Yud YLB:=by
 subst h;refine Hi (aL YF (fN.symm)) λi ak av=>aL YBV (bW YK6 ?_);unfold cI;refine dS ZLX ?_;rfl
theorem k3{l:bG}{n:Nat}(h:r.take n=l)(af:i<n):Y1G=cI l i:=by
 subst h;unfold cI;exact dS (List.getElem?_take) (dS ZRO rfl)
def pX(f:YL)(p:Y0j):YL:=g0 f YVl YMU
theorem atB{f:YL}{p:Y0j}(h:YLh):YMj=f:=funext λi=>by
 unfold pX;rw[h,abX,Nat.max_self];by_cases q:f i=Y0t
 ·exact aj YDZ (q.symm)
 ·exact YAw
abbrev xA(N:Yd)(P:cn)(f:YL):Y1:=hR YVX YVc
theorem atD{P:cn}{f:YL}{p:Y0j}(C:YY2)(ak:YWJ)(av:YWL)(he:ZlO):xA N P YMj∧pX f p p.1=pX f p p.2∧(∀a b,YD9→pX f p a=pX f p b)∧Yyd≤YEm∧(YUP→Yyd+1≤YEm):=by
 by_cases q:YLh
 ·rw[atB q];exact⟨C,q,Y4T,YW,λh=>absurd q h⟩
 ·have m:=B9 (S:=Zmp) C.1 ak av q;have r:=zt (S:=Zmp) C.1 m.1 YHK YHL YHM;refine⟨⟨Lh C.1 m.1 YHL,Ls C.2 (λi af=>Ycx af) λR c h=>?_⟩,Lu,ZgF,au Y1I (dH r),λO=>dH r⟩;have uQ:R Y16 Y0t:=c.3 (c.2 (h _ ak)) (c.3 (he R c) (h _ av));rcases qM Y16 Y0t with w | w
  ·refine YSQ;exact uQ
  ·refine YSQ;exact c.2 uQ
def gx(N:Yd)(f:YL):Y3:=a4 YwE
theorem vz{f:YL}(h:Y2r):YGo[i]?=some ZFD:=by
 refine aj (gy) (aX (gy) (dU YMs ?_));rfl
theorem vA(N:Yd)(f:YL):Yx7=N.length:=aj YF YSP
abbrev vB(B:fu)(ei i9:Nat)(r:bG):Y1:=r.take 4=[Z2,YX7,Y5g,some (Y0 i9)]∧r.length=13
theorem xB{cl:Calls}{p n:Nat}{x:V}(bo:Y1G=Yoy)(aM:YAW=YHp)(hm:m p=Y1h)(aE:Y2Z)(aq:YqD=YQ)(h:YFW):(bH cl (.op gW [v i,v j])).1 r m Q:=bQ (aw (bc bo (aw (bc aM (aS ⟨_,_,hm,aE,x,aq,h⟩)))))
theorem xC{cl:Calls}{t a b:E}(h:YBg r m λx m=>cond x (YOa r m Q) (YSe.1 r m Q)):(bH cl Z0A).1 r m Q:=h
variable{i9:Nat}{ei:Nat}
theorem atE{f:YL}(az:Y4f){p:Y0j}(aE:YB3)(ak:YWJ)(av:YWL)(bo:YXi)(h:∀ab b bI,Y1y=some (0,Y5 ZPQ)→Y0G→vB B b i9 bI→YKI):a6 ZH U9 ((r.set 4 ZaB).set 5 Yp4) mh Qn Q:=by
 have e:=Gu YGD;have m9:=ZSi;have g1:=ZSj;have g2:=YmP;have g3:=YVM;generalize YLB=y at e m9 g1 g2 g3;subst e;have gY:YOt:=YL6
 refine Yt;intro asj;refine KX (d6 (bQ (aw (xB g2 rfl aE gY (vz ak) (aw (xB g2 rfl aE gY (vz av) (aS λb ah=>⟨0,_,_,Yc,⟨Ld (L:=[Y16,Y0t]) ZZM,λl pm hM e2 d7=>YOL⟩⟩)))))));rw[VX pm hM];have fn:aB no mh Zbs:=Yv9;generalize Zbs=m1 at fn ⊢;revert m1;refine Y17;intro m1 fn;have mw:=fn _ _ aE rfl;show a6 _ U8 [y 0,y 1,y 2,y 3,ZaB,Yp4,some ZFG,some ZFF,y 8,y 9,y 10,y 11,y 12] m1 Qn Q;have FD:(gx N f).map Zkc=ZPQ:=by
  exact(Lm YwE ZlF).trans (congrArg a4 kJ)
 refine Yt;intro WL;refine el (tE (bc g2 ⟨_,_,mw,comp_map YGo Zkc (λm=>m1=m) YL6 (λm e=>aV e (⟨0,mw⟩)) rfl (λv aO acc m gr aD e cf=>?_) λm e gg iQ=>Y4V⟩))
 ·subst e;refine Y9q λz w=>?_;rw[w.2]at cf ⊢;refine my (xC (fo (aw (bc rfl Yh5))));have cf:gr (acc++[ay YV6]) m1:=cf m1 rfl;by_cases q:z=YMU
  ·rw[ZU]at cf;exact lS (YJK (beq_iff_eq.mpr q)) ZGf
  ·rw[ZN]at cf;exact iP (YJK YCr) ZGf
 ·subst e;refine aa FD ?_;exact f9 (Qr:=Q) (h _ gg _ Yc (fn.trans YKh) ⟨by show[y 0,y 1,YN9,y 3]=_;refine aT m9 (gS g1 ZCy);rfl,rfl⟩)
theorem XW{P:cn}{f:YL}{cl:Calls}(W:Y0a)(c2:Y52)(az:Y4f)(Z:Y3p){b1 l1:Nat}(aE:YB3){x:a8}(aq:Y4g)(hit:cI r it=Yp9)(ah:cI r b1=Z2)(uU:cI r l1=Y5g)(h:∀ab,Y0G→Q YhW ab):(bH cl (.op rE [.op oTup [.op fi [v it,Y0I]],.op nT [ZF iK [.op kT [v it]] ZQ 1 [b1,l1] [] Ybu]])).1 r mh Q:=by
 have dI:=YRg;have af:=YLa;refine YM;obtain⟨pp,l3,nr⟩:=Z.1;refine Yb;have aP:(Z8F::Y5A Yrh).length≤1000001:=aj g5 (aT YF (au (dX YLM) Y2));have kv:∀c∈x.2,Ya4:=λc ao=>by rw[ho,dy (by rw[iE];exact ZTe)];rfl
 have ec:Yvc:=ZE6;have fa:YyZ=Y5g:=uU;have fB:inR 1 [b1,l1] r=[none,Z2,Y5g]:=by
  show[none,YyY,YyZ]=_
  (exact gS (ah:YyY=Z2) (aa fa rfl))
 refine bQ (aw (d6 (hD 0 hit aP rfl ⟨rfl,aw (d6 (tF (d6 (bc hit ⟨Y1X,aP,Gq Y89,?_⟩))))⟩)))
 ·exact Y9l λc z=>Mm (n:=8) (c2 v (aV z.2 (et (kv c z.1))))
 refine aa fB (kf x.2 Yrh (λd acc m=>YHP∧acc=a4 ZKN) Zn Y2L (λd c rest e acc m z gr cf=>?_) Y3y)
 ·obtain⟨rfl,rfl⟩:=z;have ao:c∈x.2:=Y1o;refine my (bQ (aw (bc rfl (aw (bQ (aw (kH rfl l3 (rfl:ZIk) (aw (bc rfl (aS ⟨_,_,_,Z.3,c2 _ (et ZTJ),_,(Mh Z5R ZTJ),aS ⟨_,_,aE,YL6,_,vz ZTe,?_,ZJV⟩⟩))))))))))
  ·exact aj YF (aj YF (au (au Y7Y YLM) Y2))
  ·exact bW dK ((dK (f:=ay) (l₁:=ZKN) (l₂:=[f c])).symm)
 ·obtain⟨rfl,rfl⟩:=z;have l2:Yv3≤2:=aj YF (aj YF YLM);exact λb jT=>⟨0,_,_,Yc,YSW,qJ _,aS ⟨Yhy,rfl,h _ Y8p⟩⟩
theorem XX(W:Y0a):Yo2=N.zipIdx.map Ysa:=by
 refine Ye3
 (refine ZBL;refine ZCc)
 by_cases h:Y2r
 ·obtain⟨x,aq⟩:=CD h;refine ZCP;show some (V.tup [YJd,Yvb])=some (V.tup [ZFB,YHJ]);refine aa (ho) (aa YNO YgL);rfl
 ·refine ZCO;rfl
abbrev atF(N:Yd)(f:YL)(p:Y0j)(bU:Y1):Y1:=∀(x:_)(y:_),N[p.1]?=YQ→N[p.2]?=Y06→YTW→YUP→bU
abbrev XY(N:Yd)(f:YL)(p:Y0j):Y1:=∀bU:Y1,atF N f p bU→bU
abbrev Seen(N:Yd)(f:YL)(d:Y2Q)(L:Y2Q)(late:cn):Y1:=iG Z4x (late.length≤d.length) (∀z∈d,∃j,Ydd=Y0N∧(f j=YUQ∨ZTp)) (∀k j,(k,j)∈L→∃y,YRD∧Yie=k) (∀p∈late,Z8q)
variable{late:cn}{L:Y2Q}
theorem Seen.new{f:YL}{d:Y2Q}(s:Yek){x:a8}(aq:Y4g)(q:YQw=none):Seen N f Yiv (L++[(Y2n,i)]) late:=by
 have l1:Ya9:=YGE
 refine⟨by refine aL l1 YKq;exact dX s.1,by refine Yg3;exact kn s.2,YOJ,Ys3,s.5⟩
 ·refine ZCV;rcases iw hz with h | h
  ·exact Yyf λj w=>⟨by refine aT w.1 ?_;rfl,w.2⟩
  ·exact aa Y1T (aa q (⟨i,ZI1,Zj⟩))
 ·rcases iw h with h | h
  ·exact s.4 k j h
  ·have e:=gQ Y1T;exact⟨x,aa e.2 aq,ZLd⟩
theorem Seen.old{f:YL}{d:Y2Q}{l2:cn}(s:Yek){x:a8}(q:YQw=Y0N)(ak:YUN∨l2≠[])(av:ZTp→l2≠[])(aP:l2.length≤late.length+1)(da:∀p∈l2,Z8q):Seen N f Yiv L l2:=by
 have l1:Ya9:=YGE
 refine⟨by refine Yg3;exact kn s.1,by refine Yg3;exact au aP (dX s.2),YOJ,s.4,da⟩;rcases iw hz with h | h
 ·exact Yyf λj w=>⟨w.1,w.2.imp id av⟩
 ·exact aa Y1T (⟨j,q,ak⟩)
abbrev Gv(B:fu)(ei i9 bs fR:Nat)(r:bG):Y1:=YXi∧YiT=some (Y0 bs)∧YTH=Yow
theorem XZ{f:YL}(az:Y4f){fR:Nat}(g2:YiS=Y5g)(lB:YTH=Yow)(X0:cI r 10=Y3g)(X1:cI r 12=YBK)(aE:YB3)(bq:mh fR=YXC)(af:Y2r)(aM:j<N.length)(gY:late.length≤13)(h0:YUN→Qn r mh)(ak:f j≠f i→Qn r (upd mh fR (8,Y5 Yxj))):a6 ZH Vb r mh Qn Q:=by
 have l1:YOt:=Ygv;refine en (fo (aw (xB g2 X1 aE l1 (vz aM) (aw (xB g2 X0 aE l1 (vz af) Y7O)))));by_cases q:YUN
 ·(refine aa q ZYc);exact h0 q
 ·refine rk Yle ?_;show a6 ZH Va r mh (λbI ab=>YKI) Q;refine hO (mx (bc lB ⟨⟨_,_,bq⟩,aw (bQ (oS X1 X0 ⟨rfl,aS ⟨_,_,bq,by refine Y2H;exact ZEw,?_⟩⟩))⟩));have e:ZTo++[V.tup [Y8u,Y4p]]=Yxj:=(dK (f:=gw) (l₁:=late) (l₂:=[(j,i)])).symm;exact aa e (ak q)
inductive atG(N:Yd)(f:YL)(mh:ag)(B:fu)(ei i9 bs fR:Nat)(d:Y2Q)(r:bG)(m:ag):Y1
 |mk (aP:∀b o,Y9P→YT3→YT4→YVe) (bo:Z4E) (L:Y2Q) (late:cn) (s:Yek) (ak:m bs=some (8,YbM)) (av:m fR=YXC)
theorem atH{P:cn}{f:YL}(W:Y0a)(c2:Y52)(az:Y4f){b0:fu}(Z:Y3p){bs fR:Nat}(aE:YB3)(hs:mh bs=Za7)(bq:mh fR=Za8)(bo:Z4E)(h:∀ab L late bI,Seen N f N.zipIdx L late→ZD9→(∀b o,Y9P→YT3→YT4→Y1y=YB)→vB B ei fR bI→YKI):a6 ZH Vc r mh Qn Q:=by
 have Mq:bs≠fR:=λe=>by replace hs:=aQ bq (bN e hs);exact ct.noConfusion (gQ (cu hs)).2
 have sep:YZ9:=YYe;refine Gk (bc YmQ Zmw);show∃P:Y2i,P Yo2 r mh∧_;refine ZCX;refine k0 N.zipIdx Ysa (λd r m=>atG N f mh B ei i9 bs fR d r m)
  ⟨YrM,bo,[],[],⟨YW,YW,YZ4,ZjE,Zjp⟩,hs,bq⟩ (λd r m z=>⟨12,z.1 _ _ Z.2 (sep Z.2 hs Yf) (sep Z.2 bq Yf)⟩) Yri YsC
 ·refine YM;obtain⟨aP,bo,L,late,s,ak,av⟩:=w;refine Yb;have aq:N[z.2]?=Zag:=pJ (N:=N) (show YzQ from YGd);have af:=YLa;have hd:Y5Y≤13:=by
   have q:=Y7c;replace q:=fU g5 ZGE;exact au (au YL9 ZKb) az
  have CG:=aP _ _ aE (sep aE hs Yf) (sep aE bq Yf);have fB:=Z4D;have m9:=ZSk;have g1:=YmQ;have g2:=ZSl;have g3:=k3 YSt YwU;have vC:=YGD.1;have lB:=YGD.2;generalize YLB=y at fB m9 g1 g2 g3 vC lB;subst fB;refine cy (el (mx (bc vC ⟨⟨_,_,_,ak⟩,aw (XW (it:=11) (b1:=0) (l1:=2) W c2 az (⟨Yf4 λpp z=>⟨aP _ _ z.1 (sep z.1 hs Y21) (sep z.1 bq Y21),aP _ _ z.2 (sep z.2 hs Y21) (sep z.2 bq Y21)⟩,aP _ _ Z.2 (sep Z.2 hs Y21) (sep Z.2 bq Y21),aP _ _ Z.3 (sep Z.3 hs Y21) (sep Z.3 bq Y21)⟩:ZOY) CG aq ?_ ?_ ?_ λm1 f1=>e5 rfl ⟨_,_,_,YkC,?_,w5 _,?_⟩)⟩)))
  ·rfl
  ·exact m9
  ·exact g2
  ·exact aj YF (au (au s.1 ZEm) Y2)
  refine d9 (YoI:c8 Y13 ZGS=(L.lookup YAa).map ay) ?_;have Mr:=YkC;have pF:=f1 _ _ av rfl;have mw:=f1 _ _ CG rfl;have oM:∀{aH:ag}{lr:Y2Q}{l2:cn}{dv:bG},Seen N f (d++[YzP]) lr l2→aH bs=some (8,Y9 3 (dW bO lr))→aH fR=some (8,Y5 (l2.map gw))→(∀b o,m1 b=YB→YT3→YT4→aH b=YB)→Gv B ei i9 bs fR dv→jq dv aH:=λs2 a1 a2 dB eb=>e8 _ _ ⟨λb o e dn fI=>dB b o (f1 _ _ (aP b o e dn fI) rfl) dn fI,eb,_,_,s2,a1,a2⟩
  cases q:Ydd with
  |none=>
   refine aa ((YYI:eE Y13 ZGS YAT=dW bO (L++[(YAa,z.2)]))) (XZ az g2 lB rfl rfl (dE (sep mw Mr Yf) |>.trans mw) (late:=late) YwB af af ZF5 (λO=>oM (s.new aq q) Yc YwB (λb o e dn fI=>(dE dn).trans e) Znk) λn=>absurd rfl n)
  |some j=>
   refine YM;obtain⟨d1,bb,fy⟩:=s.4 _ _ Ypd;refine Yb;have X2:Gv B ei i9 bs fR [y 0,y 1,y 2,y 3,y 4,y 5,y 6,y 7,y 8,y 9,some YAT,some ZU2,YBK]:=Znk
   refine XZ az g2 lB rfl rfl mw pF af (eo bb) ZF5 (λMs=>oM (s.old q (YY Ms) id Y1I s.5) Mr pF (λb o e O O=>e) X2) λmN=>oM (s.old (l2:=late++[(j,z.2)]) q (YJ ZiE) (λO e=>YgZ) ZEH Zjn) ((dE Mq).trans Mr) Yc (λb o e dn fI=>(dE fI).trans e) X2;rcases iw ar with ar | ar
   ·exact Yoh
   ·exact aL YSl ((λO bA=>bA d1 z.1 bb aq fy mN))
 ·obtain⟨aP,bo,L,late,s,ak,av⟩:=w;have fB:=Z4D;have m9:=ZSk;have g1:=YmQ;have g2:=ZSl;have lB:=YGD.2;generalize YLB=y at fB m9 g1 g2 lB;subst fB;exact el (bc lB (f9 (Qr:=Q) (h m L late _ s av aP ⟨by show[y 0,y 1,y 2,Yow]=_;(refine aT m9 (gS g1 (aa g2 ?_)));rfl,rfl⟩)))
theorem atI{f:YL}:YEm≤N.length:=YKt
theorem atJ{P:cn}{f:YL}(W:Y0a)(C:YY2){x y:a8}(af:Y4g)(aM:YRD)(e:YTW){R:YeA}(c:YY5):R i j:=
 c.5 i j x y f af aM (λz=>by
  by_cases q:z<N.length
  ·exact YY (C.2 R c z q)
  ·exact YJ ⟨λh=>q (lD ((W.2 i x af).2.2 z h) Y4J),λh=>q (lD ((W.2 j y aM).2.2 z h) YLZ)⟩) e
theorem atL{P:cn}{f:YL}(C:YY2)(s:Seen N f N.zipIdx L [])(ar:∀p∈P,YLh):Y5b:=⟨C.1,λi j x y af aM e=>by
 have at_:∀{i:Nat}{x:a8},Y4g→∃j,YQw=Y0N∧YUN:=λ{i x}h=>(s.3 YJT (ON h)).imp λj w=>⟨w.1,YNb id λq=>absurd rfl q⟩
 refine YM;obtain⟨a,bx,hL⟩:=at_ af;obtain⟨b,cM,ff⟩:=at_ aM;refine Yb;replace bx:=ZBi;exact ZBl,ar,C.2⟩
abbrev vD(N:Yd)(P:cn)(f:YL)(Wp:cn)(c:Nat):Y1:=yc YY2 (∀p∈Wp,YWJ∧YWL∧ZlO) (Wp=[]→Y5b) (c=1000∨(c=YEm∧∀p∈Wp,YUP)) (∀p∈P,p∈Wp∨YLh) (Wp.length≤900000)
abbrev zK(N:Yd)(P:cn)(f:YL)(Wp d:cn)(dZ:YL):Y1:=yc (xA N P dZ) (∀a b,YD9→dZ a=dZ b) (∀p∈d,ZKw) (d=[]→dZ=f) (YEl≤YEm) (d≠[]→(∀p∈Wp,YUP)→YEl+1≤YEm)
variable{Wp:cn}
theorem zK.step{P:cn}{f:YL}{d rest:cn}{c:Nat}{p:Y0j}(I:ZfK)(S:YXj)(e:Wp=d++p::rest):zK N P f Wp (d++[p]) (pX dZ p):=by
 have ar:p∈Wp:=YGd;have z:=S.2 p ar;have j:=atD I.1 z.1 Z4 Z3;refine⟨j.1,λa b h=>YM6.1 _ _ (I.2 a b h),λq aF=>YxM (λh=>YM6.1 _ _ (I.3 q h)) λh=>by rw[Y1T];exact j.2.1,λh=>absurd (Dy h).2 Y03,au YM6.2.1 I.5,λO hd=>?_⟩;by_cases q:d=[]
 ·(rw[I.4 q]at j;refine aa (I.4 q) ?_)
  exact YM6.2.2 (hd p ar)
 ·exact au (dX YM6.2.1) (I.6 q hd)
theorem zK.next{P:cn}{f:YL}{c:Nat}(I:zK N P f Wp Wp dZ)(S:YXj)(W:Y0a)(az:Y4f)(hw:Wp≠[])(s:Seen N dZ N.zipIdx L late):Zcs∧YEl<c:=by
 have pp:∀p∈P,ZKw:=λp ar=>(S.5 p ar).elim (I.3 p) (I.2 _ _);refine⟨⟨I.1,λp ar=>Yoh _ λO O a b e O=>⟨eo a,eo b,λR c=>atJ W I.1 a b e c⟩,λe=>atL I.1 (aV e s) pp,YJ ⟨rfl,λp ar=>Yoh _ λO O O O O h=>h⟩,λp ar=>YJ (pp p ar),au s.2 (aj Ol Y07)⟩,?_⟩;rcases S.4 with e | e
 ·exact aL e (fF (au atI az) Y2)
 ·exact aL e.1 (I.6 hw e.2)
theorem X3{P:cn}{f:YL}(h:Y5b):YGo=ZPP:=congrArg a4 (sv λi af=>Cu h (zF h) YMA)
theorem vD.first{P:cn}(W:Y0a)(dk:∀p∈P,Ynr)(aE:YeM):vD N P id P 1000:=
 have C:xA N P id:=⟨⟨λi O=>bV i,Y2M⟩,λR c i O=>c.1 i⟩
 ⟨C,λp ar=>⟨ZLL.1,ZLL.2,λR c=>c.4 p ar⟩,λe=>⟨C.1,λi j x y af aM q=>by
  exact(xX Y4J W.1).mp (af.trans ((iF YUe.1 (by have w:=YJD;replace w:=aQ Z6E (bL Z6E w);exact w):x=y)▸aM.symm)),λp ar=>absurd ZNX cS,C.2⟩,Zj,λp ar=>YbS,aE⟩
theorem ne_nil(l:ZC):(!j0 Y7s [])=YtL:=ZHS
inductive atM(N:Yd)(P:cn)(B:fu)(f:YL)(Wp:cn)(mh:ag)(i9:Nat)(d:cn)(r:bG)(m:ag):Y1
 |mk (fr:Y7L) (dZ:YL) (r8:Nat) (bo:vB B r8 i9 r) (aE:m r8=ZZw) (I:ZfK)
abbrev atN(N:Yd)(P:cn)(B:fu)(mh:ag)(c:Nat)(r:bG)(m:ag)(bU:Y1):Y1:=∀(f:YL)(Wp:cn)(ei i9 pS:Nat),YXj→m ei=ZZx→m i9=ZaL→Y7L→YXi→bU
abbrev atO(N:Yd)(P:cn)(B:fu)(mh:ag)(c:Nat)(r:bG)(m:ag):Y1:=∀bU:Y1,atN N P B mh c r m bU→bU
theorem atP{P:cn}(W:Y0a)(c2:Y52)(az:Y4f)(Z:Y3p){f:YL}{c pS:Nat}(S:YXj)(hw:Wp≠[])(aE:YB3)(xD:mh i9=ZaL)(bo:YXi)(h:∀ab dZ late r8 fR bI,Zcs→YEl<c→ab r8=ZZw→ZD9→Y0G→vB B r8 fR bI→YKI):a6 ZH Vd r mh Qn Q:=by
 refine forL (bc YVM ⟨_,_,xD,k0 Wp gw (atM N P B f Wp mh i9) ⟨Yy,f,ei,bo,aE,S.1,Y4T,YOE,Zm,YW,λh=>absurd rfl h⟩ (λd r m z=>⟨pS,z.1 _ _ xD rfl⟩) Zhw Y3j⟩)
 ·refine YM;obtain⟨fr,dZ,r8,bo,aE,I⟩:=z;refine Yb;have z:=S.2 p Y1o;exact cy (atE az aE z.1 Z4 bo λab b bI ah f1 CH=>e8 _ _ ⟨ZOU,_,b,CH,ah,I.step S e⟩)
 ·refine YM;obtain⟨fr,dZ,r8,bo,aE,I⟩:=z;refine Yb;have fB:=Gu YGD;have m9:=ZSi;have g1:=ZSj;have g2:=YmP;have g3:=YVM;generalize YLB=y at fB m9 g1 g2 g3;subst fB;refine B0 (aw (bQ (aS λbs Mt=>⟨8,aw (bQ (aS λfR qU=>Zmj))⟩)));have f1:aB no m Zbq:=(aB.new Mt).trans ZAt;have lE:upd YXd fR Y4W bs=Za7:=cY qU Yc;have qc:=bw YXd fR Y4W;have aq:∀{b o},YVe→YT3∧YT4:=λ{b o}e=>⟨λq=>by replace e:=aQ Mt Y5V;exact Y4t,λq=>by
   have w:=(aB.new (p:=no) (x:=(8,ZK5)) Mt) _ _ e rfl;replace w:=aQ qU YCo;exact YLD⟩
  generalize Zbq=m1 at f1 lE qc ⊢;refine atH W c2 az (b0:=B) (Z.no ZOU) YUS lE qc ⟨Yt6,rfl,rfl⟩ λab L late bI s bq f2 CH=>?_;have uB:=I.next S W az hw s
  have cz:Y6B:=λb o e O=>f2 b o YUT ZEX.1 ZEX.2;exact h ab dZ late r8 fR bI uB.1 uB.2 (cz _ _ aE rfl) bq YkW CH
theorem Gw{P:cn}(K:YN)(F:YZ)(W:Y0a)(c2:Y52)(az:Y4f)(Z:Y3p)(dk:∀p∈P,Ynr)(aE:YeM)(h:∀b aW,YCc=some (0,Y5 ZPP)→ZQe→Y7K):aU g (k+1) 660 [Y1Z] mh Q:=by
 refine YM;obtain⟨pp,l3,nr⟩:=Z.1;refine Yb;have xx:YTD:=rfl;have Mu:c8 YGl YcN=ZZm:=rfl;have vy:Yvd:=ZE6;have zA:ZVK=ZPR:=by
  exact aX Y3c ((sv λi O=>rfl).trans (congrArg a4 (Ov _).symm))
 refine Y02;intro gb gc gd;refine KW (aw (kH rfl l3 xx (aw (d6 (d6 (d6 (kH rfl l3 xx ⟨_,_,Z.2,vy,?_⟩)))))));show Yvd∧(nL Y8E).length≤1000001∧alloc mh (Y5 ZVK) _;refine aa zA (⟨vy,YL6,ZhR⟩);have f1:aB no mh ZcQ:=Y11;have ak:=bw mh b YZe;generalize ZcQ=m1 at f1 ak ⊢;show a6 ZH Ve [Z2,YX7,Y6Z,none,none,none,none,none,none,none,none,none,none] m1 ZS Q;refine el (d6 (kH rfl (f1 _ _ l3 rfl) Mu ⟨_,_,f1 _ _ nr rfl,ZHf,λe2 d7=>Y4V⟩));have f2:aB no m1 ZcC:=Y5R;have av:=bw m1 e2 Y8B;generalize ZcC=aH at f2 av ⊢;refine KY ⟨atO N P B mh,1000,(λO bA=>bA id P b e2 0 (.first W dk aE) (f2 _ _ ak rfl) av Y7i Zn),λc r m z=>bp λax=>z _ λf Wp ei i9 pS S vE xD fr bo=>ax (fo (aw (bc YVM (aw (bQ (aS λgg iQ=>⟨0,aS ⟨_,_,cY iQ xD,_,_,Yc,Y5E,?_⟩⟩))))))⟩
 ·refine Yky;rfl
 have cz:aB no m Zc7:=YKh;generalize Zc7=bF at cz ⊢;show cond (!j0 Z8l []) _ _;refine d9 (ne_nil ..) ?_
 cases Wp with
 |nil=>exact cZ (Qn:=ZS) (bc YmP (h ei bF (X3 Z7H▸Yis) (zF Z7H) YkW))
 |cons p Wp=>exact atP W c2 az (Z.no YkW) S Y03 Yis (cz _ _ xD rfl) bo λab dZ late r8 fR bI a7 lt ak av f4 CH=>⟨_,lt,λO bA=>bA dZ late r8 fR 8 a7 ak av ((fr.trans cz).trans f4) CH⟩
def Mv(p:cE):E:=p.rec (λn=>.op oTup [bK n]) (λo=>.op oTup [bK o]) (λo O a=>.op oTup [bK o,a]) λo O O a b=>.op oTup [bK o,a,b]
theorem X4{cl:Calls}:∀{Q:Yj},Q Zk m→(bH cl (Mv p)).1 r m Q:=by
 induction p with
 |v n=>exact ZiX
 |c o=>exact ZiX
 |u o a ai=>exact λh=>bQ (aw (cst (aw (ai YgD))))
 |b o a b eh eQ=>exact λh=>bQ (aw (cst (aw (eh (aw (eQ YgD))))))
theorem X5(p:cE):(bB p).isTup=true:=by cases p <;> rfl
theorem Gx{cl:Calls}{q:cE}(h:Q (YD [Zk,Y8v]) m):(bH cl (.op oTup [Mv p,Mv q])).1 r m Q:=bQ (aw (X4 (aw (X4 (aS ⟨Gq λv aO=>YJ8 (λe=>e▸X5 p) λaO=>YG9▸X5 q,h⟩)))))
def Mw:dm:=cB.map λq=>(Y34,Z2E)
theorem Mx:∀q∈cB,c8 Mw Y34=some Z2E:=lY rfl rfl rfl rfl
theorem My(K:YN)(F:YZ)(h:∀b ab,Y1y=some (0,Y9 1 Mw)→YFn):aU g (k+1) 629 [] mh Q:=by
 refine gJ ZT K rfl Y2 (cZ (bQ (aw (cst (aw (Gx (p:=Y4d) (q:=YBv) (aw (cst (aw (Gx (p:=YbI) (q:=Z01) (aw (cst (aw (Gx (p:=YBv) (q:=YQJ) (aw (cst (aw (Gx (p:=YPQ) (q:=c5) (aS (⟨Mw,rfl,(Y2:4≤15),⟨?_,Yrj⟩,YYf⟩))))))))))))))))))))
 ·exact(qQ (kv:=V.str) YO7 (l:=[32,28,11,16])).mpr YC
 ·exact(ee he).elim λq z=>ZCG
theorem atQ{cl:Calls}{i:Int}(h:Q YbV m):(bH cl (.op (Ts i) [])).1 r m Q:=h
theorem atR{l:Y3}(h:Ymd):ZQn:=by
 cases l with
 |nil=>rfl
 |cons a l=>
  have h:=Y1q;refine(V.jM h.1).elim λn e=>e▸?_
  cases l with
  |nil=>rfl
  |cons b l=>exact(V.jM (cL h.2).1).elim λn e=>e▸ZHS
theorem X6{cl:Calls}{f o:Nat}{x:V}{w:cE→V}(aE:Y9S)(ok:hv ZX8=true)(ao:∀q∈ps,∀(ab:ag)(Q':Yj),Y6B→(∀aH,aB no ab aH→Q' (w q) aH)→cl f [x,Y8v,YA] ab Q')(h:∀ab,Y6B→Q (YD (ZE::ZX8)) ab):
  (bH cl (.op rE [Yc1,.op nT [ZF iK Y8i ZQ 1 YKZ [] (.op ZJ3 YfN)]])).1 [YQ,YNA,Y05] m Q:=by
 have aP:YEX:=YFz;have l2:(ps.map w).length≤2:=ZE1;refine bQ (aw (d6 (hD 0 rfl aP rfl ⟨rfl,aw (d6 (tF (d6 (bc rfl ⟨Y1X,aP,Cg ps,kf ps bB (λd acc ab=>Y6B∧acc=d.map w) ⟨Yy,rfl⟩ Y2L (λd q rest e acc ab z gr cf=>?_) λacc ab z=>?_⟩))))⟩)))
 ·obtain⟨fr,rfl⟩:=z;exact my (eZ (F3 rfl rfl rfl (ao q Y1o ab _ fr λaH f2=>⟨aj YF ZEb,cf _ _ ⟨fr.trans f2,(dK (f:=w) (l₁:=d) (l₂:=[q])).symm⟩⟩)))
 ·obtain⟨fr,rfl⟩:=z;exact λb jT=>⟨0,_,_,Yc,YSW,ok,aS ⟨Yhy,rfl,h _ (fr.trans Y8p)⟩⟩
def stN(L:Y2Q)(t:Tab)(p:cE):Y0X:=p.rec (λn=>Y9b) (λo=>Yde) (λo O x=>x.elim none YYz) λo O O x y=>x.elim none λx=>y.elim none Zl4
def kI(x:Y0X):V:=x.elim YEw ay
theorem atU{t:Tab}:∀{c},YXN=Y0M↔xp Zko t p c:=by
 induction p with
 |v n=>exact .rfl
 |c o=>exact .rfl
 |u o a ai=>
  intro c;refine⟨Y6j,ZiZ⟩
  ·cases e:YHs with
   |none=>replace h:=ZPE;exact Y08
   |some x=>replace h:=ZPE;exact⟨x,ai.mp e,h⟩
  ·show YEn none YYz=_;exact dT (ai.mpr z.1) z.2
 |b o a b eh eQ=>
  intro c;refine⟨Y6j,λh=>h.elim λx z=>ZfG⟩
  ·replace h:=aQ (show stN L t Y4a=Yyu from rfl) h
   cases e:YHs with
   |none=>replace h:=YLn;exact Y08
   |some x=>
    cases aC:YXM with
    |none=>(replace h:=YLn;rw[aC]at h);exact Y08
    |some y=>(replace h:=YLn;rw[aC]at h);exact⟨x,y,eh.mp e,eQ.mp aC,h⟩
  ·show YEn none YsT=_
   (refine dT (eh.mpr z.1) (aa (eQ.mpr Z4) ?_));exact Z3
theorem Mz{k:V}(h:∀x:a8,Y4r≠k):c8 Y13 k=none:=by
 induction L with
 |nil=>rfl
 |cons p L ai=>exact Y9s (dT (show b8 Yvf.1 k=false from ic (h p.1)) ai)
theorem atV{n:Nat}:Y3B≠YEw:=λe=>by
 have e:Y0q=-1:=by injection e
 exact absurd e (λh=>by cases h)
theorem MA{x:a8}{o:Nat}(hm:V.int (-1)∈vs):Y4r≠Y2P:=λe=>by
 replace hm:=aL ((g4 Z8J).2) hm;exact(jm hm).elim λn z=>atV Yqy
theorem X7(x:Y0X):(kI x).isInt=true:=by cases x <;> rfl
abbrev X8(g:G)(k:Nat)(L:Y2Q)(t:Tab)(p:cE):Y1:=∀{mh:ag}{Q:Yj}{ed tk a:Nat},YnA→YnQ→Y7H→ZlS→aU g ZSX 665 Z9P mh Q
theorem X9{t:Tab}{n:Nat}(h:Y9b=none):YiG=none:=by
 rw[YyI,h];rfl
theorem atW(K:YN)(F:YZ){t:Tab}{n c:Nat}(ao:YXQ):X8 g k L t Y0r:=λ{mh Q ed tk a}aR O aD h=>by
 refine Y02;intro gb gc gd;refine ZMk;refine ZYa;show a6 ZH Vf [ZZj,YXD,Y05] mh YYV _;refine cZ (bQ (aw (bc rfl (aw (hD 0 rfl Y7j rfl (aS ⟨_,_,_,aD,rfl,_,YQY,?_⟩))))));have e:stN L t Y0r=Y0M:=ao;rw[e]at h;exact Yl2
theorem MB(K:YN)(F:YZ){t:Tab}{o:Nat}(kC:YKx)(aA:YXR)(aE:Y9S)(cR:(c8 Y13 (YD (ZE::ps.map Zk4))).getD YEw=ZSq)(kY:∀q∈ps,∀{mh:ag}{Q:Yj}{ed tk a:Nat},YnA→YnQ→Y7H→(∀ab,Y0G→Q YmS ab)→aU g j 665 [YJm,Y8v,YA] mh Q){ed tk:Nat}(aR:YnA)(bq:YnQ)(aD:Y7H)(h:ZlS):aU g (j+1) 665 Z9P mh Q:=by
 have aP:YEX:=YFz;refine oh kC Y02;intro gb gc gd;refine en (fo (aw (hD 0 rfl aP rfl ZLl)));refine ZYb;show a6 ZC4 Vg [ZZj,YNA,Y05] mh ZS Q;refine cZ (mx (bc rfl ⟨⟨_,_,_,aR⟩,aw (X6 aE ?_ (λq aF ab Q' fr dp=>kY q aF ZOS bq ZOR dp) λab fr=>aw (atQ (aS ⟨_,_,_,ZOS,?_,?_⟩)))⟩))
 ·exact atR (sz λv aO=>Y9l λq z=>z.2▸X7 _)
 ·exact(sz λv aO=>Y9l λq z=>aV z.2 (X7 _):(ps.map Zk4).all V.isInt=true)
 ·exact aj cR (h ab fr)
theorem MC(h:hN i=true)(j:Nat)(aM:hN j=false):YVB:=λe=>by replace h:=aQ aM YKz;exact Y0L
theorem zL{t:Tab}(bq:Y3s){o:Nat}(aA:Y4K):YXR:=bq.one (P:=λt=>YXR) (λx=>by
 refine ZEN;rfl) λx y=>by
 refine ZEN;show Hf o [(4,y)]=none;refine aj nz (dT (beq_false_of_ne (MC aA 4 rfl)) ?_);rfl
theorem atX(K:YN)(F:YZ){t:Tab}(bq:Y3s){n:Nat}(ar:Y3q)(ah:YLX):X8 g k L t p:=by
 induction p generalizing k with
 |v x=>exact ah.elim λc z=>atW K F z.1
 |c o=>
  refine MB (ps:=[]) (p:=Y9v) K F rfl (zL bq ar) Z0 ?_ Y88;show(c8 Y13 YQC).getD YEw=kI Yde;refine aT (qK (kv:=bO) (x:=YP3) Y4U:c8 Y13 YQC=(L.lookup YP3).map ay) ?_;cases Yde <;> rfl
 |u o a ai=>
  have ar:=Y8x;intro mh Q ed tk jf ak av aP da;refine MB (ps:=[a]) (p:=Y76) (j:=k+1+Y3Z) K F rfl YYG Y5G ?_ (λq aF=>by
   exact aa Y0H (ai Y7T ah)) ak av aP da
  show(c8 Y13 (YD [ZE,kI YHs])).getD YEw=kI Yyv
  cases YHs with
  |none=>refine aT (Mz λx=>MA (vs:=[YmT]) Y2t) ?_;rfl
  |some x=>
   show(c8 Y13 Z2D).getD _=kI YFM;refine aT (qK (kv:=bO) (x:=YP5) Y4U:c8 Y13 Z2D=(L.lookup YP5).map ay) ?_;cases YFM <;> rfl
 |b o a b eh eQ=>
  have ar:=Y8x;have fK:=cL Y7T;intro mh Q ed tk jf ak av aP da;refine MB (ps:=Y1R) (p:=Y4a) (j:=ZSW) K F rfl YYG Y5s ?_ Zjt ak av aP da
  ·show(c8 Y13 (YD [ZE,kI YHs,kI YXM])).getD YEw=kI Yyu
   cases YHs with
   |none=>refine aT (Mz λx=>MA (vs:=[YmT,kI YXM]) b3) ?_;rfl
   |some x=>cases YXM with
    |none=>refine aT (Mz λfY=>MA (vs:=[kI YQ,YmT]) YGZ) ?_;rfl
    |some y=>
     show(c8 Y13 Z2C).getD _=kI YQx;refine aT (qK (kv:=bO) (x:=YP4) Y4U:c8 Y13 Z2C=(L.lookup YP4).map ay) ?_;cases YQx <;> rfl
  ·rcases dz aF with e | aF
   ·exact aa e (aa ZPA (aV ZO (aa YUW (eh fK.1 Y2R))))
   ·exact aa Y0H (aV ZO (aa YUW (eQ fK.2 Y2l)))
theorem MD{t:Tab}(c2:Y52)(ah:YAj):(fL Yr t p).isTup=true:=by
 cases p with
 |v n=>
  obtain⟨c,e,ao⟩:=ah;have c1:YkJ:=ZI4
  refine aX c1 (aX (ho) (gS (dy (by refine aL Y3c ?_;exact ao)) ?_));exact Mm (c2 _ (v3 _))
 |_=>rfl
abbrev aaa(g:G)(k:Nat)(B:fu)(N:Yd)(P:cn)(ext:dm)(t:Tab)(p:cE):Y1:=∀{mh:ag}{Q:Yj}{a:Nat},Y3p→Y7H→ZlR→aU g ZSX 675 Z9N mh Q
theorem atY{g:G}{k:Nat}{B:fu}{N:Yd}{P:cn}{ext:dm}{t:Tab}(K:YN)(F:YZ)(az:Y4f){n c:Nat}(ao:YXQ)(aE:YLA):aaa g k B N P ext t Y0r:=λ{mh Q a}Z aD h=>by
 obtain⟨pp,ah,nr⟩:=Z.1;have xx:YTD:=rfl;refine Y02;intro gb gc gd;refine ZMk;refine ZYa;show a6 ZH Vn [Z2,YXD,Y05] mh YYV _;have c1:YkJ:=by show Yva;refine gz ao ?_;rfl
 rw[c1]at h;have aq:Ya4:=by rw[ho,dy (by rw[iE];exact aE)];rfl
 refine Yt;intro aB9;exact cZ (bQ (aw (kH rfl ah xx (aw (bQ (aw (bc rfl (aw (hD 0 rfl Y7j rfl (aS ⟨_,_,_,aD,rfl,_,YQY,aS ⟨_,_,Z.2,by refine aj Y3c ?_;exact Y07,_,aq,Yl2⟩⟩))))))))))
theorem ME{P:cn}{t:Tab}(K:YN)(F:YZ){o:Nat}(kC:YKx)(aA:YXR)(aE:Y9S)(bq:∀q∈ps,(fL Yr t q).isTup=true)(cR:YDC=YD (ZE::ps.map ZO5))(kY:∀q∈ps,∀{mh:ag}{Q:Yj}{a:Nat},Y3p→Y7H→(∀ab,Y0G→Q YkK ab)→aU g j 675 [Y1Z,Y8v,YA] mh Q)(Z:Y3p)(aD:Y7H)(h:ZlR):aU g (j+1) 675 Z9N mh Q:=by
 have aP:YEX:=YFz;refine oh kC (gJ ZT K rfl Y2 (en (fo (aw (hD 0 rfl aP rfl (e5 rfl ⟨_,_,_,aD,rfl,ZYb⟩))))));show a6 ZC4 Vo [Z2,YNA,Y05] mh ZS Q;rw[cR]at h;exact cZ (X6 aE (Gq λv aO=>Y9l λq z=>aV z.2 (bq q z.1)) (λq aF ab Q' fr dp=>kY q aF (Z.no fr) ZOR dp) h)
theorem atZ{k:Nat}{P:cn}{t:Tab}(K:YN)(F:YZ)(c2:Y52)(az:Y4f)(bq:Y3s)(ar:Yku)(ah:YAj):aaa g k B N P ext t p:=by
 induction p generalizing k with
 |v x=>
  obtain⟨c,z⟩:=ah;exact @atY g k B N P ext t K F az x c z.1 z.2
 |c o=>
  intro mh Q jf ak av aP;exact ME (ps:=[]) (p:=Y9v) K F rfl (zL bq Ygy) Z0 Y88 rfl Y88 ak av aP
 |u o a ai=>
  have ar:=cL Ygy;intro mh Q jf ak av aP;exact ME (ps:=[a]) (p:=Y76) (j:=k+1+Y3Z) K F rfl YYG Y5G (λq aF=>Y0H▸MD c2 ah) rfl (λq aF=>by
   exact aa Y0H (ai (YY Y7T) ah)) ak av aP
 |b o a b eh eQ=>
  have ar:=cL Ygy;have fK:=cL Y7T;intro mh Q jf ak av aP;refine ME (ps:=Y1R) (p:=Y4a) (j:=ZSW) K F rfl YYG Y5s (λq aF=>Y6o (λe=>e▸MD c2 Y2R) λaF=>Y0H▸MD c2 Y2l) rfl Zjt ak av aP;rcases dz aF with e | aF
  ·exact aa e (aa ZPA (aV ZO (aa YUW (eh (YY fK.1) Y2R))))
  ·exact aa Y0H (aV ZO (aa YUW (eQ (YY fK.2) Y2l)))
theorem at0{x:a8}{w:Nat}(h:YFN=YpN):ZLt=Y13:=by
 induction L with
 |nil=>exact Y08
 |cons p L ai=>
  have e:eE (dW bO Ynw) Y4r Y3C=cond (b8 YSi Y4r) ((YSi,Y3C)::Y13) (Yvf::ZLt):=rfl;replace h:=YFs;by_cases q:p.1=x
  ·replace h:=Ykr
   (refine ZEI);rfl
  ·replace h:=Ykq;refine aj e (dT (ic λh=>q (nc h)) YjC);rfl
abbrev xE(f:YL)(d L:Y2Q):Y1:=jd (∀z∈d,Ydd=some YUQ) (∀k j,L.lookup k=Y0N→∃z,z∈d∧k=YAa∧j=YUQ) Z4x
theorem xE.end{f:YL}(h:YY3):Zko=YsS:=funext λx=>funext λc=>propext ⟨λe=>(h.2 x c e).elim λz w=>qP.mpr ⟨z.2,z.1,pJ w.1,w.2.2.symm,Y3i⟩,λe=>(qP.mp e).elim λi w=>w.elim λy w=>by
 exact aT Y3M (fU Y3i (h.1 (y,i) (ON w.1)))⟩
inductive at1(f:YL)(mh:ag)(fb:Nat)(d:Y2Q)(p:YKF)(r:bG)(m:ag):Y1
 |mk (av:∀b o,Y9P→Yi5→YVe) (L:Y2Q) (fC e9:Yp) (s:xE f d L) (ak:ZU5) (e:r=p fC e9)
variable{d1:Yp}
theorem at3{P:cn}{f:YL}(W:Y0a)(c2:Y52)(az:Y4f)(Z:Y3p)(C:Y5b){fb:Nat}{hx mW:Yp}(aE:YB3)(aR:mh fb=some YIt)(h:∀ab L fC e9,YY3→ab fb=YXB→(∀b o,Y9P→Yi5→Y1y=YB)→a6 ZH Vl Z9i ab Qn Q):a6 ZH Vm [Z2,Y5g,d1,hx,mW,Y3v,none,none,none,none,none,none] mh Qn Q:=by
 have l1:YOt:=Ygv;have sep:YZ9:=YYe;refine YM;obtain⟨pp,l3,nr⟩:=Z.1;refine ax (Gk (kH rfl l3 (rfl:YTD) Zmw));show∃P:Y2i,P Yo2 _ mh∧_;refine ZCX;let at4:=λYOf(r:bG)YJI=>at1 f mh fb d (λfC e9=>Z9i) r m;refine k0 N.zipIdx Ysa at4
  ⟨YO3,[],none,none,⟨YZ4,λk j e=>Y4t,YW⟩,aR,rfl⟩ (λd r m z=>⟨12,z.1 _ _ Z.2 ZZL⟩) Yri YsC
 ·refine YM;obtain⟨x,i⟩:=z;obtain⟨av,L,fC,e9,s,ak,rfl⟩:=w;refine Yb;have aq:Y4g:=pJ (N:=N) (show YJT∈N.zipIdx from YGd);have hd:d.length≤13:=by
   have q:=Y7c;replace q:=ZGE;exact au (au Yk ZKb) az
  have CG:=av _ _ aE (sep aE aR Yf);refine cy (tq (xB rfl rfl CG l1 (vz YLa) (bc rfl (XW (it:=7) (b1:=0) (l1:=1) W c2 az (⟨⟨pp,av _ _ l3 (sep l3 aR Yf),av _ _ nr (sep nr aR Yf)⟩,av _ _ Z.2 ZZL,av _ _ Z.3 (sep Z.3 aR Yf)⟩:ZOY) CG aq rfl rfl rfl λm1 f1=>⟨_,_,_,YkC,w5 _,?_,?_⟩))))
  ·exact aj YF (au (au s.3 hd) Y2)
  have fin:∀fA,xE f Yiv fA→ZLs=dW bO fA→jq [Z2,Y5g,d1,hx,mW,Y3v,Y3g,Yp9,none,none,none,none] (upd m1 fb (16,Y9 3 ZLs)):=λfA s' bk=>e8 _ _ ⟨λb o e n=>YBi (f1 _ _ (av b o e n) rfl),fA,_,_,s',by refine aa bk ?_;exact Yc,rfl⟩;have dl:Ya9:=YGE
  cases q:YQw with
  |none=>
   refine fin (L++Z9B) ⟨YOJ,λax j fe=>?_,aL dl (aj cj (dX s.3))⟩ YYI
   ·refine aj YQj ?_;rcases iw hz with hz | hz
    ·refine aT (s.1 z hz) ?_;rfl
    ·rw[bR hz,q,nz,beq_self_eq_true];rfl
   ·replace fe:=aQ YQj fe
    cases ck:L.lookup ax with
    |some xt=>replace fe:=ZMV;exact(s.2 ax j (ck.trans fe)).imp Zl8
    |none=>
     replace fe:=ZMV;have w:=gQ (bR (tv (L:=Z9B) fe));exact⟨YJT,YCx,w.1,w.2⟩
  |some j=>
   refine YM;obtain⟨z,hz,aJ,aC⟩:=s.2 _ _ q;refine Yb;replace q:=fU (C.2 z.2 i z.1 x (pJ (N:=N) (show YzQ from e▸ko _ hz)) aq aJ.symm:YUQ=f i) (fU aC q);refine fin L ⟨λy bb=>(iw bb).elim (s.1 y) λbb=>by refine aa YL1 ?_;exact q,λax j fe=>(s.2 ax j fe).imp Zl8,aL dl (kn s.3)⟩ (at0 q)
 ·refine YM;obtain⟨av,L,fC,e9,s,ak,rfl⟩:=w;exact ax (h m L fC e9 s ak av)
def jH(x:Nat)(y:Y0X):Tab:=(3,x)::y.elim [] λy=>[(4,y)]
def nu(n:Nat)(R:YV):Z5C:=if YHR then Z78 else[none]
def nv(L:Y2Q)(p:cE)(x:Nat)(y:Y0X):Y1P:=(stN L Y2U p).elim [] Zhr
def q2(L:Y2Q)(q:hQ)(R:YV)(x:Nat):Y1P:=Yaj YW3
def r9(L:Y2Q)(q:hQ)(R:YV):Y1P:=Z76
theorem CI{x:Nat}{y:Y0X}{h:fT}:h∈nv L p x y↔h.2=Y2U∧stN L h.2 p=some h.1:=by
 unfold nv
 cases e:stN L Y2U p with
 |none=>exact⟨Yrq,λz=>by rw[z.1,e]at z;exact cW Yqy⟩
 |some c=>exact⟨λz=>by rw[bR z];exact⟨rfl,e⟩,λz=>have w:=cA (congrArg (λt=>YXN) z.1) z.2;je (iF (c4 e w).symm z.1)⟩
theorem MF{n:Nat}{R:YV}{t:Tab}:Ynz↔∃x,YNm∧∃y,y∈nu n R∧t=Y2U:=by
 delta pU nu;by_cases q:YHR
 ·refine aa ZU (⟨Yrt,Yrt⟩)
  ·have w:=z.2;rw[ZU]at w;exact w.elim λy w=>⟨Y06,kp ⟨y,w.1,rfl⟩,w.2⟩
  ·exact aa ZU (YIP λy w=>(ee w.1).elim λd1 v=>⟨d1,v.1,by rw[w.2,←v.2];rfl⟩)
 ·refine aa ZN (⟨λh=>h.imp λx z=>⟨z.1,none,Y2t,?_⟩,Yrt⟩)
  ·have w:=z.2;rw[ZN]at w;exact w
  ·refine YSG;exact YIP λy w=>by rw[w.2,bR w.1];rfl
theorem MG{f:YL}(H:YY3){h:fT}:h∈ZYJ↔YWP:=by
 delta r9 pV
 (refine aj ZX4 (dS (propext MF) (aV H.end (fU (propext atU) ?_))))
 refine⟨λz=>z.elim λx z=>(rj z.2).elim λy w=>⟨⟨x,z.1,y,w.1,Z33.1⟩,Z33.2⟩,λz=>z.1.elim λx w=>⟨x,w.1,YNb λy v=>Ap ⟨y,v.1,CI.mpr ⟨v.2,z.2⟩⟩⟩⟩
theorem at5{x fY:Nat}{y mP:Y0X}(h:Y2U=jH fY mP):ZeW:=by
 have e:=YUd;refine⟨(gQ e.1).2,?_⟩
 cases y with
 |none=>cases mP with
  |none=>rfl
  |some b=>exact absurd e.2.symm Y03
 |some a=>cases mP with
  |none=>exact absurd e.2 Y03
  |some b=>exact congrArg some (gQ Yx3).2
theorem at6{n:Nat}{R:YV}(h:R.Nodup):(nu n R).Nodup:=by
 by_cases q:YHR
 ·exact aL ZU (oa.map some (λa b h e=>h Y4G) h)
 ·exact aL ZN Y7t
theorem aab{R:YV}(h:R.Nodup):(r9 L q R).Nodup:=by
 have FC:∀{x fY:Nat}{y mP:Y0X}{a b:fT},a∈YnV→b∈nv L YG fY mP→a=b→ZeW:=λaD ah e=>at5 ((CI.mp aD).1.symm.trans (aa e ((CI.mp ah).1)));refine HF ⟨λx aq=>HF ⟨YOI,ayO (λn a aD b ah e=>n (FC aD ah e).2) (at6 h)⟩,ayO (λn a aD b ah e=>?_) h⟩
 ·unfold nv
  cases YpR with
  |none=>exact Hk
  |some c=>exact YRB
 ·exact(rj aD).elim λy w=>(rj ah).elim λmP v=>n (FC w.2 v.2 e).1
theorem aac{f:YL}(aF:Y1t){l:Y1P}(bZ:l.Nodup)(aE:∀h∈l,YWP):l.length≤N.length:=by
 have e:(YOi Ziz).length=N.length:=YSP;refine au (B8 (M:=YOi Ziz) bZ λh bJ=>YM) (dH e);obtain⟨x,aq,ex⟩:=Gd (nod:=YlZ) q aF h.2 h.1 (aE h bJ);obtain⟨i,y,af,aJ,aC⟩:=qP.mp aq;refine ax (kp ⟨i,ZWF,iF aJ ?_⟩);show ZQd=h.2
 (refine bL ex (bW aC (dU (ho) ?_));refine aa af ?_);rfl
theorem at7{f:YL}(H:YY3)(aF:Y1t):YyP≤N.length:=aac aF (aab Z6D) λh=>(MG H).mp
theorem CJ(x:Nat)(y:Y0X):jE Y2U:=by
 cases y with
 |none=>exact YZP
 |some y=>exact Znb
theorem MH{f:YL}{h:fT}(z:YWP):jE h.2:=(MF.mp z.1).elim λx w=>YNb λy v=>aa v.2 Ycz
theorem at8(l l':Tab):DQ ZTW ZTM=true:=by
 induction l generalizing l' with
 |nil=>rfl
 |cons a l ai=>cases l' with
  |nil=>rfl
  |cons b l'=>exact lF ⟨rfl,ai l'⟩
theorem aad{l:Y1P}(h:∀x∈l,Ym9):m5 (l.map h4):=⟨λa aD b ah=>Y8K λx z=>YOn λy w=>aV z.2 (w.2▸YPJ (by
 have e:mq [YCk,YAh] [ZFM,YCz]=cond ZFo (ZJk&&cond ZFp true ZUB) true:=rfl
 (refine aj e (aa (show ZUB=true from YPJ (W7 _ _)) (gz (show ZJk=true from(DR _ _).trans (at8 _ _)) ?_)))
 cases ZFo with
 |false=>rfl
 |true=>cases ZFp <;> rfl)),
 λa aD=>Y8K λx z=>z.2▸YZj (Yx8 (P:=λt=>strsOk YfD=true) Zm Y2M)⟩
def xF(y:Y0X):V:=y.elim Y7 ay
theorem at9{cl:Calls}{x:Nat}{y:Y0X}(lE:YiT=YE2)(qc:YTH=YXH)(h:∀b ab,TabAt ab b Y2U→Y6B→YeS):(bH cl Z07).1 r m Q:=by
 refine xC (fo (aw (bc qc Yh6)))
 cases y with
 |none=>exact bQ (aw (cst (aw (bc lE (aS ⟨ir (jH x none),rfl,(Y2:1≤15),Z4B,YYf⟩)))))
 |some y=>exact bQ (aw (cst (aw (bc lE (aw (cst (aw (bc qc (aS ⟨ir (jH x Y06),rfl,YaF,Z4B,YYf⟩)))))))))
abbrev tQ(mh m:ag)(dN:Nat)(eA:Y1P):Y1:=hR (m dN=some (8,Y5 ZLr)) (∀b o,Y9P→Yi4→YVe)
theorem aua:∀q∈cB,Ycd+YCy=2∧YLo:=lY Zn Zn Zn Zn
theorem aub:∀q∈cB,∀(n:Nat)(x:Nat)(y:Y0X),x<n→(∀z,y=Zaf→z<n)→(YWh→y≠none)→ZMN∧eS Y2U n Yq:=by
 have nt:∀{n x:Nat}{y:Y0X},x<n→eS Y2U n c5:=λ{n x y}aq=>⟨x,rfl,aq⟩
 refine lY (λn x y aq bb h=>⟨Y7u,Y7u,Y7u⟩) (λn x y aq bb h=>?_) (λn x y aq bb h=>⟨⟨Y7u,Y7u⟩,Y7u⟩) λn x y aq bb h=>⟨⟨Y7u,trivial⟩,Y7u⟩
 cases y with
 |none=>exact absurd rfl Yl3
 |some z=>
  have aae:eS (jH x Zaf) n py:=⟨z,rfl,bb z rfl⟩
  exact⟨⟨Y7u,aae⟩,aae,Y7u⟩
variable{dN:Nat}{tR:Yp}{oX:Yp}{eg:Yp}
theorem auc(K:YN)(F:YZ)(aF:Y1t){x n:Nat}{y:Y0X}(ah:ZMN){fb:Nat}{eA:Y1P}(Z:ZbP)(aR:mh fb=YXB)(kN:YkO)(aE:eA.length≤13){df hx ba cJ:Yp}(h:∀ab ba cJ,tQ mh ab dN (eA++YnV)→Qn Z9f ab):a6 YSD Vj Z9f m Qn Q:=by
 refine Yt;intro aud;refine el (at9 rfl rfl λb m1 ip f1=>?_);show a6 YSD Vi [df,eg,Y2v,hx,YN7,Y3v,oX,tR,YE2,YXH,Y6Z,cJ] m1 Qn Q;refine Yt;intro aCa;refine el (eZ (aw (bc rfl (aw (bQ (aw (bQ (aw (eZ (aS (My K F λbs aH hs f2=>e5 rfl ⟨_,_,_,hs,rfl,_,Ydy,aw (cst (aS ⟨Y4X,Y4q,rfl,e5 rfl ?_⟩))⟩)))))))))));have F0:=Y7i;have w:=aua q aF;rw[show k+4=ZSV+1+YCy by rw[fO ZSV 1,dw (k+1),w.1]];refine atX K F Ycz w.2 ah (F0 _ _ (Z.2 _ _ aR kN) rfl) rfl YkD λbF cz=>?_;have aaf:=F0.trans cz;have ke:=aaf _ _ Z.1 rfl;have oM:∀b o,Y9P→Yi4→bF b=YB:=λb o e n=>aaf _ _ (Z.2 b o e n) rfl;have ao:∀{c},YpR=c→YnV=c.elim [] Zhr:=λe=>by unfold nv;exact dT e rfl
 cases e:YpR with
 |none=>
  rw[ao e]at h;exact en (fo (aw (bc rfl (aw (cst (aS (h bF _ _ ⟨(eL eA).symm▸ke,oM⟩)))))))
 |some c=>
  rw[ao e]at h;refine Yt;intro aCb;refine en (fo ZF8);show a6 _ Vh [df,eg,Y2v,hx,YN7,Y3v,oX,tR,YE2,YXH,Y6Z,Y57] bF YsD Q;have Gy:=Ycz;refine Yt;intro aue;refine hO (mx (bc rfl ⟨⟨_,_,ke⟩,aw (bQ (aw (bc rfl (aw (d6 (d6 (bc rfl ⟨_,_,_,ZK8,rfl,W8 Gy λcO fK=>⟨_,_,Yc,?_,?_,aS ⟨?_,aS ⟨_,_,cY fK ke,?_,?_⟩⟩⟩⟩)))))))⟩))
  ·exact Gy.one (P:=ZkQ) Zgg ZgE
  ·exact Gy.one (P:=ZkR) Zm Y2M
  ·exact Gy.one (P:=ZkS) Zm Y2M
  ·refine Y2H;exact Y7U
  refine f9 (Qr:=Q) (h _ _ _ ⟨((dK (f:=h4) (l₁:=eA) (l₂:=YRm)).symm:ZLr++[V.tup [Y3Y,dr Y2U]]=(eA++YRm).map h4)▸Yc,λkO o bk n=>YBi (cY fK (oM kO o bk n))⟩)
theorem auf{R d rest:YV}{i3 CK:Z5C}{x:Nat}(e:R=YCw)(aC:YDn=i3++CK):(YTe++YUy).length≤YyQ:=by
 have ak:∀w:Nat→Y1P,R.flatMap w=d.flatMap w++(w x++rest.flatMap w):=λw=>aX e (aj rg (congrArg _ uf));have av:q2 L q R x=YUy++CK.flatMap YW3:=by
  show Yaj _=_;exact aX aC (rg)
 (refine bW (show r9 L q R=Z76 from rfl) (bW (ak ..) (aa av (fH Y0k (fU Y0k (aL (cj (as:=ZKG)) ?_))))))
 exact Yk
theorem tQ.trans{eA aag:Y1P}(a:ZbP)(b:tQ m ab dN aag):tQ mh ab dN aag:=⟨b.1,λx o e n=>b.2 x o (a.2 x o e n) n⟩
variable{jV:Yp}
theorem auh(K:YN)(F:YZ)(aF:Y1t){R d rest:YV}{x n lo:Nat}(gI:∀x∈R,x<n)(e:R=YCw)(hlen:YyQ≤13){fb:Nat}(ke:m dN=some (8,Y5 ((d.flatMap Y9U).map h4)))(aR:ZU5)(xG:m lo=some (0,Y5 (a4 R))){df ba cJ:Yp}(h:∀ab jV ba cJ,tQ m ab dN Yw6→Qn YRq ab):a6 YSD Vk YRq m Qn Q:=by
 have sep:YZ9:=YYe;have CC:Yw6=YTe++Yaj YW3:=by rw[rg,uf,Dt,eL];rfl
 have ev:∀Q':Yj,(∀a m1,m1 a=some (0,Y5 ((nu q.1 R).map xF))→(∀y,Y06∈YDn→y<n)→(YWh→none∉YDn)→Yfg→Q' YA m1)→(bH YSD Z09).1 YRq m Q':=by
  intro Q' dp;refine xC (fo (aw (bc rfl Yh6)));by_cases CL:YWh
  ·have fy:YDn=Z78:=if_pos CL;rw[fy]at dp;exact OV CL (d9 Y3r (bc rfl (dp lo m (aa kJ xG) (λy bb=>YaJ λz w=>cu w.2▸gI z w.1) (λO bb=>YaJ λz w=>cW w.2) Yy)))
  ·have fy:YDn=[none]:=if_neg CL;rw[fy]at dp;show ZSI;refine aX (ic λe=>CL YAH) ?_;exact bQ (aw (cst (aS λb ah=>⟨0,dp b _ Yc (λy bb=>cW YL1) (λe=>absurd e CL) Y11⟩)))
 refine forL (ev _ λa m1 aD bb az f1=>⟨_,_,aD,?_⟩);have aah:=f1 _ _ ke rfl;refine k0 YDn xF (λi3 r ab=>(∃jV ba cJ,r=YRq)∧tQ m1 ab dN ZKG) ⟨⟨jV,ba,cJ,rfl⟩,Y8I▸aah,YO3⟩ (λi3 r ab z=>⟨0,Z3 _ _ aD (sep aD aah Yf:a≠dN)⟩) (λi3 y CK aC r ab z jq e8=>?_) λr ab z=>?_
 ·obtain⟨⟨jV,ba,cJ,rfl⟩,cw⟩:=z;have aai:y∈YDn:=YSJ;refine t1 (auc K F aF (aub q aF n x y (gI x (Y1o:YNm)) (λz qA=>bb z (qA▸aai)) λaui fq=>az aui (fq▸aai)).1 cw (f1 _ _ aR rfl) (sep aR ke Yf:YkO) (au (auf e aC) hlen) λaH ba cJ c9=>e8 _ _ ⟨⟨_,_,_,rfl⟩,?_⟩)
  (refine bW rg (fH uf (aa Dt (fH Y1U (bL Y0k ?_)))))
  exact c9
 ·refine YM;obtain⟨⟨jV,ba,cJ,rfl⟩,cw⟩:=z;exact ax (h ab jV ba cJ ⟨aa CC cw.1,λb o cM nb=>cw.2 b o (f1 _ _ cM rfl) nb⟩)
theorem aaj(n:Nat)(f:YL):(roots n f).Nodup∧j9 ZAI:=⟨Z6D,yg ((Oq _ Ho).imp λ{a b}h=>(Xt b a).trans ZLA)⟩
theorem MI{f:YL}(C:YVX)(bZ:us.Nodup)(hm:∀v,Y9c↔v∈YGo)(mc:j9 us):us=YKb:=by
 have r:=aaj N.length f;refine VK (FU _) bZ ((qQ ZgI).mpr r.1) (λv=>(hm v).trans (⟨λh=>Yab λc z=>(ee z.1).elim Ziu,λh=>Yab Yrf⟩)) mc r.2
 ·have af:=YVE;exact aL z.2 (fU w.2 (kp ⟨f i,pL.mpr ⟨C.lt af,C.2 i af⟩,rfl⟩))
 ·have m:=pL.mp z.1;exact aL z.2 (kp ⟨c,kp ⟨c,og m.1,m.2⟩,rfl⟩)
theorem aak{P:cn}{f:YL}(K:YN)(F:YZ)(W:Y0a)(c2:Y52)(az:Y4f)(Z:Y3p)(C:Y5b)(aF:Y1t)(aE:YB3)(h:∀b ab,Y1y=some (0,Y5 ((qV N f YG).map h4))→YFn):aU g (k+5) 670 [Y1Z,Z1f,Y34] mh Q:=by
 have sep:YZ9:=YYe;refine Y02;intro gb gc gd;refine B0 (aw (d6 (bc rfl ⟨_,_,aE,⟨YL6,FU _,YJ (YY λv aO=>Y9q λn z=>ZD5)⟩,λus bZ hm mc lo xG=>⟨0,aw (bQ (aS λdN ke=>⟨8,aw (bQ (aS λfb l3=>⟨16,Y3o⟩))⟩))⟩⟩)))
 (rw[Ydw]at ke;rw[Ydw]at l3;refine aa Ydw ?_)
 have f1:aB no mh Zbo:=((aB.new xG).trans (aB.new ke)).trans (aB.new l3);have ak:upd YNT fb YIt lo=some Ytr:=cY l3 (cY ke Yc);have av:upd YNT fb YIt dN=Za8:=cY l3 Yc;have aP:=bw YNT fb (16,ZK5);have mN:∀{b o},Y9P→Yi4:=λe q=>by
  have w:=(aB.new (p:=no) (x:=Yty) xG) _ _ e rfl;replace w:=aQ ke YCo;exact YLD
 have nb:∀{b o},Y9P→Yi5:=λe q=>by
  have w:=((aB.new (p:=no) (x:=Yty) xG).trans (aB.new (x:=YuF) ke)) _ _ e rfl;replace w:=aQ l3 YCo;exact YLD
 generalize Zbo=m1 at f1 ak av aP ⊢;refine at3 W c2 az Yf5 C YUS aP λaH L fC e9 MJ BL du=>?_;have Gz:=du _ _ ak (sep ak aP Yf);have r2:=du _ _ av (sep av aP Yf);have aal:lo≠dN:=sep Gz r2 Yf;have hlen:YyP≤13:=au (at7 MJ aF) az;refine forL (bc rfl ⟨_,_,Gz,k0 Y2X ay (λd r m=>LP (λmB jV ba cJ=>[Z2,Y5g,Y2v,ZZk,YN7,Y3v,fC,e9,mB,jV,ba,cJ]) (tQ aH m dN (d.flatMap (q2 L q Y2X))) r) ⟨⟨r2,YO3⟩,none,none,none,none,rfl⟩ (λd r m z=>⟨0,Y6g _ _ Gz aal⟩) YIh Y3j⟩)
 ·refine YM;obtain⟨cw,mB,jV,ba,cJ,rfl⟩:=z;exact ax (t1 (auh K F aF (n:=N.length) (λx aq=>(pL.mp aq).1) e hlen cw.1 (cw.2 _ _ BL (sep BL r2 Yf:YkO)) (cw.2 _ _ Gz aal) λbF jV ba cJ c9=>e8 _ _ ⟨cw.trans c9,_,_,_,_,rfl⟩))
 ·refine YM;obtain⟨cw,mB,jV,ba,cJ,rfl⟩:=z;refine Yb;have ok:∀x∈ZYJ,Ym9:=λx aq=>MH ((MG MJ).mp aq);refine cZ (d6 (bc rfl ⟨_,_,cw.1,⟨ZHh,aad ok,λa aD=>Y8K λx z=>z.2▸(ok x z.1).one (P:=λt=>dI (YD YfD) 8=true∧V.tup YfD≠Y35) Zgv ZgL⟩,λl pl hM b ah=>Y4V⟩));exact aa (JX (aad (λx aq=>MH ((Gg aF W C.1 x).mp aq):∀x∈YoK,Ym9)) (pl.trans (((Dr (aab (aaj _ _).1) Ydg.1).mpr λx=>(MG MJ).trans (Gg aF W C.1 x).symm:(r9 L q Y2X).Perm YoK).map h4)) hM Ydg.2) (h b _ Yc λa o e O=>cY ah (cw.2 _ _ (du _ _ YUT YMc) ZUI))
noncomputable abbrev eV (n:Nat):Nat:=(n+3) / 2
abbrev Tk(N:Yd)(i:Nat):Y1:=∃v,YIz∧fV Yje v=true
def GA(N:Yd)(P:cn)(i:Nat):Y1:=∃j,j<i∧∀gr e1 g,Yss→(∀p∈P,YDs)→YLw→g i=g j
abbrev q3(s:cv):Y1:=iG ZOP ZS3 (∀g,hl s.1 s.2 g→∀i,i<Y4Q→g i=i→Z86) Zly ZYo
theorem GB{n m:Nat}(h:YB5):eV n≤eV m:=ayP ZQI
theorem auj{n m:Nat}(h:n+2≤m):eV n+1≤eV m:=au (dH (Nat.add_div_right (n+3) (Y2:0<2)).symm) (ayP (aj Y98 ZQI))
theorem GC(n:Nat):1≤eV n:=au (Y2:1≤eV 0) (GB ZKf)
theorem tS{N M:ZC}{x:α}(h:YBb)(aq:Y4g):M[i]?=YQ:=h.elim λX e=>by refine aT e (aj (qb YLa) ?_);exact aq
theorem oY{N M Cs:ZC}(h:YBb)(h':∃X,Cs=M++X):∃X,Cs=YKD:=h.elim λX e=>h'.elim λY bk=>⟨X++Y,aj bk ZBu⟩
theorem vF{N M:ZC}(h:YBb):Z5U:=h.elim Yra
theorem MK{M:Yd}(h:YBb):∃Y,bM M=Yr++Y:=h.elim λX e=>aa e (XO N X)
theorem Tk.up{M:Yd}(t:Tk N i)(h:YBb):Tk M i:=t.imp λv z=>⟨tS (MK h) z.1,k2 (GB (vF h)) z.2⟩
theorem GA.up{M:Yd}{P:cn}(l:GA N P i)(h:YBb)(ar:∀p∈P,YDs):GA M e1 i:=l.imp λj z=>⟨z.1,λgr AZ g av aP G=>z.2 gr AZ g (oY h av) (λp q=>aP p ZEZ) G⟩
variable{gr:Yd}
theorem ML{P:cn}{f g:YL}(C:Y5b)(G:YLw)(h:Yss)(ar:∀p∈P,YDs)(af:Y2r):g (f i)=g i:=
 have c:=Xo G
 (C.4 Zio ⟨c.1,c.2,c.3,λp q=>c.4 p ZEZ,λi j x y w aq bb=>c.5 i j x y w (tS h aq) (tS h bb)⟩ i af).symm
theorem MM{P:cn}{f g:YL}(W:Y0a)(C:Y5b)(G:YLw)(h:Yss)(ar:∀p∈P,YDs){o c:Nat}(ao:(o,cs)∈Y6Q)(aD:gr[a]?=ZaK)(e:aZ.map g=ZK4):g a=g c:=by
 refine YM;obtain⟨i,y,af,aJ,aC⟩:=qP.mp ao;refine Yb;have aC:=gQ aC;have bb:Yqp g=ZK4:=by
  exact bW YAN (aL kJ (sv λk aR=>(ML C G h ar (lD ((W.2 i y af).2.2 k aR) Y4J)).symm))
 exact aj (G.2 a i Z6 y aD (tS h af) (iF YAM (e.trans bb.symm))) (aQ (ML C G h ar Y4J) (congrArg _ aJ))
variable{dP:Yd}
theorem auk{P:cn}{f g:YL}(W:fm dP)(C:YlR)(G:YLw)(h:∃X,gr=dP++X)(ar:∀p∈P,YDs){t:Tab}:∀{N:Yd}{c:Nat},N.Nodup→YAj→(∃X,gr=Y6s++X)→xp (λx c=>x∈i8 dP f c) t p c→g YBn=g c:=by
 induction p with
 |v x=>exact λ{N c}O O O s=>congrArg g (by show YBq=c;refine aT s ?_;rfl)
 |c o=>exact λ{N c}bZ ah cf s=>MM W C G h ar s (tS cf (pT (r:=YBe) bZ).2.2) rfl
 |u o a ai=>
  intro N c bZ ah cf s;refine YM;obtain⟨x,yO,s⟩:=s;refine Yb;have m:=pT (o:=o) (r:=Ytk) (kg (p:=a) bZ ah).1.1;exact MM W C G h ar s ZbQ (by
   show[g YEj]=[g x]
   exact aT (ai bZ ah ZW1 yO) rfl)
 |b o a b eh eQ=>
  intro N c bZ ah cf s;refine YM;obtain⟨x,y,yO,TS,s⟩:=s;refine Yb;have dD:=kg (p:=a) bZ Y2R;have d7:=ZTk;have w2:=kg (p:=b) YGT d7;have m:=pT (o:=o) (r:=Ytl) YEE.1;have aam:=ZW1;exact MM W C G h ar s ZbQ (by
   show[g YEj,g Y7y.2]=[g x,g y]
   exact aT (eh bZ Y2R (oY YEE.2 aam) yO) (gS (eQ YGT d7 aam TS) rfl))
def cR(p:cE):Nat:=p.rec Y86 Y5m Zg9 λO O O a b=>max a b+1
theorem MN{T:Y3}{t:Tab}{r n:Nat}(bo:1≤r)(bq:∀v c,YXS→fV r Z82=true):YLX→fV (r+YAY) YkL=true:=by
 induction p with
 |v x=>exact λah=>ah.elim λc z=>by show fV r Z81=true;exact aa z.1 (bq x c z.1)
 |c o=>exact Zgu
 |u o a ai=>exact λah=>r7.mpr λv aO=>YG9▸ai ah
 |b o a b eh eQ=>exact λah=>r7.mpr λv aO=>YJ8 (λe=>e▸k2 (c0 YRK r) ZMe) λaO=>YG9▸k2 (c0 YRL r) ZMK
theorem zM{o:Nat}{r:Y8a}(ak:YHh≤i)(av:i<Ywk):i=Y8J∧YJC:=by
 by_cases h:YP6
 ·replace av:=fU (show YOm from Ylu) av;exact Ygd
 ·have w:=zB h;have aJ:YJC:=w.1;have aC:YaI:=w.2;replace av:=bL cj (fU aJ av);exact⟨aa aC (mG (hp av) ak),aJ⟩
abbrev CM(t:Tab)(N:Yd)(p:cE):Y1:=∀i,N.length≤i→i<YyE→i=YBn∨Tk Y6s i
def aan(t:Tab)(N:Yd):Y1:=∀v c,YXS→YLA∧fV Yje Y6n=true
theorem aao:∀q∈cB,∀(t:Tab)(N:Yd),Y0a→aan t N→ZMP→ZMQ→CM t N YG∧CM t N Yq:=by
 have v0:∀{t N n},CM t N Y0r:=λ{t N n}i ak av=>Ygd;have bD:∀{t N o n},CM t N (.u o Y0r):=λ{t N o n}i ak av=>YY (zM (r:=(N,[Yao])) ak av).1;have b1:∀{t N o n m},CM t N (.b o Y0r Z2J):=λ{t N o n m}i ak av=>YY (zM (r:=(N,[Yao,(putN t Z2J N).2])) ak av).1;refine lY (λt N W T O O=>⟨bD,b1⟩) (λt N W T O O=>⟨b1,b1⟩) (λt N W T O ah=>⟨b1,YOC⟩) λt N W T ah O=>⟨YOC,v0⟩
 ·by_cases q:i<YyD
  ·have e:i=Y7x.2∧Y7x.1=N++[(8,[YP8])]:=zM (o:=8) (r:=(N,[YP8])) ak q;have ek:=r6 W (p:=Y4d) Zj ah;have aap:YyD=N.length+1:=(congrArg l5 e.2).trans ZJd;have uB:((8:Nat),[Y7x.2])∉Y7x.1:=λhm=>by
    obtain⟨j,aM⟩:=pe hm;have dC:=(ek.1.2 j _ aM).2.2 _ Y2t;have du:=YLZ;replace dC:=aj e.1 dC;replace du:=bL aap du;exact absurd (ew dC (hp du)) ZZW
   refine YJ ⟨_,tS (MK (pT (o:=8) (r:=Ytj) (kg (p:=Y4d) W.1 ah).1.1).1.2) (aa e.1 ek.2),?_⟩;have dv:Yje+1≤eV YyC:=bW ((congrArg l5 (zB uB).1).trans (by rw[cj,aap];rfl):YyC=N.length+2) (auj YW);exact k2 dv (MN (p:=Y4d) YQo (λv c h=>(T v c h).2) ah)
  ·exact YY (zM (o:=8) (r:=Ytj) Y9D av).1
 ·by_cases q:i<YDr.1.length
  ·exact YJ ⟨_,tS (MK (pT (o:=1) (r:=Yti) (pT (o:=17) (r:=YBe) W.1).1.1).1.2) ((zM (o:=17) (r:=YBe) ak q:i=YDr.2∧YDr.1=N++[(17,[])]).1▸(r6 (t:=t) W (p:=Y9u) Zj trivial).2),k2 YQo YoT⟩
  ·exact YY (zM (o:=1) (r:=Yti) Y9D av).1
theorem aul:∀q∈cB,And (cR YG≤2) (cR Yq≤2):=lY YC YC YC YC
theorem aum{n:Nat}{R:YV}{t:Tab}(h:Ynz):∀v c,YXS→c∈R:=λv c e=>by
 obtain⟨x,aq,y,bb,jy⟩:=MF.mp h;have m:=tv e;replace m:=bL jy m;rcases dz m with q | q
 ·exact aL YJD aq
 ·cases y with
  |none=>exact absurd q cS
  |some y=>
   refine aL ((gQ YGA).2) ?_;unfold nu at bb;by_cases w:YHR
   ·replace bb:=bL Ylv bb;exact YaJ λz v=>cu v.2▸v.1
   ·replace bb:=bL Ylp bb;exact cW YL1
abbrev pY(dP:Yd)(ki:cn)(s:cv):Y1:=yc ZOP ZS3 (∃X,s.1=dP++X) (∀i,dP.length≤i→i<Y4Q→Z86∨GA s.1 YmZ i) Zly ZYo
variable{ki:cn}
theorem pY.init(B:YMr):pY dP ki YJ2:=⟨B.1,B.2,YBc,λi ak av=>Ygd,YOE,B.5⟩
theorem pY.tab{s:cv}{f:YL}{h:fT}(D:YWR)(B:YMr)(C:YUw)(z:YWQ){M:Yd}(tB:∃X,M=s.1++X):aan h.2 M:=λv c e=>by
 have m:=pL.mp (aum z.1 v c e);refine((B.3 f C c m.1 m.2).up (oY D.3 tB)).elim λw y=>⟨by have l:=eo y.1;replace l:=bL Y3c l;exact l,aX (ho) (gS y.1 ?_)⟩;exact y.2
theorem pY.tk{s:cv}{f:YL}{h:fT}(D:YWR)(B:YMr)(C:YUw)(aF:Y1t)(z:YWQ)(az:Y4Q≤10):fV 8 (fL YhS h.2 YG)=true∧fV 8 (fL (bM YHb.1) h.2 Yq)=true:=by
 have b:=Z4C;have T:=Z3K;have g:=aul q aF;have aaq:eV Y4Q≤6:=GB az;exact mL (Mj ZT8.1.2 b.3) (⟨k2 (gR aaq g.1) (MN YQo ZkV b.2),k2 (gR aaq g.2) (MN YQo ZkV b.3)⟩)
theorem pY.put{s:cv}{f:YL}{h:fT}(D:YWR)(B:YMr)(C:YUw)(aF:Y1t)(z:YWQ)(lK:fm YJF)(c2:jG YJF)(hle:Y9F.1.length≤13):pY dP ki Ytd:=by
 have b:=Z4C;have dD:=ZT8;have e2:=ZTl;have w2:=kg YGT e2;have cO:=YEE.2;have ga:∀gr e1 g,(∃X,gr=YJF++X)→(∀p∈ki++YWw,YDs)→YLw→g YHb.2=g h.1:=λgr e1 g ak av G=>auk B.1 C G (oY D.3 (oY YTj ZVz)) (λp ar=>av p YVQ) D.1.1 b.2 ZVz z.2;have ao:h.1<dP.length:=(Gd (nod:=i8 dP f) q aF h.2 h.1 z).elim λx w=>YyJ λi v=>v.elim λy v=>aV v.2.1 (Ycx YU7);refine⟨lK,c2,oY D.3 Ynh,YOC,Zjn,hle⟩
 ·by_cases dM:i<Y4Q
  ·exact(D.4 i ak dM).imp (·.up Ynh) (·.up Ynh (Zjo:∀p∈YmZ,p∈ki++YWw))
  ·by_cases dt:i<YHb.1.length
   ·refine(((aao q aF h.2 s.1 D.1 Z3K b.2 b.3).1) i (hq dM) dt).elim ZiC λt=>YY (t.up cO);refine YgI;exact ZP6
   ·refine(((aao q aF h.2 _ ((r6 D.1 (YY (lY (P:=λq=>Ykv) YZI YZI YZI ZnV q aF:Ykv).1) b.2).1) (D.tab B C z YTj) (lX YAd b.2) e2).2) i (hq dt) av).elim ZiC YY;refine aX e (bL ZP6 ?_);exact(G.3 _ (a2 _ ZKR)).symm
 ·rcases iw ar with ar | ar
  ·exact⟨ew Z3H.1 ZEv,ew Z3H.2 ZEv⟩
  ·rw[YSl];exact⟨Yk6,Y5l⟩
theorem pY.fin{s:cv}{f:YL}(D:YWR)(B:YMr)(C:YUw):q3 (s.1,YmZ):=by
 refine⟨D.1,D.2,λg G i af e=>?_,λp ar=>(iw ar).elim (λar=>⟨ew Z2l.1 YNW,ew Z2l.2 YNW⟩) (D.5 p),D.6⟩;by_cases h0:i<dP.length
 ·have l:i≤f i:=by
   have w:=G.1.1 (f i) (ew (Ycx h0) YNW);replace w:=aQ e (aQ (ML C G D.3 (λp ar=>YVQ) h0) w);exact w
  exact(B.3 f C i h0 (mG (C.1.1 i h0) l)).up D.3
 ·refine(D.4 i (hq h0) af).elim id λl=>l.elim ZjA;have w:=z.2 s.1 _ g YBc (λp ar=>ar) G;replace w:=aQ e w;exact absurd (aa w (G.1.1 j (lD z.1 af))) (su z.1)
noncomputable abbrev jr (tr:Bool) (most:Nat):dm:=[Ytq,(Z1x,Yh8)]
theorem aar:∀q∈cB,YLR∧YCy≤2∧YjJ≤2∧Ykv:=lY Yt7 Yt7 Yt7 ⟨Y2,Y2,Y2,rfl,Y61⟩
theorem aun(k:Nat)(h:d≤2):YVI=k+(2 - d)+14+d:=aL (fO _ 14 d) (dS YjO (mL (x8 h) rfl))
abbrev xH(m1 m:ag)(B:fu)(fD:Nat)(dP:Yd)(P:cn)(ext:dm)(s:cv):Y1:=hr (∀a o,m1 a=YB→jF o.1=false→a≠fD→m a=YB) (m fD=some (8,Y5 YN1)) (fv m B (s.1,P) ext) (pY dP P s)
theorem aas{P:cn}(K:YN)(F:YZ){t:Tab}(ar:Yku):YdD:=by
 rcases ar with ar | ar
 ·exact atA K F ar
 ·cases p with
  |v n=>exact XT K F
  |_=>exact nb ar
abbrev auo(mh:ag)(B:fu)(P:cn)(ext:dm)(t:Tab)(N:Yd)(d:Y2C)(acc:Y3)(m:ag):Y1:=iG (acc=a4 Y7w.2) (fv m B (YJM,P) ext) (fm YJM) (jG YJM) YFm
theorem done_two{P:cn}(K:YN)(F:YZ){t:Tab}(aF:Y1t)(bq:Y3s)(W:Y0a)(c2:Y52)(az:N.length≤10)(ei:ZMP)(aat:ZMQ)(BV:fV 8 (fL Yr t YG)=true)(tr:fV 8 (fL (bM YoA.1) t Yq)=true)(Z:Y3p)(h0:Y5X=Z2)(da:cI r 4=Y2v)(nA:cI r 7=YNG)(h:∀b ab,Y1y=some (0,Y5 [ay YoA.2,ay YV3.2])→Y8n→fv ab B (YV3.1,P) ext→fm YV3.1→jG YV3.1→YeS):
  (bH YCb Z0D).1 r mh Q:=by
 have pK:=ZD7;refine tF (bQ (aw (eZ (aS (My K F λbs m1 hs f1=>aw (bc da (aS ⟨_,_,_,hs,rfl,_,Ydy,?_⟩)))))));have zy:YyW=YNG:=nA;have fB:inR 1 [0,7] r=[none,Z2,YNG]:=by
  show[none,YEk,YyW]=_
  (exact gS YxA (aa zy rfl))
 refine ZCx;have aE:∀d x rest,Z9h=YCw→(gu x=true∨nk x=true)∧YTt≤2∧eS t N.length x∧fV 8 (fL (bM YJM) t x)=true∧(∀y∈d,eS t N.length y)∧YaC+YTt≤3∧ZKK:=by
  intro d x rest e
  cases d with
  |nil=>
   exact aV (YaN) (⟨YY Ynx.2.1,pK.2.1,ei,BV,Zl3,by refine gT List.map_nil (aT List.sum_nil (aj YDb ?_));exact au pK.2.1 Y2,Z0⟩)
  |cons y d=>cases d with
   |nil=>
    have e:=YGi;exact aV e.1 (aV (Yx3) (⟨Ynx.2.2,Ynx.1,aat,tr,λy bb=>YL1▸ei,pK.1,YW⟩))
   |cons z d=>exact absurd (g4 YGi.2).2.symm (by cases d <;> exact Y03)
 refine kf Z9h bB (auo mh B P ext t N) ⟨rfl,Yf5,W,c2,f1.iO⟩ Y2L Zhz Y3y
 ·refine YM;obtain⟨rfl,fg,W1,GD,f2⟩:=z;obtain⟨oZ,dx,nt,AG,bd,nI,ld⟩:=aE d x rest e;refine Yb;have gv:=xn (t:=t) (ps:=d) W.1 bd;have MO:=lX gv.1.le nt;have len:Y7w.1.length+YTt≤13:=au ZQH (aj ZO (gR az nI));refine aa (aun k dx) (my (eZ (aw (bc rfl (aw (eZ (aw (bc rfl (aw (bc rfl (aw (d6 (bc rfl ⟨Y6S,Yuc,(bq.one (P:=λt=>Yyx) (λO=>YwP) λO O=>YwT:Yyx),Ge bq,λfR qU=>Zmf⟩)))))))))))));have cz:aB no m (upd m fR YIr):=ZAt;have aau:=bw m fR Ytv;generalize upd m fR Ytv=bF at cz aau ⊢;refine atZ K F GD (au Yk len) bq oZ MO (fg.no cz) aau λeK f4=>aS (aas K F oZ ((fg.no cz).no f4) W1 GD len MO AG λi0 gL aup auq=>⟨?_,cf _ _ ⟨?_,?_,?_,?_,?_⟩⟩)
  ·exact aj YF (aj Ykw (au ld Y2))
  ·exact fH YBU ((dK (f:=ay) (l₁:=Y7w.2) (l₂:=[_])).symm)
  ·exact gT YBU aup
  ·exact bW YBU ((r6 W1 oZ MO).1)
  ·exact bW YBU auq
  ·exact((f2.trans cz.iO).trans f4.iO).trans gL
 ·obtain⟨rfl,fg,W1,GD,f2⟩:=z;exact λb ah=>⟨0,h b _ Yc (f2.trans Y11) (fg.no Y11) W1 GD⟩
theorem aav(hs:Y1P):∀s:cv,(mA most q hs s).2.length≤YDx+hs.length:=by
 induction hs with
 |nil=>exact ZkG
 |cons h hs ai=>
  intro s;refine au (ai Ygw) ?_;have e:Ygw.2.length≤YDx+1:=by
   by_cases w:YnF
   ·exact dU Ylv Y1I
   ·exact dU Ylp (dH ZJd)
  refine au (h7 e _) (dH ?_);rw[fO,dw];rfl
variable{fD:Nat}
theorem xH.dq{P:cn}{s:cv}(D:xH m1 m B fD dP P ext s)(F:Y6B):xH m1 ab B fD dP P ext s:=⟨λa o e h n=>F _ _ (D.1 a o e h n) rfl,F _ _ D.2 rfl,D.3.no F,D.4⟩
theorem aur{B:fu}{P:cn}{f:YL}(K:YN)(F:YZ){s:cv}(D:xH m1 m B fD dP P Y3H s)(fu:q3 YOh)(C:YlR)(hm:Y3e)(aF:Y1t){h:fT}(z:YWQ)(aE:YDx≤1000){zN vG GF:Yp}(dp:∀ab vG jV,xH m1 ab B fD dP P Y3H Ygw→Qn YfG ab):a6 YCb Vr YfG m Qn Q:=by
 refine YM;obtain⟨pp,ah,nr⟩:=D.3.1;refine Yb;have vy:Yve≤1000001:=aj Y3c (au D.4.6 Y2);refine Yt;intro aCc;refine en (fo (aw (d6 (kH rfl ah (rfl:c8 YGk YcP=YX7) ⟨_,_,D.3.2,vy,aw (kH rfl ah Yya Y3o)⟩))));show cond (decide ((Yve:Int)≤Yxo)) _ _;refine ZCc;unfold applyN at dp;by_cases w:YnF
 ·rw[Ylv]at dp;exact d9 (decide_eq_false λh=>su w (Dk.mp h)) (dp m vG jV D)
 ·rw[Ylp]at dp;have w:=hq w;have az:=au w hm;refine d9 (decide_eq_true (Dk.mpr w)) ?_;show a6 YCb Vq YfG m YsD Q;have b:=Gi Zct q aF h.2 z.1;have tk:=D.4.tk fu C aF z az;refine Yt;intro Xj;refine KX (done_two K F aF (MH z) YFG YFH az b.2 b.3 tk.1 tk.2 D.3 rfl rfl rfl λe2 aH av f2 c9 lK aaw=>⟨_,_,av,?_⟩);have sa:=f2.go D.2;show a6 YCb Vp [Z2,eg,d1,YBJ,Y2v,zN,oX,Yp6,some ZFH,some ZFE,GF] aH YsD Q;refine Yt;intro asL;refine hO (mx (bc rfl ⟨⟨_,_,sa⟩,aw (bQ (oS rfl rfl ⟨rfl,aS ⟨_,_,sa,ZHf,?_⟩⟩))⟩));have bx:YN1++[V.tup [ZFH,ZFE]]=(s.2++YFk).map gw:=(dK (f:=gw) (l₁:=s.2) (l₂:=YFk)).symm;refine aa bx ?_;have dD:=kg YFG.1 b.2;have sep:∀{a:Nat}{t:Nat}{o:ct},aH a=Y58→t≠8→a≠fD:=λaD n e=>n (congrArg YsY (c4 Yk7 sa));obtain⟨cO,aJ,aC⟩:=c9.1;refine f9 (Qr:=Q) (f9 (Qr:=Q) (dp _ _ _ ⟨λa o e ar n=>YBi (f2 _ _ (D.1 a o e ar n) ar),Yc,⟨⟨cO,(dE (sep aJ Yf)).trans aJ,(dE (sep aC Yf)).trans aC⟩,(dE (sep c9.2 Yf)).trans c9.2,(dE (sep c9.3 Yf)).trans c9.3⟩,D.4.put fu C aF z lK aaw (au (ZKV (kg YGT ZTl).1).3 (au (gR az ZD7.1) Y2))⟩))
def xI(l:YaQ):V:=YD [Z22,Z1k]
noncomputable abbrev runN (most:Nat) (ls:Ydm) (s:cv):cv:=ls.foldl YsB s
theorem aus(ls:Ydm)(h:∀l∈ls,l.2.length≤13):∀s:cv,(runN most ls s).2.length≤YDx+13*ls.length:=by
 induction ls with
 |nil=>exact ZkG
 |cons l ls ai=>
  intro s;exact au (ai (λl aE=>h l (eI _ aE)) _) (au (h7 (au (aav l.2 s) (c0 (h l b3) _)) _) (dH (fH g5 (bW YK2 (aj ZO (congrArg _ (gi 13 ..)))))))
theorem aax{cl:Calls}{c:E}{elt:wG}{x y:V}{N:Ys}(h:YvW YPC m λb ab=>cond b (elt YPC ab YsX) Ydz):mV YA5 false r Ywg elt Z2F acc m N:=h
theorem any_filter(l:ZC)(p:YIT):(!(l.filter p).isEmpty)=l.any p:=by
 induction l with
 |nil=>rfl
 |cons a l ai=>
  refine dU Hv (aL Ae ?_)
  cases p a with
  |true=>rfl
  |false=>exact ai
theorem aut{f:YL}{df mW zN vG:Yp}(az:Y4f)(hf:mh fD=some (t,Y5 (fr.map gw)))(aE:YB3)(ar:∀p∈fr,Ynr)(hs:fr.length≤1000)(h:∀ab,Y0G→Q (YK (fr.any YYu)) ab):a6 ZH KR [df,eg,d1,YBJ,mW,zN,oX,tR,vG,jV,Y5g] mh ZS Q:=by
 have l1:YOt:=Ygv;refine Yt;intro aCd;refine cZ (bQ (aw (tE (bc rfl ⟨_,_,hf,kf fr gw (λd acc m=>YHP∧acc=Yw7 λO=>YI 1) Zn (λd acc m z=>aV z.1 (⟨t,hf⟩)) Zhz Y3y⟩))))
 ·obtain⟨rfl,rfl⟩:=z;have c5:=ar x YGd;have le:(Yw7 YrV).length≤1000000:=by
   exact aj YF (au YI5 (au Y7Y (au hs Y2)))
  have cf:=λgC bk=>cf gC mh ZnW;refine aax (fo (aw (xB rfl rfl aE l1 (vz c5.1) (aw (xB rfl rfl aE l1 (vz c5.2) Y7O)))));show cond (!b8 (ay YkA) (ay YkB)) _ _;rw[Hw,Hv,List.filter_nil]at cf;by_cases q:YkA=YkB
  ·(refine aa q (mK Y3r ?_))
   rw[show ZNf=false from by rw[q];exact bne_self_eq_false _]at cf;exact cf _ (fH (show(if false=true then[x]else[])=([]:cn)from rfl) (bW Y1U rfl))
  ·refine mK Yle ?_;rw[show ZNf=true from bne_iff_ne.mpr q]at cf;exact cst ⟨le,cf _ (dK (f:=Zgf) (l₁:=d.filter YYu) (l₂:=[x])).symm⟩
 ·obtain⟨rfl,rfl⟩:=z;refine λb ah=>⟨0,aw (bQ (aS λe2 d7=>⟨0,aS ⟨_,_,YTU,_,_,Yc,Y5E,?_⟩⟩))⟩
  ·refine Yky;rfl
  ·show Q (YK (!j0 _ [])) _;exact aX (ne_nil (kv:=Zgf) ..) (aX (any_filter ..) (h _ Yv9))
theorem aay{B:fu}{P:cn}{f:YL}(K:YN)(F:YZ){lots:Z59}{gY:Nat}(Z:fv mh B YOh Y3H)(hm:Y3e)(fu:q3 YOh)(C:YlR)(aE:mh gY=some Yts)(da:lots.length≤4)(aA:∀l∈lots,ZTN∧(∀h∈YVS,pV dP f YAx h)∧l.1.2.length≤13∧mh l.2=ZZy)(dk:YeM)(h:∀ab,Y8n→fv ab B Yag Y3H→q3 Yag→Yag.2.length≤P.length+52→Q (YK (YMX).2) ab):aU g YDX 680 [Y1Z,Z1h] mh Q:=by
 refine YM;obtain⟨pp,ah,nr⟩:=Z.1;refine Yb;have Mu:∀{pp},c8 YGk YcN=ZZm:=rfl;have pl:(P.map gw).length≤900000:=aj YF dk;refine Y02;intro gb gc gd;refine B0 (aw (d6 (kH rfl ah Mu ⟨_,_,nr,au pl Y2,λbe aaz=>⟨0,aw (bQ (aS λfD sa=>Zmj))⟩⟩)));have f1:aB no mh Zbt:=(aB.new aaz).trans ZAu;have ak:upd YXf fD Y4W be=ZZv:=cY sa Yc;have av:=bw YXf fD YuF;have mN:∀{b o},Y9P→b≠fD:=λe q=>by
  have w:=(aB.new (p:=no) (x:=(0,ct.list YRN)) aaz) _ _ e rfl;replace w:=aQ sa YCo;exact YLD
 generalize Zbt=m1 at f1 ak av ⊢;revert m1;refine Y17;intro m1 f1 ak av;show a6 YCb Vt [Z2,YX9,YX8,YBJ,none,none,none,none,none,none,none] m1 ZS Q;have bo:∀d rest,lots=YLL→(YWt).2.length≤13*d.length:=λd rest e=>au (aus YaB (λl aE=>(ee aE).elim λz w=>w.2▸(aA z (aa e ZTF)).2.2.1) YJ2) (dU YF Yj8);refine forL (bc rfl ⟨_,_,YUS,k0 lots xI (λd r m=>ar3 (λfl e0 fC e9 mB kj=>[Z2,YX9,YX8,YBJ,fl,e0,fC,e9,mB,kj,none]) (xH m1 m B fD dP P Y3H (YWt)) r) ⟨⟨YrM,av,Yf5,.init fu⟩,_,_,_,_,_,_,rfl⟩ (λd r m z=>⟨0,Y5D _ _ YUS YOe (mN aE)⟩) (λd l rest e r m z jq e8=>?_) Y3j⟩)
 ·refine YM;obtain⟨D,fl,e0,fC,e9,mB,kj,rfl⟩:=z;refine Yb;have mw:=aA l Y1o;have ld:d.length≤4:=au Y7Y da;have es:runN most ((d++[l]).map Yh) YJ2=mA most YAx YVS (YWt):=aT dK wc;have tT:=au (bo d _ e) (iu 13 ld);rw[es]at e8;generalize YWt=s at D tT e8;have sT:=f1 _ _ YnG.2 rfl;refine cy (forL (bc rfl ⟨_,_,D.1 _ _ sT YOe ZUJ,?_⟩));let auu:=λ(i3:List _)(r:bG)YJI=>LP (λfC e9 mB kj=>[Z2,YX9,YX8,YBJ,some Z22,some Z1k,fC,e9,mB,kj,none]) (xH m1 m B fD dP P Y3H (mA most YAx i3 s)) r;refine k0 YVS h4 auu ⟨D,_,_,_,_,rfl⟩ (λi3 r m z=>⟨0,Y5D _ _ sT YOe ZUJ⟩) (λi3 x CK aC r m z aaA auv=>?_) Y3j
  ·refine YM;obtain⟨r0,fC,e9,mB,kj,rfl⟩:=z;refine Yb;have l2:i3.length≤13:=au ZGa YnG.1;exact cy (aur K F r0 fu C hm mw.1 (mw.2.1 x YSJ) (au (aav i3 s) (au (gR tT l2) Y2)) λab vG jV auw=>auv _ _ ⟨aL Xv auw,_,_,_,_,rfl⟩)
  ·refine YM;obtain⟨r0,fC,e9,mB,kj,rfl⟩:=z;exact ax (f9 (Qr:=Q) (e8 _ _ ⟨r0,_,_,_,_,_,_,rfl⟩))
 ·refine YM;obtain⟨D,fl,e0,fC,e9,mB,kj,rfl⟩:=z;refine Yb;have tT:=au (bo lots [] Y8I) (iu 13 da);have iW:YMX=((YJO.1,P++YJO.2),YJO.2.any λp=>h6 YJO.1 P p.1 !=h6 YJO.1 P p.2):=rfl;rw[iW]at h;generalize YHj=s at D tT h;have aaB:=Zct;refine Yt;intro aCe;refine el (eZ (e5 rfl (Gw (k:=k+15) K F YFG YFH D.4.6 D.3 (λp ar=>⟨ew ZOV.1 aaB,ew ZOV.2 aaB⟩) dk λei aH vE G f2=>?_)));obtain⟨cO,aJ,aC⟩:=D.3.1;have aJ:=f2 _ _ aJ rfl;have aaC:=f2 _ _ D.2 rfl;have auy:aB jF mh aH:=λa o e ar=>f2 _ _ (D.1 a o YUT ar ZUI) rfl;show a6 YCb Vs [Z2,YX9,YX8,YBJ,fl,e0,fC,e9,mB,kj,Y5g] aH ZS Q;refine Yt;intro aCf;refine tq (bQ (oS rfl rfl ⟨_,_,(f2 _ _ (D.1 _ _ ak YOe (λe=>by replace ak:=aQ av (bN e ak);exact absurd (congrArg YYt (cu ak)) Yw5:be≠fD)) rfl),_,_,aaC,by refine ZCK;exact au (gR dk tT) Y2,λgg iQ=>⟨0,bc rfl (cst ⟨_,_,_,cY iQ aJ,rfl,(Y2:5≤1000000),?_⟩)⟩⟩));have cz:aB no aH (upd aH gg (0,Y5 Z6R)):=YKh;have aP:=bw aH gg (0,ct.list Z6R)
  (rw[←dK]at cz;rw[←dK]at aP;refine aV dK ?_)
  generalize upd aH gg (0,Y5 ((P++s.2).map gw))=bF at cz aP ⊢;revert bF;refine Y17;intro bF cz aP;have iQ:=cz _ _ aJ rfl;show a6 YCb KR _ Yps ZS Q;have f4:aB jF bF Yps:=aB.at iQ rfl;have ja:=(D.3.no f2).no cz;have sep:∀{a:Nat}{t:Nat}{o:ct},bF a=Y58→t≠4→a≠B.b:=λaD n e=>n (congrArg YsY (c4 Yk7 iQ));exact aut D.4.6 (f4.go (cz _ _ aaC rfl)) (f4.go Yis) D.4.5 (au tT Y2) λi0 gL=>h i0 (((auy.trans cz.iO).trans f4).trans gL.iO) (fv.no (⟨⟨gg,Yc,(dE (sep aP Yf)).trans aP⟩,(dE (sep ja.2 Yf)).trans ja.2,(dE (sep ja.3 Yf)).trans ja.3⟩:fv Yps B (s.1,P++s.2) Y3H) gL) (D.4.fin fu C) (aj cj (c0 tT _))
abbrev kk(m:ag)(B:fu)(tr:Bool)(most:Nat)(s:cv)(c:Nat):Y1:=jd (fv m B s Y3H) (q3 s) (YDx≤c)
theorem kk.no{c:Nat}{s:cv}(Z:ZT9)(F:Y6B):kk ab B tr most s c:=⟨YFj F,Z.2,Z.3⟩
theorem kk.up{c:Nat}{s:cv}{ft:Nat}(Z:YMH)(h:c≤ft):kk mh B tr most s ft:=⟨Z.1,Z.2,au Z.3 h⟩
theorem kk.hits{c:Nat}{s:cv}(Z:YMH)(G:hl s.1 s.2 YUo)(aF:Y1t):(∀h∈YmD,ZWm)∧(jo s q).length≤13:=by
 have a:∀h∈YmD,ZWm:=λh bJ=>(Gg aF YAI G.1 h).mp bJ;exact⟨a,au (aac aF Ydg.1 a) YKU⟩
theorem aaD{c:Nat}{s:cv}(K:YN)(F:YZ)(hm:Y3e)(Z:YMH)(ao:c+52≤800000)(aF:Y1t){e:E}(af:Y1G=Z2)(he:∀(m:ag)(Q':Yj),Q' Y34 m→(bH YKl e).1 r m Q')(h:∀ab,Y8n→kk ab B tr most ZSp.1 (c+52)→Q (YK ZSp.2) ab):(bH YKl (.op YTS [v i,.op fj [.op oTup [e,.op YTR [v i,.op YAZ [v i],e]]]])).1 r mh Q:=by
 have dk:ZYp:=ZEp;refine eZ (aw (bc af (aw (bQ (aw (bQ (aw (he _ _ (aw (eZ (aw (bc af (aw (eZ (aw (bc af (aS (Gw (k:=YVI) K F YAI YRj YKU Z.1 Z.2.4 dk λei m1 vE G f1=>aw (he _ _ (aS (aak (k:=YDW) K F YAI YRj YKU (YFj f1) G aF vE λtU aH MP f2=>aS ⟨rfl,aS ZiL⟩)))))))))))))))))))));have cz:aB no aH (upd aH gY (0,Y5 YfC)):=ZAq;have aP:=bw aH gY Yu3;generalize upd aH gY Yu3=bF at cz aP ⊢;revert bF;refine Y17;intro bF cz aP;have hL:=Ywy;have bJ:=Z.hits G aF;exact aay (lots:=Yf6) K F Z8w hm Z.2 G aP YwQ (λl aE=>by
  exact aa (bR aE) (⟨aF,bJ.1,bJ.2,cz _ _ MP rfl⟩)) dk λeK f4 qX MQ px=>h eK ZQM ⟨qX,MQ,au px (h7 Z.3 _)⟩
abbrev sb(g:G)(k:Nat)(B:fu)(tr:Bool)(most:Nat)(p:iD):Y1:=∀{mh:ag}{Q:Yj}{s:cv}{c:Nat},YMH→ZIE≤800000→(∀ab,Y8n→kk ab B tr most YLW.1 ZIE→Q (YK YLW.2) ab)→aU g k 685 [Y1Z,YAn] mh Q
theorem auz(K:YN)(F:YZ)(hm:Y3e)(aF:Y1t):sb g Y6T B tr most Z0m:=λ{mh Q s c}Z ao h=>by
 refine Y02;intro gb gc gd;refine ZMi;exact tN rfl (cZ (aaD K F hm Z ao aF rfl (λm Q' dp=>hD 1 rfl Y4X rfl dp) h))
def accN(F:YO2)(l:ZC)(s:cv):YGR:=l.foldl Zk9 Yax
theorem aaE{F:YO2}{d:ZC}{x:α}{s:cv}:accN F YAc s=(Z3p.1,Ygg.2++[Z3p.2]):=wc
theorem auA{F:YO2}(l:ZC){s:cv}:Ygh.2.length=l.length:=by
 have h:∀r:YGR,Yme.2.length=YoR+l.length:=by
  induction l with
  |nil=>exact ZkC
  |cons a l ai=>exact λr=>YvN
 exact(h _).trans YVV
theorem auB{F:YO2}(l:ZC)(s:cv):l.foldl ZkA Yay=(Ygh.1,Ygh.2.any id):=by
 have h:∀(r:YGR),l.foldl ZkA (r.1,YoQ)=(Yme.1,Yme.2.any id):=by
  induction l with
  |nil=>exact ZkC
  |cons a l ai=>
   intro r;have w:=ai YIo;replace w:=Au List.any_append w;refine aj NI (aj NI (bL w ?_));show Hc _ (YOT,YoQ||YOU) l=Hc _ (YOT,YoQ||(YOU||false)) l;exact aa (Ds ..) rfl
 exact h Yax
theorem aaF(bs:Ydn):(bs.map V.bool).all (j2 · Y0h)=true∧(bs.map V.bool).any (b8 · Y0h)=ZHM:=by
 induction bs with
 |nil=>exact Zn
 |cons b bs ai=>
  rw[mF,List.all_cons,Ae,Ae,Y7R,YCi]
  cases b <;> exact Zn
theorem CN{cl:Calls}{v:V}(h:Y37):(bH cl (.op (wN v) [])).1 r m Q:=h
theorem aaG{c:Nat}{s:cv}{cl:Calls}(l:ZC)(kv:Y6h)(xJ:YO2)(w:Zfu){src elt:E}(hs:∀Q':Yj,Q' (YD Y7s) mh→(bH cl src).1 r mh Q')(h0:Y5X=Z2)(Z:YMH)(ao:ZID≤800000)(aE:l.length≤4)(step:∀a∈l,∀(m:ag)(s:cv)(c:Nat)(Q':Yj),ZT9→ZIF≤800000→(∀ab,ZAn→kk ab B tr most ZeY.1 ZIF→Q' (YK ZeY.2) ab)→YEY [some Yma,Z2] m Q')(h:∀ab,Y8n→kk ab B tr most ZDT.1 ZID→Q (YK (ZDT.2.any id)) ab):(bH cl (.op JE [YHY,ZF iK [src] ZQ 1 [0] [] elt])).1 r mh Q:=by
 have fB:inR 1 [0] r=[none,Z2]:=by
  show[none,YEk]=_;exact gS YxA rfl
 refine bQ (aw (cst (aw (tF (hs _ ZCx)))));let auC:=λYOf YvI YJI=>YFm∧kk m B tr most Ygi.1 ZIC∧acc=Ygi.2.map YK;refine kf l kv auC ⟨Yy,Z,rfl⟩ Y2L YYj Y3y
 ·obtain⟨f,cw,rfl⟩:=z;have ws:ZIC+52*w x=c+52*YtV:=by(exact aa dK (fH ui (aa acE (aL Ot (bW YI6 (ZO))))))
  have wl:YtV≤Yad:=by
   exact fH e (fH (show YCw=YAc++rest from(hG d [x] rest).symm) (bW (dK (l₁:=YAc)) (aL ui Yk)))
  refine my (step x YGd m _ _ _ cw (au (dH ws) (au (c0 (iu 52 wl) c) ao)) λaH f2 c9=>⟨?_,cf _ _ ⟨Y4y,?_,?_⟩⟩)
  ·exact aj YF (aj (auA ..) ZEb)
  ·exact aX aaE (bL ws c9)
  ·exact fH aaE ((dK (f:=V.bool) (l₁:=Ygi.2) (l₂:=[_])).symm)
 ·obtain⟨f,cw,rfl⟩:=z;exact λb ah=>⟨0,aS ⟨_,_,Yc,ZD6.1,aX (ZD6.2) (h _ ZNg (cw.no Y11))⟩⟩
theorem MR{cl:Calls}{a s:Mine.Internal.S}{e:E}{x n:Nat}(bo:YiS=ZZr)(h:ZVt)(q:YKd):a6 cl (.cV (Y6v (.op oEq [v 2,bK n]) e) a YO s) r m Qn Q:=en (Gh (fo (aw (bc bo (aw (cst (aS ⟨rfl,iP ZR6 (iP rfl YkF)⟩)))))))
theorem aaH{g:G}{k:Nat}{B:fu}{tr:Bool}{most:Nat}(K:YN)(F:YZ){p:iD}{ps:YFP}(kC:YAn=YcU)(hw:ZQL)(aE:Y9S)(dk:∀{tr most s},YLW=(ZDR.1,ZDR.2.any id))(kY:∀q∈ps,sb g k B tr most q):sb g (k+1) B tr most p:=λ{mh Q s c}Z ao h=>by
 have aP:Yuw:=YFz;refine Ynn
 (replace ao:=k7 hw ao;rw[hw]at h)
 refine gJ ZT K rfl Y2 (el (hD 0 rfl aP rfl (kG rfl rfl (MR rfl rfl (kG rfl rfl (tN rfl (cZ (aaG ps gh ZM5 hF (λQ' dp=>d6 (bc rfl ⟨Y1X,aP,Gm ps,dp⟩)) rfl Z ao Y7U (λa aD m s c Q' cw n0 dp=>eZ (oS rfl rfl (kY a aD cw n0 dp))) ZhJ))))))));rw[dk]at h;exact ZPV
theorem auD(l:YR6):(l.map Y5m).sum=l.length:=by
 induction l with
 |nil=>rfl
 |cons a l ai=>rw[mF,yb,ai,gi];rfl
theorem auE(K:YN)(F:YZ)(hm:Y3e):sb g Y6T B tr most YEt:=λ{mh Q s c}Z ao h=>by
 obtain⟨pp,ah,nr⟩:=YRi;refine gJ ZT K rfl Y2 ZMh;show a6 _ FN YfH mh ZS Q;refine kG rfl rfl (en (Gh (fo (aw (bc rfl (aw (cst (aS ⟨rfl,fo (aw (bc rfl (aw (cst (aS ⟨_,_,_,ah,rfl,_,Yyb,?_⟩)))))⟩))))))))
 cases tr with
 |true=>
  show a6 YKl Vu YfH mh (λbI ab=>a6 YKl KS bI ab ZS Q) Q;have hw:Yvw=4:=auD cB;have n0:c+52*Yvw≤800000:=dU hw ao;refine cZ (aaG (most:=most) (tr:=true) (s:=s) (c:=c) cB YYw YMD Y5m (λQ' dp=>CN dp) rfl Z n0 YwW (λq aF m s c Q' cw n0 dp=>aaD K F hm cw n0 aF rfl (λm Q' dp=>bc rfl dp) dp) ZhJ);have e:ZMA=(ZDS.1,ZDS.2.any id):=(show ZMA=ZIp from by
   show ZYg=_;exact cond_true _ _).trans (auB (F:=YMD) cB s)
  rw[e]at h;rw[hw]at cw;exact ZPV
 |false=>
  show a6 YKl KS YfH mh ZS Q;have dk:ZYp:=ZEp;refine tN rfl (el (eZ (e5 rfl (Gw (k:=YVI) K F YAI YRj YKU Z.1 Z.2.4 dk λei m1 vE G f1=>Yt))));intro aCg;refine cZ (eZ (aw (bc rfl (aw (tF (CN (kf cB YYw (λd acc m=>ZAo∧∃lots:Z59,YVZ=d.map Zjy∧acc=YML∧∀l∈lots,ZTN∧YVS=jo s YAx∧m l.2=ZZy) ⟨Yy,[],rfl,rfl,λl aE=>absurd aE cS⟩ Y2L Zhx Y3y)))))))
  ·obtain⟨f2,lots,aJ,rfl,aE⟩:=z;have aF:Y1t:=Y1o;refine my (bQ (aw (bc rfl (aw (eZ (F3 rfl rfl rfl (aak (k:=YDW) K F YAI YRj YKU ((YFj f1).no f2) G aF (f2 _ _ vE rfl) λtU aH MP cz=>aS ⟨rfl,?_,cf _ _ ⟨YkE,lots++Yf6,?_,?_,λl h=>?_⟩⟩)))))))
   ·refine aj YF (ZBZ);have w:=Y7c;rw[cj]at w;exact YSU
   ·rw[dK,aJ,dK];rfl
   ·exact(dK (f:=xI) (l₁:=lots) (l₂:=Yf6)).symm
   ·rcases iw h with h | h
    ·exact⟨Yfo.1,Yfo.2.1,cz _ _ Yfo.2.2 rfl⟩
    ·refine ZCZ;exact⟨aF,rfl,MP⟩
  ·obtain⟨f2,lots,aJ,rfl,aE⟩:=z;refine ZiL
   have cz:aB no m (upd m gY Yts):=ZAq;have aP:=bw m gY Yu2;generalize upd m gY Yu2=bF at cz aP ⊢;have hL:=Ywy;have aC:eH false most YEt s=n9 most (YVZ) s:=by refine dS aJ ?_;rfl
   rw[aC]at h;refine aay (lots:=lots) K F Z8w hm Z.2 G aP ?_ (λl w=>⟨YFp.1,?_,?_,cz _ _ YFp.2.2 rfl⟩) dk λeK f4 qX MQ px=>h eK ZQM ⟨qX,MQ,au px (gR Z.3 (Y2:52≤52*4))⟩
   ·refine ZBZ;exact YwW
   ·refine aa YvF ?_;exact Z91.1
   ·refine aX YvF ?_;exact Z91.2
theorem MS{c w b n:Nat}(h:c+52*b≤n)(e:YqF):c+52*w+52*a≤n:=aj ZO (bN YI6 (au (c0 (iu 52 e) c) h))
theorem auF{cl:Calls}{a b:E}(h:YOa r m λx ab=>x.Ay False λx=>cond x Z6f YvV):(bH cl Z1R).1 r m Q:=h
theorem auG{g:G}{k:Nat}{B:fu}{tr:Bool}{most:Nat}(K:YN)(F:YZ){a b:iD}(aD:ZZJ)(ah:sb g k B tr most b):sb g (k+1) B tr most Y9w:=λ{mh Q s c}Z ao h=>by
 refine ZOp;show a6 _ FN [Z2,some (gh Y9w),some Z1w,none,none] mh ZS Q;refine kG rfl rfl (MR rfl rfl (kG rfl rfl (kG rfl rfl (tN rfl Yid))));have dD:YGu+0≤hF Y9w:=Yk;have hE:eH tr most Y9w s=cond YOl Y8z ZM7:=rfl;have q0:c+52*YGu+52*hF b=c+52*hF Y9w:=by rw[dw,←uh];rfl
 rw[hE]at h;refine auF (eZ (aw (bc rfl (aw (hD 1 rfl Y5H rfl (aS (aD Z (MS (a:=0) ao dD) λm1 f1 fg=>?_)))))))
 cases e:YOl with
 |true=>
  rw[e]at h;have q:Q (YK YOl) m1:=h m1 f1 (fg.up (c0 (iu 52 dD) c));replace q:=ZGQ;exact q
 |false=>
  rw[e]at h;exact eZ (aw (bc rfl (aw (hD 2 rfl Y5H rfl (aS (ah fg (MS ao YW) λaH f2 c9=>h aH Y7i (bL q0 c9)))))))
abbrev auH(mh:ag)(B:fu)(tr:Bool)(most w:Nat)(T:Y12)(F:Y4v)(n:Nat)(b:Bool)(v0 v1 v2:Yp)(r:bG)(m:ag)(bU:Y1):Y1:=∀(s':cv)(fl:Yp),YFm→kk m B tr most s' w→T=Cy F n b s'→r=[v0,v1,v2,none,fl]→bU
abbrev auI(mh:ag)(B:fu)(tr:Bool)(most w:Nat)(T:Y12)(F:Y4v)(n:Nat)(b:Bool)(v0 v1 v2:Yp)(r:bG)(m:ag):Y1:=∀bU:Y1,auH mh B tr most w T F n b v0 v1 v2 r m bU→bU
theorem auJ{g:G}{k:Nat}{B:fu}{tr:Bool}{most:Nat}(K:YN)(F:YZ){a:iD}{n:Nat}(az:Y2W)(aD:ZZJ):sb g (k+1) B tr most YF7:=λ{mh Q s c}Z ao h=>by
 refine ZOp;show a6 _ FN [Z2,ZaG,ZZp,none,none] mh ZS Q;refine kG rfl rfl (MR rfl rfl (kG rfl rfl (kG rfl rfl (kG rfl rfl (forR (d6 (hD 2 rfl Y5H rfl ZnB)))))));refine k0 Y6K ay (λd=>auI mh B tr most (c+52*YTf) (eH tr most YF7 s) ZM6 YHQ YTq Z2 ZaG ZZp)
  (λO bA=>bA s none Yy (by refine aa Hl (fH (Oo ..) ?_);exact Z) rfl rfl) Y2L YIh Y3j
 ·refine bp λax=>Zf6;subst BO;have w:YwJ:=YSx
  have hd:ZKJ:=ZHY
  have ex:ZeV:=ZHt
  obtain⟨j,fe⟩:ZmS:=ZnU
  refine Yb;have Me:ZUx:=ZHc
  rw[fe,XN]at hE;refine t1 (en (L6 (xk (aw (bc rfl (aw (hD 1 rfl Y5H rfl (aS (aD cw (MS ao (ZdQ:ZKH)) λaH f2 c9=>?_)))))))));replace c9:=fH ZdP (bW YI6 (bL ZO c9));show cond (! YjW.2) _ _
  cases cM:YjW.2 with
  |true=>
   replace hE:=ZWp;refine e8 _ _ (λO bA=>bA (YjW.1) _ Y4y ?_ ?_ rfl)
   ·refine ZCp;exact c9
   ·rw[cj,sx,Me,ZLC];exact hE
  |false=>
   rw[cM]at hE;rw[hE]at h;refine ZCw;refine ZJ7;show Z6b;exact ZZO▸(h aH Y4y (c9.up (c0 (iu 52 YMR) c)))
 ·refine Zf6;subst BO
  (rw[fN]at cw;rw[fN]at hE)
  rw[rf]at hE;rw[hE]at h;refine cZ (bQ (aw (hD 2 rfl Y5H rfl Y8t)));show Z6c;exact ZZP▸h m f cw
theorem zO(k a:Nat):Y6T+a+1=k+1+18+a:=aj (fO Y6T a 1) (dS (fO k 18 1) rfl)
theorem auK{k:Nat}(K:YN)(F:YZ)(hm:Y3e){p:iD}(ok:Md p):sb g (Y6T+k1 p) B tr most p:=by
 induction p generalizing k with
 |once q=>exact auz K F hm ok
 |all=>exact auE K F hm
 |seq1 a ai=>
  exact @aaH g ZSb B tr most K F YcL [a] rfl YZo Y5G ZlJ λq aF=>aa Y0H (aV ZO (aa YYH ZDn))
 |Cx a b eh eQ=>
  refine @aaH g ZSc B tr most K F Yzm Y1R rfl Yvy Y5s Yza YOF
  ·exact aa e ZC7
  ·exact aa Y0H ZC6
 |either a b eh eQ=>
  refine @auG g ZSc B tr most K F a b ?_ ?_
  ·exact ZC7
  ·exact ZC6
 |rep a n ai=>
  exact @auJ g ZSb B tr most K F a n YHW (aV ZO (aa YYH ZDo))
noncomputable abbrev pZ:Z9:=cl 6
noncomputable abbrev p0 (cd:Nat) (n:Int):dm:=[(Y4 7,Z1e),(Y4 9,Y8Q)]
inductive jb(m:ag)(bX:Nat):Y1
 |mk (at_:∃cd n cs,m bX=some (6,Y9 1 (p0 cd n))∧m cd=Za4∧cs.all V.isInt=true∧cs.length≤1000)
variable{bX:Nat}
theorem jb.dq{p:Z9}(Z:YH2)(F:YFo)(pd:p 6=false)(auL:p 14=false):YAv:=⟨Yf4 λcd z=>z.imp λn z=>z.imp λcs z=>⟨F _ _ z.1 pd,F _ _ Z4 auL,Z3⟩⟩
theorem aaI(x:Int){n:Nat}(h:0<n):∃w:Nat,w<n∧x.fmod Y0q=(w:Int):=by
 have az:Yu4:=x1.mpr h;obtain⟨w,e⟩:=ax3 (Int.fmod_nonneg_of_pos x az);exact⟨w,x1.mp (aV e (Int.fmod_lt_of_pos x az)),e⟩
theorem CO{cl:Calls}{x y:Int}(h:Z6k):oI.o.ij cl Z9F m Q:=h
theorem tV(K:YN)(F:YZ){n:Nat}(Z:YH3)(az:0<n)(h:∀w ab,w<n→ZSB):aU g (k+1) 636 [YPy,Y3B] mh Q:=by
 refine YM;obtain⟨cd,d,cs,ar,ao,ci,cl⟩:=Z.1;refine Yb;have lB:∀{d},c8 ZWZ (Y4 9)=some (YI d):=rfl;have aaJ:∀{d},c8 ZWZ (Y4 7)=some Z1e:=rfl;refine Y02;intro gb gc gd;refine tq (bQ (aw (kH rfl ar lB (aw (cst (aS (CO (bc rfl (cst ⟨_,_,_,ar,rfl,YwT,?_⟩)))))))));show a6 ZH U4 YfJ Ypy ZS Q;have f1:aB pZ mh Ypy:=aB.at ar rfl;have aaK:cd≠bX:=λe=>by replace ao:=aQ ar (bN e ao);exact absurd (congrArg YYt (cu ao)) (Yf:(6:Nat)≠14)
 have kF:=bw mh bX (6,ct.dict 1 Ynu);have qZ:upd mh bX YuC cd=Za4:=(dE aaK).trans ao;generalize Ypy=m1 at f1 kF qZ ⊢;revert m1;refine Y17;intro m1 f1 kF qZ;have aaL:Y0q≠0:=λe=>p8 az (Int.ofNat_inj.mp e);refine Yt;intro aCh;refine en (fo (aw (kH rfl kF aaJ (aw (bQ (aS λb ah=>⟨0,aS ⟨_,_,cY ah qZ,_,_,Yc,Y5E,?_⟩⟩))))))
 ·refine Yky;rfl
 have f2:aB no m1 ZcA:=Y11;generalize ZcA=aH at f2 ⊢;revert aH;refine Y17;intro aH f2;have fK:=ZNs;have zP:=f2 _ _ qZ rfl;have hL:=ZNp
 cases cs with
 |nil=>
  show a6 ZH KO YfJ aH ZS Q;refine cZ (bQ (aw (bQ (aw (bQ (aw (bQ (aw (bQ (aw (kH rfl fK lB (aw (cst (aS ⟨YC,YC,aw (cst (aS (CO (aw (cst (aS ⟨YC,aw (cst (aS ⟨rfl,ZF7⟩))⟩))))))⟩))))))))))))));obtain⟨w,hw,e⟩:=aaI (Int.fdiv (Int.fmod ((d+1)*29+17) 97) 3) az;exact aX e (h w aH hw ⟨cd,d+1,[],fK,zP,rfl,Z0⟩ hL)
 |cons x cs=>
  refine dG ci YEP;obtain⟨i,rfl⟩:=V.jM bD;show a6 ZH U3 YfJ aH (λr m=>a6 ZH KO r m ZS Q) Q;refine cZ (bQ (aw (mx (kH rfl fK aaJ ⟨⟨_,_,zP⟩,aw (cst (aS ⟨rfl,_,_,zP,au cl Y2,ZF7⟩))⟩))));obtain⟨w,hw,e⟩:=aaI i az;exact aX e (h w _ hw ⟨cd,d+1,cs,(dE aaK.symm).trans fK,Yc,bC,ud cl⟩ (hL.trans (aB.at zP rfl)))
abbrev zQ(p:cE)(n h:Nat):Y1:=hr YAi Y3q (ZV≤n) (YAY≤h)
abbrev auM(g:G)(k d:Nat):Y1:=∀{mh:ag}{Q:Yj}{bX:Nat},YH3→(∀p ab,ZfL→YAv→Yfm→Q Zk ab)→aU g YmO 643 Z9O mh Q
theorem p1{w n:Nat}(h:w<n+1):w<n∨w=n:=Ao h
theorem aaM(d:Nat):V.int (((d+1:Nat):Int) - 1)=ay d:=congrArg V.int (acr (d:Int) 1)
theorem MT{cl:Calls}{x y:Int}(h:Z6j):nR.o.ij cl Z9F m Q:=h
theorem p2{cl:Calls}{a s:Mine.Internal.S}{w n:Nat}(bo:Y1G=YNE)(h:w≠n)(q:YKd):ZAO:=en (fo (aw (bc bo (aw (cst (aS ⟨rfl,iP (ic λe=>h YMb) YkF⟩))))))
theorem CP{cl:Calls}{a s:Mine.Internal.S}{n:Nat}(bo:Y1G=YHp)(q:a6 cl a r m (λbI ab=>a6 cl s bI ab Qn Q) Q):ZAO:=en (fo (aw (bc bo (aw (cst (aS ⟨rfl,lS (iI Y3B) q⟩))))))
theorem GG(K:YN)(F:YZ){b:Nat}(aD:0<a)(ah:0<b)(Z:YH3)(h0:Y5X=Y0T)(ak:YTF=some (ay d))(h:∀w ab,(0<d→w<a)→(d=0→w<b)→ZSB):(bH ZBv (.op Y7b [v 0,.cV Ybz (bY YZx) (bY (b:Int))])).1 r mh Q:=by
 refine eZ (aw (bc h0 (aw (xC (fo (aw (bc ak Y8t)))))));show cond ZL4 _ _;refine d9 (show ZL4=decide (0<d)from dec_lt 0 d) ?_
 cases d with
 |zero=>exact cst (aS (tV K F Z ah λw ab hw cw f=>h w ab ZiV Zgt cw f))
 |succ d=>exact cst (aS (tV K F Z aD λw ab hw cw f=>h w ab Zgt (λh=>absurd h (k5 d)) cw f))
theorem aaN{cl:Calls}{w:Nat}(hw:w<2){x0 c6:Yp}(h:∀o,Y4K→Q (bB Y9v) mh):a6 cl KP [x0,c6,YNE] mh ZS Q:=by
 refine p2 (n:=2) rfl (ej hw:w≠2) (cZ (xC (fo (aw (bc rfl (aw (cst (aS ⟨rfl,iP (ic λe=>(ej (p9 hw):w≠3) YMb) (bQ (aw (bQ (aw (bQ (aw (cst (aS ⟨rfl,aw (bQ (aw (cst (aS ⟨rfl,aS ⟨rfl,aw (bc rfl Y3o)⟩⟩))))⟩))))))))⟩))))))));rcases p1 hw with q | q
 ·exact aa YY8 (⟨Y4X,bB Y9u,rfl,h 17 rfl⟩)
 ·exact aa q (⟨Y4X,bB (.c 21),rfl,h 21 rfl⟩)
theorem aaO(K:YN)(F:YZ)(d:Nat):auM g k d:=by
 induction d with
 |zero=>
  intro mh Q bX Z h;exact gJ ZT K rfl Y2 (el (GG (k:=k) (a:=4) (b:=2) (d:=0) K F Y2 Y2 Z rfl rfl λw ab O hw cw f=>aaN ZQo λo aA=>h Y9v ab ⟨trivial,aA,YwO,YwO⟩ cw f))
 |succ d ai=>
  intro mh Q bX Z h;have aC:2 ^ (d+1+1) - 1=YQL+YQL+1:=by
   have p:=Nat.one_le_two_pow (n:=d+1);exact aT (x7 2 (d+1)) (aT YK5 (aL ZO (bW (x8 p) ((Nat.sub_add_comm p)))))
  refine gJ ZT K rfl Y2 (el (GG (k:=YH9) (a:=4) (b:=2) (d:=d+1) K F Y2 Y2 Z rfl rfl Zkj));show a6 YKm KP Z9o ab ZS Q;have call:∀{m:ag}{Q':Yj}{r:bG},Y5X=Y0T→YTF=YND→YH2→(∀p ab,ZfL→YAv→Yfl→Q' Zk ab)→(bH YKm YPm).1 r m Q':=ZiT;rcases ZWa with q | q
  ·rcases p1 q with q | q
   ·exact aaN q λo aA=>h Y9v ab ⟨trivial,aA,au ZOQ (dH aC.symm),ZOQ⟩ cw f
   ·rw[q];refine CP (n:=2) rfl ?_;show a6 YKm U5 [Y0T,YND,some (ay 2)] ab _ Q;refine cZ (bQ (aw (cst (aw (call rfl rfl cw λa aH ga c9 f2=>aw (call rfl rfl c9 λb bF sN ja cz=>aS ⟨rfl,h (.b 1 a b) bF ⟨⟨ga.1,sN.1⟩,?_,?_,?_⟩ ja (Ywx cz)⟩))))))
    ·exact(show(gu a&&gu b)=true from lF ⟨ga.2,sN.2⟩)
    ·refine ZBN;exact dX (gR ga.3 sN.3)
    ·exact dX (Nat.max_le.mpr ⟨ga.4,sN.4⟩)
  ·rw[q];refine p2 (n:=2) rfl Yf (cZ (xC (fo (aw (bc rfl (aw (cst (aS ⟨rfl,bQ (aw (cst (aw (call rfl rfl cw λa aH ga c9 f2=>aS ⟨rfl,h (.u 8 a) aH ⟨ga.1,lF ⟨rfl,ga.2⟩,?_,dX ga.4⟩ c9 Y4y⟩))))⟩))))))));refine ZBN;exact dX (au ga.3 Yk)
def MU(d:Nat):Nat:=d.rec 4 λO w=>w+w
def tB(d:Nat):Nat:=d.rec 0 λO h=>h+h+2
abbrev zR(p:iD)(d:Nat):Y1:=jd (Md p) (YDM≤MU d) (k1 p≤tB d)
abbrev auN(g:G)(k d:Nat):Y1:=∀{mh:ag}{Q:Yj}{bX:Nat},YH3→Yso→aU g YmO 648 Z9O mh Q
theorem mX(d:Nat):4≤MU d:=by
 induction d with
 |zero=>exact YW
 |succ d ai=>exact au ai Yk
theorem MV(K:YN)(F:YZ){w:Nat}(Z:YH3)(ak:w≠1)(av:w≠2)(aP:w≠3)(da:w≠4){c6:Yp}(h:Yso):a6 ZBv FL [Y0T,c6,YNE] mh ZS Q:=by
 refine p2 (n:=1) rfl ak (p2 (n:=2) rfl av (p2 (n:=3) rfl aP (p2 (n:=4) rfl da (cZ (bQ (aw (cst (aw (bQ (aw (CN (aw (eZ (aw (bc rfl (aw (cst (aS (tV (n:=4) K F Z Y2 λc ab ao cw f=>Y3o)))))))))))))))))));have aq:cB[c]?=some YiP:=dy ao;refine⟨YEc,Y4 YiP.1,?_,aS ⟨rfl,h (.once YiP) ab ⟨et aq,au YwQ (mX d),Z0⟩ cw f⟩⟩;show(cB.map λq=>Z8E)[c]?=_;rw[gy,aq];rfl
theorem aaP{cl:Calls}(Z:YH3){c6:Yp}(h:Yso):a6 cl FL [Y0T,c6,some (ay 1)] mh ZS Q:=
 CP (n:=1) rfl (cZ (bQ (aw (cst (aS ⟨rfl,h YEt mh ⟨trivial,mX d,Z0⟩ Z Yy⟩)))))
abbrev auO(bX d:Nat)(ab:ag)(e:YV)(acc:Y3)(m:ag)(bU:Y1):Y1:=∀(ps:YFP),ps.length=e.length→acc=YBA→(∀p∈ps,Yr1)→YH2→aB pZ ab m→bU
abbrev auP(bX d:Nat)(ab:ag)(e:YV)(acc:Y3)(m:ag):Y1:=∀bU:Y1,auO bX d ab e acc m bU→bU
theorem auQ(K:YN)(F:YZ)(d:Nat):auN g k d:=by
 induction d with
 |zero=>
  intro mh Q bX Z h;refine gJ ZT K rfl Y2 (el (GG (k:=k) (a:=6) (b:=2) (d:=0) K F Y2 Y2 Z rfl rfl λw ab O hw cw f=>?_));rcases p1 ZQo with q | q
  ·have q:=YY8;exact MV K F cw YBE YBE YBE YBE Ys9
  ·rw[q];exact aaP cw Ys9
 |succ d ai=>
  intro mh Q bX Z h;refine gJ ZT K rfl Y2 (el (GG (k:=YH9) (a:=6) (b:=2) (d:=d+1) K F Y2 Y2 Z rfl rfl Zkj));have h:∀p aH,zR p (d+1)→jb aH bX→aB pZ ab aH→Q YAn aH:=Ys9;show a6 YKm FL Z9o ab ZS Q;have call:∀{m:ag}{Q':Yj}{r:bG}{i j:Nat},Y1G=Y0T→YAW=YND→YH2→(∀p ab,Yr1→YAv→Yfl→Q' YAn ab)→(bH YKm (.op YGM [v i,.op nR [v j,Y1c]])).1 r m Q':=ZiT;have bJ:∀{a b:Nat},a≤tB d→b≤tB d→a+b+2≤tB (d+1):=λak av=>h7 (gR ak av) 2;rcases ZWa with q | q
  ·rcases p1 q with q | q
   ·rcases p1 q with q | q
    ·rcases p1 q with q | q
     ·rcases p1 q with q | q
      ·have q:=YY8;exact MV (k:=YH9) K F cw YBE YBE YBE YBE h
      ·rw[q];exact aaP cw h
     ·rw[q];refine p2 (n:=1) rfl Yf (CP (n:=2) rfl Yt);intro aCi;refine cZ (bQ (aw (bQ (aw (cst (aS ⟨rfl,aw (d6 (F4 (d6 (bQ (aw (cst (aw (eZ (aw (bc rfl (aw (cst (aS (tV (k:=YH9) (n:=2) K F cw Y2 λc aH ao c9 f2=>ZBp))))))))))))))⟩))))));have lc:1+c≤2:=c0 ZQk 1;refine⟨ZF1,kf (di (1+c)) ay (auP bX d ab) (λO bA=>bA ([]) rfl rfl YOE c9 f2) Y2L (λe x rest e3 acc m z N cf=>?_) Y3y⟩
      ·refine Zf5;subst xv;refine my (call rfl rfl ja λp eK ar qX f4=>⟨?_,cf _ _ (λO bA=>bA (ps++[p]) (by rw[cj,cj,aJ];rfl) ((dK (f:=gh) (l₁:=ps) (l₂:=[p])).symm) (λq aF=>YxM (c1 q) λaF=>Y0H▸ar) qX ZKA)⟩);have w:=congrArg l5 e3;replace w:=YhP;refine ZDx;exact au YG2 ZF1
      ·refine Zf5;subst xv;replace aJ:=bL YDH (bL fN aJ);have l2:(ps.map gh).length≤2:=by refine aj YF (aj aJ Ygt);exact lc
       refine λb ah=>⟨0,_,_,Yc,YSW,Gm ps,aS ⟨Yhy,rfl,?_⟩⟩
       have ff:aB no m Zc5:=Y11;have MW:=ja.dq ff rfl rfl;generalize Zc5=pq at ff MW ⊢
       cases ps with
       |nil=>exact absurd aJ (k5 c).symm
       |cons a ps=>cases ps with
        |nil=>exact h YcL pq ⟨YT7.1,au YT7.2 Yk,bJ (b:=0) YT7.3 Z0⟩ MW ZKB
        |cons a2 ps=>cases ps with
         |nil=>
          have ek:=YT7;have cO:=c1 a2 YGZ;exact h (.Cx a a2) pq ⟨⟨ek.1,cO.1⟩,gR ek.2 cO.2,bJ ek.3 cO.3⟩ MW ZKB
         |cons _ _=>exact absurd l2 (by refine dS YF ?_;exact su (fp 3 _))
    ·rw[q];refine p2 (n:=1) rfl Yf (p2 (n:=2) rfl Yf (CP (n:=3) rfl (cZ (bQ (aw (cst (aw (call rfl rfl cw λa aH rx c9 f2=>aw (call rfl rfl c9 λb bF MX ja cz=>aS ⟨rfl,h Y9w bF ⟨⟨rx.1,MX.1⟩,gR rx.2 MX.2,bJ rx.3 MX.3⟩ ja YkE⟩)))))))))
   ·rw[q];refine p2 (n:=1) rfl Yf (p2 (n:=2) rfl Yf (p2 (n:=3) rfl Yf (CP (n:=4) rfl Yt)));intro aqI;refine cZ (bQ (aw (cst (aw (call rfl rfl cw λa aH rx c9 f2=>aw (eZ (aw (bc rfl (aw (cst (aS (tV (k:=YH9) (n:=3) K F c9 Y2 λc bF ao ja cz=>aS ⟨rfl,h (.rep a c) bF ⟨⟨au (h9 ao) Y2,rx.1⟩,au (Nat.mul_le_mul ZQk rx.2) (dH (acy _)),bJ (b:=0) rx.3 Z0⟩ ja YkE⟩))))))))))))
  ·rw[q];exact MV (k:=YH9) K F cw Y21 Y21 Y21 Y21 h
def mC(a:Nat)(m ab:ag):Y1:=∀x o,m x=YB→x≠a→ab x=YB
theorem mC.trans(x:mC a m m1)(y:mC a m1 aH):mC a m aH:=λb o e n=>y b o (x b o e n) n
theorem fld{cl:Calls}{s:Mine.Internal.S}{e:E}{ob:ct}(bo:YLC)(aD:YMM)(af:YDT)(aE:YDF)(ev:∀Q':Yj,alloc m ob Q'→Ya2)(h:∀b ab,Y5W→Y1y=some (tg,ob)→YgT):YfZ:=by
 refine zg (ev _ λb ah=>⟨tg,bc bo ⟨_,_,cY ah aD,af,aE,?_⟩⟩);have n:Y5W:=λq=>by replace ah:=aQ aD (bN q ah);exact cW ah
 exact h b _ n (YBi Yc) Yc λx o e q=>YBj (cY ah e)
theorem sd{cl:Calls}{s:Mine.Internal.S}(bo:YLC)(aD:YMM)(af:YDT)(aE:YDF)(h:∀b ab,Y5W→Y1y=some (tg,Y0R)→YgT):a6 cl (Yi YbQ Y0x s) r m Qn Q:=ZOO
theorem MY{cl:Calls}{s:Mine.Internal.S}{c:Nat}(bo:YLC)(aD:YMM)(af:YDT)(aE:YDF)(h:∀b ab,Y5W→Y1y=some (tg,Y9 c [])→YgT):a6 cl (Yi YbQ (.op (tl c) []) s) r m Qn Q:=ZOO
theorem vH{cl:Calls}{s:Mine.Internal.S}{e:E}{x:V}(bo:YLC)(aD:YMM)(af:YDT)(aE:YDF)(ev:∀Q':Yj,Q' x m→Ya2)(h:∀ab,ZD8→ZUF):YfZ:=
 zg (ev _ (bc bo ⟨_,_,aD,af,aE,h _ Yc Zkq⟩))
theorem zS{f:Nat}{l:YH}(K:YN)(hf:Yhs=YE3)(hm:YuK)(t:Nat)(h:∀a m,m a=some (t,Ybe)→Y9O→Y7L→aU g k f Z1d m λr ab=>r=Y7∧YeR):ZBx:=
 agd K hf hm λa d aD hd n=>⟨t,h a _ Yc aD λx o e O=>(dE Zk3).trans ((aB.new (p:=no) hd) x o e rfl)⟩
theorem CQ(aD:Y9O)(f:Y7L)(k:YMO):Y0G:=λx o e O=>k x o (f x o e rfl) Zk3
theorem MZ{f:Nat}{l:YH}{x:V}(K:YN)(hf:Yhs=YE3)(hm:YuK)(az:ns.length=2)(ff:yW g.K br f ns 2 (Yi (.fd C 0 (v 0)) (v 1) YO)=true)(h:∀a ab,YAQ=some (0,ZD C [x])→YKf):aU g (k+2) C [x] mh Q:=by
 exact zS K hf hm 0 λa m ak av f1=>gJ ff K rfl (aa az (bV 2)) (ix az (vH (x:=x) rfl ak YW YEb YEO λab e k=>(⟨rfl,h a ab e (CQ av f1 k)⟩:YFi∧YeR)))
theorem auR{x:V}(K:YN)(F:YZ)(h:∀a ab,YAQ=some (0,ZD 236 [x])→YKf):aU g (k+2) 236 [x] mh Q:=MZ K rfl (et (i:=6) rfl) rfl ZT h
theorem auS{x:V}(K:YN)(F:YZ)(h:∀a ab,YAQ=some (0,ZD 301 [x])→YKf):aU g (k+2) 301 [x] mh Q:=MZ K rfl (et (i:=11) rfl) rfl ZT h
theorem auT{x:V}(K:YN)(F:YZ)(h:∀a ab,YAQ=some (0,ZD 405 [x])→YKf):aU g (k+2) 405 [x] mh Q:=MZ K rfl (et (i:=19) rfl) rfl ZT h
noncomputable abbrev pD:bu:=⟨[],id,[],Y9h,[],0⟩
theorem se{P:Y1}(h:i<0):P:=YCe
theorem aaQ:Rest pD []:=⟨⟨Znh,lC,Ziw,⟨lC,λk h=>Y4o⟩,ZjE,Ziw,λi x c h=>Y08,λi h=>Y4o,Y9i,Y9i,ZEj⟩,rfl,Zjp,λR C i h=>se h⟩
theorem auU(K:YN)(F:YZ)(h:∀A ab,kV ab A []→Y0G→Q YF5 ab):aU g (k+2) 198 [] mh Q:=by
 exact zS K rfl (et (i:=0) rfl) 1 λa m ak av f1=>gJ ZT K rfl Y2 (sd (tg:=9) rfl ak YW YEb λb1 m1 dn aJ ak dC=>MY (tg:=17) rfl ak YW YJ5 λe2 aH fI aC mQ du=>sd (tg:=25) rfl mQ YW YJ7 λgg bF qp c1 aP gs=>sd (tg:=33) rfl aP YW YOj λnd eK px qe da jl=>(⟨rfl,h ⟨a,b1,e2,gg,nd⟩ eK ⟨da,jl _ _ ZPJ dn,jl _ _ ZPK fI,⟨[],jl _ _ c1 qp,rfl,rfl⟩,[],qe,rfl,rfl⟩ (CQ av f1 YtX)⟩:YFi∧Q YA eK))
theorem auV(K:YN)(F:YZ)(h:∀A ab,hP ab A 0 id 0→Y0G→Q YA2 ab):aU g (k+2) 487 [] mh Q:=by
 exact zS K rfl (et (i:=24) rfl) 2 λa m ak av f1=>gJ ZT K rfl Y2 (sd (tg:=10) rfl ak YW YEb λb1 m1 dn aJ ak dC=>sd (tg:=18) rfl ak YW YJ5 λe2 aH fI aC mQ du=>sd (tg:=26) rfl mQ YW YJ7 λgg bF qp c1 aP gs=>(⟨rfl,h ⟨a,b1,e2,gg,Y86⟩ bF ⟨aP,⟨[],ZPJ,rfl,λi p h=>Y08⟩,ZPK,⟨[],c1,YW⟩,Y9i,Znh⟩ (CQ av f1 (YOg gs))⟩:YFi∧Q YA bF))
theorem auW(K:YN)(F:YZ)(h:∀A ab,d3 ab A pD→Y0G→Q Y1M ab):aU g (k+4) 617 [] mh Q:=by
 refine zS K rfl (et (i:=31) rfl) 3 λa m ak av f1=>gJ ZT K rfl Y2 (zg (eZ (aS (auU (k:=k) K F λB m1 fg ff=>bc rfl ⟨_,_,ZOH,YW,YEb,?_⟩))));have dC:mC a m Ypv:=λx o e q=>YBj (ff x o e rfl);have fr:∀{m ab:ag}{o:ct},m a=some (3,o)→YMO→aB YTZ m ab:=λe k x o q c=>k x o q λz=>by
  replace q:=ZBj;replace c:=ZKn;exact Y9R
 have ky:∀i,i≠3→∀t,YTb→Yil=false:=λi n t h=>ZGz;have fg:=fg.dq (aB.at (p:=YTZ) (o':=Z0j) ZOH rfl) Ymb;have ak:=bw m1 a (3,ct.obj 617 [Y1Z]);show a6 Y5S U1 [Y05] Ypv _ _;generalize Ypv=aH at dC fg ak ⊢;refine zg (eZ (aS (auV (k:=k) K F λU bF c9 n4=>bc rfl ⟨_,_,ZV4,YW,YJ5,?_⟩)));have du:mC a aH Ypt:=λx o e q=>YBj (n4 x o e rfl);have fg:=fg.dq (fr ak du) Ymb;have c9:=c9.dq (aB.at (p:=YTZ) (o':=Z0i) ZV4 rfl) ZTK;have mQ:=bw bF a (3,ct.obj 617 Yf9);show a6 Y5S U0 [Y05] Ypt _ _;generalize Ypt=eK at du fg c9 mQ ⊢;refine sd (tg:=11) rfl mQ YW YJ7 λb1 i0 dn aJ fG gZ=>sd (tg:=19) rfl fG YW YOj λe2 pA fI aC pd oO=>MY (tg:=27) rfl pd YW YwV λgg rN qp c1 nA BQ=>MY (tg:=35) rfl nA YW YwX λnd auX px qe lE sf=>sd (tg:=43) rfl lE YW YwY λzl M0 w7 kZ qc vI=>?_;have DZ:=(((gZ.trans oO).trans BQ).trans sf).trans vI;have hL:=fr mQ DZ;exact(⟨rfl,h ⟨a,b1,e2,gg,nd,zl,B,U,Y86⟩ M0 ⟨qc,fg.dq hL Ymb,c9.dq hL ZTK,⟨[],vI _ _ (sf _ _ (BQ _ _ (oO _ _ aJ dn) dn) dn) dn,YW⟩,⟨[],vI _ _ (sf _ _ (BQ _ _ aC fI) fI) fI,YW⟩,vI _ _ (sf _ _ c1 qp) qp,⟨[],vI _ _ qe px,YW,Y9i⟩,Y9i,kZ⟩ (CQ av f1 (YOg DZ))⟩:YFi∧Q YA M0)
abbrev zT:=YV×cE
def kl(p:cE):Yds:=p.rec (λn=>[([],Y0r)]) (λo=>[([],Y9v)]) (λo a A=>([],Y76)::Z2V) λo a b A B=>([],Y4a)::(Z2V++B.map λz=>(1::z.1,z.2))
def zU(z:zT):V:=YD [YD (a4 z.1),bB z.2]
def xK(k:Nat)(z:zT):zT:=(k::z.1,z.2)
def CR(p:cE):Y1:=Yac≤100∧∀z∈YHC,Zf7
theorem auY(l:ZC)(kv:Y6h):pairs Y7s=l.zipIdx.map λz=>V.tup [YAT,kv z.1]:=by
 refine Ye3
 (refine ZBL;refine aa YF ?_)
 by_cases h:ZQv
 ·have aq:Y53=some ZTn:=YTu;refine ZCP;show some (V.tup [YJd,(l.map kv).getD i Y7])=some (V.tup [ZFB,kv ZTn]);refine aa (ho) (aa (gy) (aa aq YgL));rfl
 ·refine ZCO;rfl
theorem auZ{cl:Calls}{e:E}{t:dY}{b s:Mine.Internal.S}(h:Zd r m λv ab=>v.eM False λl=>∃P:Y2i,Z6F∧Zlz∧∀v vs r m,Y7F→YH4∧j3 t It.o.weak v r Yrd):a6 cl (Y0A It [e] t b s) r m Qn Q:=h
theorem au0{cl:Calls}{elt:wG}{x y:V}{N:Ys}(h:elt YPC m YsX):mV YA5 false r YjQ.2 elt Z2F acc m N:=h
abbrev M1(g:G)(k:Nat)(p:cE):Y1:=∀{mh:ag}{Q:Yj},(∀b ab,Y1y=some (8,Y5 ((kl p).map zU))→YFn)→aU g k 96 [Zk] mh Q
abbrev au1(fD:Nat)(m1:ag)(p:cE)(ll:YKF)(d:Z5F)(r:bG)(m:ag)(bU:Y1):Y1:=(m fD=some (8,Y5 ((([],p)::d.flatMap YsZ).map zU)))→mC fD m1 m→∀(cT eY:Yp),r=ll cT eY→bU
abbrev au2(fD:Nat)(m1:ag)(p:cE)(ll:YKF)(d:Z5F)(r:bG)(m:ag):Y1:=∀bU:Y1,au1 fD m1 p ll d r m bU→bU
theorem GH(K:YN)(F:YZ){o:Nat}(kC:YKx)(aE:Y9S)(ar:YHC=([],p)::ps.zipIdx.flatMap YsZ)(nI:CR p)(kY:∀q∈ps,CR q→M1 g k q):M1 g (k+1) p:=λ{mh Q}h=>by
 have aP:YEX:=YFz;have au3:∀d z rest,ps.zipIdx=ZKF→z.1∈ps∧CR z.1∧(d.flatMap YsZ).length≤100:=by
  intro d z rest e;have hz:z∈ps.zipIdx:=Y1o;have o1:=nI.1
  (replace o1:=aQ g5 (bN ar o1);rw[e]at o1;replace o1:=k7 rg o1;rw[uf]at o1;replace o1:=k7 cj (bN cj o1);rw[bt]at o1)
  have o1:=ud o1;refine⟨et (pJ (N:=ps) (x:=z.1) (j:=z.2) hz),⟨(au (au Yk Y1X) o1:(kl z.1).length≤100),YOI⟩,au Yk o1⟩;have w:=nI.2 Yqe (aj ar (eI _ (Ap ⟨z,hz,kp ⟨y,bb,rfl⟩⟩)));exact ud w
 rw[ar]at h;generalize M3:Zk=jD;replace M3:=aQ kC M3;subst M3;refine Y02;intro gb gc gd;refine el (bQ (aw (bQ (aw (bQ (aS ⟨rfl,aw (bc rfl (aS ⟨rfl,aS λfD sa=>⟨8,?_⟩⟩))⟩))))));have f1:aB no mh (upd mh fD (8,Y5 Z9T)):=ZAu;have ak:=bw mh fD YuE;generalize upd mh fD YuE=m1 at f1 ak ⊢;revert m1;refine Y17;intro m1 f1 ak;have nb:∀{m:ag}{x:Nat}{o:Y1D},mh x=YB→x≠fD:=λe q=>by replace e:=aQ sa Y5V;exact Y4t
 refine auZ ZKQ;show∃P:Y2i,P (pairs YWY) _ m1∧_;refine aa (auY ..) (k0 ps.zipIdx (λz=>V.tup [YAT,bB z.1]) (au2 fD m1 p λcT eY=>[YNA,YBJ,cT,eY]) (λO bA=>bA ?_ YO3 _ _ rfl) Y2L Yri YsC)
 ·(refine aj ak (aa Dt ZD2))
  show _=some (8,ct.list [V.tup [Y35,Zk]]);exact aa kC rfl
 ·refine bp λax=>ZdC;subst xy;obtain⟨hz,fZ,dl⟩:=au3 d z rest e;refine ax (cy (hO (mx (bc rfl ⟨⟨_,_,ah⟩,aw (tE (eZ (e5 rfl (kY z.1 hz fZ λe2 aH av f2=>⟨_,_,av,kf ZTA zU (λd acc m=>aH=m∧acc=d.map Zl6) Zn (λd acc m w=>aV w.1 (⟨8,av⟩)) (λi3 y CK aC acc bF w N cf=>?_) λacc bF w=>?_⟩))))⟩))))
  ·obtain⟨rfl,rfl⟩:=w;have bb:y∈ZTA:=YSJ;refine au0 (bQ (aw (bQ (aw (bQ (aw (bc rfl (aS ⟨qJ [z.2],aw (bc rfl (aS ⟨?_,qJ (z.2::y.1),aw (bc rfl (aS ⟨rfl,?_,cf _ _ ⟨rfl,(dK (f:=Zl6) (l₁:=i3) (l₂:=[y])).symm⟩⟩))⟩))⟩))))))))
   ·exact aX YF (aj YDH (au (dX (fZ.2 y bb)) Ypk))
   ·exact aj YF (au (au ZGa fZ.1) Ypk)
  ·obtain⟨rfl,rfl⟩:=w;have d7:=f2 _ _ ah rfl;refine λgg iQ=>⟨0,aS ⟨_,_,cY iQ d7,_,_,Yc,?_,?_⟩⟩
   ·exact aX YF (aT YF (aT g5 (au (gR (dX dl) fZ.1) Ypk)))
   refine f9 (Qr:=Q) (e8 _ _ (λO bA=>bA ?_ (λx o e n=>YBi (cY iQ ((λx o e n=>f2 _ _ (oM x o e n) rfl:mC fD m1 aH) x o e n))) _ _ rfl))
   (refine aj Y6I (aa rg (aa uf (aa Dt (aa Y1U (aV Oj (aa (dK (l₂:=Yxf _)) (aa kJ ?_))))))))
   rfl
 ·refine ZdC;subst xy;exact cZ (bc rfl (h fD m ah λx o e O=>oM x o YUT (nb (m:=m) e)))
theorem au4{k:Nat}(K:YN)(F:YZ)(nI:CR p):M1 g (k+YAY+1) p:=by
 induction p generalizing k with
 |v n=>exact GH (ps:=[]) (o:=n) (p:=Y0r) K F rfl Z0 rfl nI Y88
 |c o=>exact GH (ps:=[]) (p:=Y9v) K F rfl Z0 rfl nI Y88
 |u o a ai=>
  refine GH (ps:=[a]) (p:=Y76) K F rfl Y5G (congrArg (([],cE.u o a)::·) Y8I) nI Zjs
  (rw[Y0H]at xM;refine aa Y0H ?_)
  exact ai xM
 |b o a b eh eQ=>
  refine GH (ps:=Y1R) (p:=Y4a) K F rfl Y5s (congrArg (λl=>([],cE.b o a b)::((kl a).map (xK 0)++l)) Y8I) nI Zjs;intro mh Q h;rcases dz aF with aF | aF
  ·(rw[aF]at xM;rw[aF]at h;rw[aF])
   exact(eh (k:=k) xM h).le (dX (c0 YRK k))
  ·(rw[Y0H]at xM;rw[Y0H]at h;rw[Y0H])
   exact(eQ (k:=k) xM h).le (dX (c0 YRL k))
def CS(p:cE):Nat:=p.rec (λn=>n) (λo=>o) (λo O O=>o) λo O O O O=>o
def p3(d:Yds):Y3:=Yw8 ZlB
theorem au5(p:cE):∃r,Zk=YD (Y4 (CS p)::r)∧r.length≤2:=by
 cases p with
 |v n=>exact Zn6
 |c o=>exact Zn6
 |u o a=>exact⟨_,rfl,Y5G⟩
 |b o a b=>exact⟨_,rfl,Y5s⟩
theorem au6{d:Yds}(h:∀z∈d,ZPO)(aE:ZKL):tp YWM:=by
 have key:∀v∈YWM,v=YF9∨v=Y4 4:=λv aO=>by
  refine YM;obtain⟨z,hz,e⟩:=YTz;refine Yb;have w:=ri hz;have o:=h z w.1;have r:=w.2
  cases q:z.2 with
  |v n=>
   (rw[q]at o;rw[q]at e)
   rw[←e];exact(gG o).imp ZiY ZiY
  |c o=>rw[q]at r;exact nb r
  |u o a=>rw[q]at r;exact nb r
  |b o a b=>rw[q]at r;exact nb r
 refine⟨?_,Zng,YY Y89⟩
 ·show YtW≤18;refine Y2H;exact au YI5 aE
 ·rcases ZT7 with e | e <;> refine YCa <;> rcases key b ah with bk | bk <;> exact congrArg _ bk <;> rfl
 ·rcases ZT7 with e | e <;> exact Yin <;> rfl
 ·rcases key v aO with e | e <;> exact Yin <;> rfl
abbrev GI(p:cE):Y1:=hr (CR p) (∀z∈YHC,ZPO) Yxe ZIy
theorem M4(K:YN)(F:YZ)(B:GI p)(h:∀b us ab,Y1y=some (0,Z0a)→(∀v,Y9c↔v∈p3 YHC)→us.length≤18→YFn):aU g (k+5) 91 [Zk] mh Q:=by
 refine Y02;intro gb gc gd;refine cZ (d6 (tE (eZ (e5 rfl ((au4 (k:=k) K F B.1 (λb m1 ah f1=>?_)).le (dX (c0 B.4 k)))))));refine⟨_,_,ah,kf YHC zU (λd acc m=>m1=m∧acc=YWM) Zn (λd acc m w=>aV w.1 (⟨8,ah⟩)) (λd z rest e acc m w N cf=>?_) ZhK⟩
 ·obtain⟨rfl,rfl⟩:=w;have cf:=λgC bk=>cf gC m1 ZnW;have es:p3 (d++[z])=YWM++p3 [z]:=by unfold p3;exact aX YdJ (dK)
  refine aax (xk (e5 rfl (zw (k:=k+3) K F (B.2 z (Y1o:z∈YHC)) ?_)))
  cases q:nk z.2 with
  |false=>exact cf _ (by refine ZBQ;unfold p3;(refine ZO3);exact Y8I)
  |true=>
   refine YM;obtain⟨r,fB,hM⟩:=au5 z.2;refine ax (hD 0 (vs:=Y4 Z34::r) (by refine fU fB ?_;rfl) (au (dX hM) Y2) rfl ⟨?_,cf _ (by refine ZBQ;unfold p3;(refine ZO3);rfl)⟩);have l1:ZKL:=au Y7Y B.3;show YtW≤1000000;exact aj YF (au (au YI5 l1) Y2)
 ·obtain⟨rfl,rfl⟩:=w;have d5:=au6 B.2 B.3;exact λe2 d7=>⟨0,_,_,Yc,d5,λus bZ hm mc gg iQ=>⟨0,h gg us _ Yc hm (au (B8 bZ λa aD=>(hm a).mp aD) d5.1) (f1.trans ((aB.new d7).trans YKh))⟩⟩
theorem vJ(ak:((kl p).all λz=>gu z.2&&decide Zf7)=true)(av:Yxe)(aP:ZIy):GI p:=
 have w:=λz hz=>cL (ju ak z hz)
 ⟨⟨ZEt,λz hz=>of_decide_eq_true ZdF.2⟩,λz hz=>ZdF.1,av,aP⟩
theorem au7:∀q∈cB,(GI YG∧GI Yq)∧nk YG=false∧YLo∧∀v∈p3 (kl Yq),v∈p3 (kl YG):=by
 have sub:∀{a b:Y3},(∀v∈a,v=YF9)→YRe∈b→∀v∈a,v∈b:=λh ah v aO=>ZPf▸ah;have o2:∀{l:Y3},l=[YF9,YF9]→∀v∈l,v=YF9:=λe v aO=>by
  rw[e]at aO;exact YJ8 id bR
 refine lY ⟨⟨vJ rfl (Y2:2≤18) Y2,YI8⟩,rfl,rfl,sub (o2 rfl) b3⟩ ⟨Zna,rfl,rfl,Y89⟩ ⟨Zna,rfl,rfl,Zb2⟩ ⟨⟨YI8,vJ rfl (Y2:1≤18) Y2⟩,rfl,rfl,Zb2⟩;have aO:v∈[V.str 4,YRe]:=aO;show v∈[YRe,V.str 4];exact YJ8 (λe=>eI _ (je e)) λh=>Y1T▸b3
theorem au8{l:Y3}{a:V}(aD:a.isStr=true)(h:∀v∈l,YEB):l.all YxR=true:=sz λv aO=>by
 refine YM;obtain⟨n,e⟩:=V.kr ZPf;obtain⟨j,bk⟩:=V.kr aD;refine Yb;rw[e,bk];rfl
theorem au9(K:YN)(F:YZ)(aF:Y1t)(h:∀a ab,zD ab a q→YKf):aU g (k+7) 263 Z9S mh Q:=by
 refine YM;obtain⟨⟨pl,pr⟩,ava,ok,sub⟩:=au7 q aF;refine ax (zS K rfl (et (i:=10) rfl) 0 λa m ak av f1=>gJ ZT K rfl Y2 Yt);intro aCj;refine en (xk (e5 rfl (zw (k:=k+4) K F ok ?_)));rw[ava];show a6 YFu Uz [Y05,Y2v,YNF,Y9Z,YNB,none,none,none,none,none,none] m _ _;refine Yt;intro avb;refine el (eZ (e5 rfl (M4 (k:=k) K F pl λfb us m1 l3 aaR aCk f2=>Yt)));intro XG;refine el (bQ (aw (bQ (aw (bQ (aw (cst (oS rfl rfl ⟨rfl,aS λb1 ip=>⟨0,aw (d6 (bc rfl ⟨Z0,λe2 d7=>⟨0,aS ⟨_,_,YTU,_,_,Yc,YJ6,λgg iQ=>Y4V⟩⟩⟩))⟩⟩))))))));have cz:aB no m1 Ypm:=(YvB Y5R).trans YKh;have aP:=bw Zbr gg (0,ct.list YfB);show a6 YFu Uy [Y05,Y2v,YNF,Y9Z,YNB,Y3v,YN9,none,none,none,none] Ypm _ _;generalize Ypm=aH at cz aP ⊢;revert aH;refine Y17;intro aH cz aP;have aaS:∀v∈us,YEB:=λv aO=>by
  rcases ee ((aaR v).mp aO)with⟨z,_,e⟩
  rw[←e];rfl
 refine forL (bc rfl ⟨_,_,aP,k0 [Yq] (λp=>YD [YQ9,Zk,Zk]) (λd r m=>LP (λe9 mB kj ba=>[Y05,Y2v,YNF,Y9Z,YNB,Y3v,YN9,e9,mB,kj,ba]) (aB no aH m) r) ⟨Yy,_,_,_,_,rfl⟩ (λd r m z=>⟨0,z.1 _ _ aP rfl⟩) (λd p rest e r bF z jq e8=>?_) λr bF z=>?_⟩)
 ·obtain⟨f4,e9,mB,kj,ba,rfl⟩:=z;have ep:p=Yq:=bR Y1o;subst ep;refine t3 (en (fo (aw (bc rfl (aw (bQ (aw (cst (aw (cst (aS ⟨rfl,Y7O⟩)))))))))));show a6 YFu Ux [Y05,Y2v,YNF,Y9Z,YNB,Y3v,YN9,ZZq,Y9Z,Y9Z,ba] bF jq _;refine FR (tE (bQ (aw (eZ (e5 rfl (M4 (k:=k) K F pr λm2 CT eK qZ avc avd gL=>aw (eZ (e5 rfl (M4 (k:=k) K F pr λlj wk i0 zP Em ave vk=>aS ⟨_,_,vk _ _ qZ rfl,_,_,zP,au (gR avd ave) Y2,λiZ avf=>Y4V⟩)))))))));have pQ:aB no i0 (upd i0 iZ (0,Y5 YK1)):=aB.new avf;have nA:=bw i0 iZ Ytx;generalize upd i0 iZ Ytx=pA at pQ nA ⊢;have hL:=(gL.trans vk).trans pQ;have mem:∀v∈YK1,Y9c:=λv aO=>(aaR v).mpr (sub v (YxO (avc v).mp (Em v).mp));refine⟨_,_,nA,?_⟩;generalize YK1=L at nA mem
  suffices key:∀fA,fA=L→∃P:Y1O,P fA [] pA∧jz P (ox iZ L) (λacc bF=>alloc bF Y4b λv ab=>a6 YFu Uw [Y05,Y2v,YNF,Y9Z,YNB,Y3v,YN9,ZZq,Y9Z,Y9Z,Ym] ab jq _) (mV ZQ false [none,Y3v] (e7 YFu Z9I).2 (bH YFu (v 0)).1)from key L rfl
  intro fA aaT;rw[←Ov L]at aaT;subst aaT;refine kf L id (λd acc m=>pA=m∧YSL) Zn (λd acc m w=>aV w.1 (⟨0,nA⟩)) (λd x rest aC acc m w N cf=>?_) ZhK
  ·obtain⟨rfl,rfl⟩:=w;have aq:Yqo:=mem x YSJ;refine Gl (fo (oS rfl rfl ⟨_,_,(hL _ _ (f4 _ _ (cz _ _ l3 rfl) rfl) rfl),au8 (aaS x aq) aaS,?_⟩));rw[(abO.mpr ⟨x,aq,iI x⟩:us.any (b8 · (id x))=true)];exact cf _ _ Zn
  ·obtain⟨rfl,rfl⟩:=w;exact λnN avg=>⟨0,en (fo (aw (bc rfl (aw (bQ (aS λpz aaU=>⟨0,aS ⟨_,_,cY aaU Yc,_,_,Yc,λe=>rfl,e8 _ _ ⟨f4.trans (hL.trans ((aB.new avg).trans (aB.new aaU))),_,_,_,_,rfl⟩⟩⟩))))))⟩
 ·refine YM;obtain⟨f4,e9,mB,kj,ba,rfl⟩:=z;refine Yb;have gL:=Yx1;have ak:=gL _ _ ak rfl;exact vH (x:=Y34) rfl ak YW YEb YEO λeK ak dC=>vH (x:=Y4q) rfl ak YW YJ5 YEO λi0 ak du=>vH (x:=Y1b) rfl ak YW YJ7 YEO λpA ak gs=>vH (x:=Y35) rfl ak YW YOj (λQ' q=>d6 (bc rfl ⟨Z0,rfl,q⟩)) λrN ak jl=>(⟨rfl,h a rN ak (CQ av (f1.trans gL) YtX)⟩:YFi∧Q YA rN)
noncomputable abbrev CU (tr:Bool) (most:Nat):dm:=Z9A
def tW(i:Nat):V:=(cB[i]?).elim Y7 YYw
theorem GJ{cl:Calls}{s:Mine.Internal.S}{e:E}{P:Yj}(bo:YLC)(aD:YMM)(af:YDT)(aE:YDF)(ev:∀Q':Yj,(∀x m1,P x m1→Yfg→Q' x m1)→Ya2)(h:∀x m1 ab,P x m1→Yfg→ZD8→mC a m1 ab→Yfa):YfZ:=
 zg (ev _ λx m1 p f=>bc bo ⟨_,_,f _ _ aD rfl,af,aE,h x m1 _ p f Yc Zkq⟩)
theorem aaV:tp YJ3∧(Y8G tW).Nodup:=by
 have e:YJ3=[32,28,11,16].map V.str:=rfl;rw[e];refine⟨⟨Y2,Zng,YY Y89⟩,(qQ YO7).mpr YC⟩
 ·refine YM;obtain⟨x,_,e⟩:=ee aD;obtain⟨y,_,bk⟩:=ee ah;refine Yb;refine eT e (bN bk ?_);rfl
 ·obtain⟨x,aq,e⟩:=ee aD;refine bN e ?_;exact ju (rfl:([32,28,11,16].all λx=>strOk YcS)=true) x aq
 ·obtain⟨x,_,e⟩:=YTz;refine bN e ?_;rfl
theorem avh(K:YN)(F:YZ){h zV op:Nat}{hM:YL}(h0:mh zV=Yoz)(ak:∀i q,YGI→zD mh YlJ q)(av:mh op=some YZa)(dp:∀R ab,n8 ab R h tr most 0 0→Y0G→Q YA3 ab):aU g (k+4) 358 [Y74,YcE,YQ2] mh Q:=by
 refine zS K rfl (et (i:=13) rfl) 5 λa m aD az f0=>gJ ZT K rfl Y2 ?_;have h0:=f0 _ _ h0 rfl;have av:=f0 _ _ av rfl;have ak:=λi q e=>f0 _ _ ZER rfl;refine Yt;intro avb;refine en (fo (aw (mx (bc rfl ⟨⟨_,_,_,av⟩,aw (cst (aw (cst (aS ⟨_,_,_,av,rfl,aw (CN Y3o)⟩))))⟩))));show((Z9W (j2 · YJn))=true)∧cond (!(Z9X (b8 · YJn))) _ _;have go:∀b:Bool,(Z9W (j2 · Z1v))=true∧(Z9X (b8 · Z1v))=true:=λb=>by cases b <;> exact Zn
 refine⟨ZPI.1,mK (ZPI.2) ?_⟩;show a6 Y5S UE [Y05,Yox,ZZo,ZZl,none] m _ _;refine Yt;intro aCl;refine FR (tE (bc rfl ⟨_,_,h0,kf YjK Zj2 (λd acc m1=>m=m1∧acc=ZKO) Zn (λd acc m1 w=>aV w.1 (⟨0,h0⟩)) (λd i rest e acc m1 w N cf=>?_) λacc m1 w=>?_⟩))
 ·obtain⟨rfl,rfl⟩:=w;have af:i<4:=YmB;have aF:cB[i]?=some ZIq:=Y2o;refine my (kA rfl (ak i _ aF) rfl Zmm)
  ·have w:=Y7c;replace w:=YhP;exact ZDy
  ·exact aL dK (congrArg (λv=>ZKO++[v]) (show V.str ZIq.1=tW i by refine Ar aF ?_;rfl))
 obtain⟨rfl,rfl⟩:=w;refine λbn avi=>Y4V
 have f1:aB no m (upd m bn (0,Y5 YJ3)):=aB.new avi;have ip:=bw m bn Ytw;generalize upd m bn Ytw=m1 at f1 ip ⊢;show a6 Y5S UD YfI m1 _ _;refine Yt;intro asv;refine en (fo (aw (d6 (bc rfl ⟨_,_,ip,aaV.1,λus bZ hm=>aw (d6 (bc rfl ⟨_,_,ip,YEc,aS (aa ((((Dr bZ aaV.2).mpr hm).length_eq:us.length=4)) ?_)⟩))⟩))));show a6 Y5S UC YfI m1 _ _;have aD:=ZNh;have fr:∀{m ab:ag}{o:ct},m a=some (5,o)→YMO→aB YTa m ab:=λe k x o q c=>k x o q λz=>by
  replace q:=ZBj;replace c:=ZKn;exact Y9R
 refine vH (x:=Y74) rfl aD YW YEb YEO λaH aaW du=>?_;have g2:=fr aD du;refine fld (tg:=0) (ob:=YPd) rfl aaW YW YJ5 (λQ' q=>d6 (bc rfl ⟨_,_,g2.go (f1 _ _ h0 rfl),YEc,q⟩)) λM5 bF aCm avj aaX gs=>vH (x:=YQ2) rfl aaX YW YJ7 YEO λeK M6 jl=>?_;have uS:=fr aaX jl;refine GJ (P:=λx m1=>∃w,x=Y64∧m1 w=Za1) rfl M6 YW YOj (λQ' q=>eZ (e5 rfl (auR (k:=k) K F Zkk))) λx i0 pA hw gL M7 oO=>YM;obtain⟨w,rfl,hw⟩:=hw;refine Yb;have aaY:=gL.iO.trans (fr ZOq oO);refine GJ (P:=λx m1=>∃w,x=Y64∧m1 w=Za2) rfl M7 YW YwV (λQ' q=>eZ (e5 rfl (auS (k:=k) K F Zkk))) λx rN auX ar pQ aaZ sf=>YM;obtain⟨pl,rfl,ar⟩:=ar;refine Yb;have vC:=pQ.iO.trans (fr ZWk sf);refine sd (tg:=13) rfl aaZ YW YwX λtU M0 M8 avk aa0 vI=>?_;have lB:=fr aaZ vI;refine vH (x:=YSZ) rfl aa0 YW YwY (λQ' q=>cst q) λaCn M9 Na=>?_;have GK:=fr aa0 Na;have Nb:=GK.go (lB.go (vC.go (aaY.go (uS.go avj))));have AJ:∀{ab:ag}{fs:Y3}(Q':Yj),YAQ=some (5,ZD 358 fs)→fs[1]?=some (Y0 M5)→ab M5=Yoz→(∀x m1,(∃b,x=Y0B∧m1 b=ZZz)→aB no ab m1→Q' x m1)→(bH Y5S Ybq).1 YfI ab Q':=λQ' aJ aC c1 q=>
  bQ (aw (bQ (aw (cst (aS λb0 jT=>⟨0,aw (d6 (kA rfl (cY jT aJ) aC ⟨_,_,cY jT c1,YEc,aS ⟨_,_,Yc,(Y2:4≤1000),λb1 ip=>⟨0,q _ _ ⟨b1,rfl,Yc⟩ ((aB.new jT).trans (aB.new ip))⟩⟩⟩))⟩)))))
 refine GJ rfl M9 YW (Y2:7≤100) (λQ' q=>AJ Q' M9 rfl Nb q) λx aCo aCp bo GL GN Nc=>YM;obtain⟨avl,rfl,aCq⟩:=bo;refine Yb;have CV:=GL.iO.trans (fr (GL _ _ M9 rfl) Nc);refine GJ rfl GN YW (Y2:8≤100) (λQ' q=>AJ Q' GN rfl Z35 q) λx aCr GO aO CW avm GP=>YM;obtain⟨avn,rfl,avo⟩:=aO;refine Yb;have GQ:=CW.iO.trans (fr Z36 GP);have AP:aB YTa m GO:=f1.iO.trans (((((((g2.trans (fr aaW gs)).trans uS).trans aaY).trans vC).trans lB).trans GK).trans (CV.trans GQ));have fin:aB no mh GO:=λx o e O=>by
  have n:x≠a:=λq=>by replace e:=aQ az Y5V;exact Y4t
  exact GP _ _ (CW _ _ (Nc _ _ (GL _ _ (Na _ _ (vI _ _ (sf _ _ (pQ _ _ (oO _ _ (gL _ _ (jl _ _ (gs _ _ (du _ _ (f1 _ _ (f0 _ _ e rfl) rfl) n) n) n) rfl) n) rfl) n) n) n) rfl) n) rfl) n
 exact(⟨rfl,dp ⟨a,M5,op,w,pl,tU,avl,avn,hM⟩ GO ⟨avm,GQ.go Z35,λi q e=>AP.go ZER,AP.go av,GQ.go (CV.go (GK.go (lB.go (vC.go ((fr ZOq oO).go hw))))),GQ.go (CV.go (GK.go (lB.go ((fr ZWk sf).go ar)))),⟨[],GP _ _ (CW _ _ (Nc _ _ (GL _ _ (Na _ _ avk M8) rfl) M8) rfl) M8,YW⟩,(fr Z36 GP).go avo⟩ fin⟩:YFi∧Q YA GO)
theorem aa1:YAi→fV YAY Zk=true:=by
 induction p with
 |v n=>exact λh=>ZQ1
 |c o=>exact Zgu
 |u o a ai=>exact λh=>r7.mpr λv aO=>YG9▸YFy
 |b o a b eh eQ=>exact λh=>r7.mpr λv aO=>YJ8 (λe=>e▸k2 YRK (eh h.1)) λaO=>YG9▸k2 YRL (eQ h.2)
theorem vK{n:Nat}(h:YAi):eS [] n p:=lX ZKf h
theorem avp{o:Nat}{r:Y8a}{v:V}(h:v∈ZGK):v∈YhR∨v=ZU3:=by
 by_cases q:YP6
 ·replace h:=fU (show YOm from ZU) h;exact Y5z
 ·replace h:=bL YNl (fU (show YJC from ZN) h);exact YxQ
theorem Nd{o:Nat}{r:Y8a}{v:V}(W:Y0a)(ar:Y3q)(ah:YAi)(e:YWc=Y14)(avq:fm r.1)(aA:Y4K)(aE:YoR≤2)(aR:∀c∈r.2,c<YHh)(h:v∈ZGL):v∈YhR∨ZO9:=by
 have jD:=(r6 (t:=[]) W YbS Yq7).2;rw[e]at jD h;have mv:=(CE avq aA aE aR).2;exact(avp h).imp id λq=>aX q (bN (c4 jD mv) (aX (Mi ah) (aa1 ah)))
theorem avr:∀{N:Yd},Y0a→Y3q→YAi→∀v∈ZGL,v∈Yr∨ZO9:=by
 induction p with
 |v n=>exact λO O h=>ZQ1
 |c o=>exact λ{N}W ar ah v aO=>Nd (r:=YBe) W ar ah rfl W ar Z0 (λc h=>Y4o) aO
 |u o a ai=>
  intro N W ar ah v aO;refine dG ar YEP;have w:=kg (p:=a) (t:=[]) W.1 Yq7;refine(Nd (r:=(YMn.1,[YMn.2])) W ar ah rfl (r6 W YbT Yq7).1 bD Y5G (λc h=>Y1T▸w.2) aO).elim (λh=>(ai W bC ah v h).imp id λt=>k2 Y1I t) YJ
 |b o a b eh eQ=>
  intro N W ar ah v aO;refine pg ar YIf;have w:=kg (p:=a) (t:=[]) W.1 Zcu;have W1:=(r6 (t:=[]) W YbT Zcu).1;have w2:=kg (p:=b) (t:=[]) w.1.1 Zcv;have lK:=(r6 (t:=[]) W1 Z0N Zcv).1;refine(Nd (r:=(ZXI.1,[YMn.2,ZXI.2])) W ar ah rfl lK bD Y5s (λc h=>YBk (λe=>aj e (ew w.2 YqI)) λh=>Y1T▸Y5l) aO).elim (λh=>(eQ W1 d4 Y2l v h).elim (λh=>(eh W bC Y2R v h).imp id λt=>k2 (kn YRK) t) λt=>YJ (k2 (kn YRL) t)) YJ
theorem avs(W:Y0a):∀n i v,i<n→YIz→fV (i+1) v=true:=by
 intro n
 induction n with
 |zero=>exact λi O h=>YCe
 |succ n ai=>
  intro i v af aO;have aE:Y2r:=ZHZ
  obtain⟨x,aq⟩:=CD aE;refine bN (c4 YNO aO) (r7.mpr λu bj=>(ee bj).elim Yrf);have ao:=YRg.2.2 c z.1;have cR:Ya4:=by rw[ho,dy (by rw[iE];exact lD ao aE)];rfl
  exact bN z.2 (k2 ao (ai c _ (ew ao (hp af)) cR))
theorem avt(W:Y0a)(t3:∀v∈Yr,ZOA)(az:Y4f):q3 YBe:=by
 refine⟨W,λv aO=>k2 Y0J (t3 v aO),λg G i af O=>?_,YOE,az⟩;have aO:Y8F=some Yvb:=by rw[ho,dy (by rw[iE];exact af)];rfl
 refine⟨_,aO,?_⟩;by_cases q:3≤N.length
 ·exact k2 (GB q) (t3 _ ZNH)
 ·refine k2 (au af ?_) (avs W (i+1) i _ YW8 aO);have Mc:∀n,n<3→n≤eV n:=λn h=>by
   rcases p1 h with h | h
   ·rcases p1 h with h | h
    ·exact aj (yh h) Z0
    ·rw[h];decide
   ·rw[h];decide
  exact Mc _ (Dl q)
noncomputable abbrev GR (t:Nat):Bool:=YtH
theorem aa2(n:YVB)(h:YTb):cl j t=false:=ZGz
theorem GS(h:And (i≠0) (i≠7)):∀t,YTb→Z4A:=λt q=>by show YtH=true;rw[aa2 h.1 q,aa2 h.2 q];rfl
theorem avu:∀t,YAk→Z4A:=λt h=>Y8M YdC λh=>Y8M YdC YdC
theorem xN(h:4≤i):∀t,YAk→cl i t=false:=λt q=>L7 q i h
abbrev LT(m:ag)(bX:Nat)(A:b9)(S:bu)(B:fu):Y1:=iG YH2 Yj3 (n7 pD S) (fv m B YIw []) (∀v∈ZGM,ZOA)
theorem LT.no{A:b9}{S:bu}(L:Z54)(F:Y6B):Z53:=⟨Yda F rfl rfl,L.2.no F,L.3,L.4.no F,L.5⟩
theorem LT.CX{A:b9}{S:bu}(L:Z54)(F:Yfl)(P:YAv):Z53:=⟨P,L.2.dq F YET,L.3,L.4.dq F rfl rfl rfl rfl,L.5⟩
theorem avv{A:b9}{S:bu}(K:YN)(F:YZ)(L:Z55){h:Nat}(l0:zQ p 7 h)(aP:h≤3)(az:YRT)(g2:YTG)(g3:ZIt)(uT:cI r 5=ZaD)(dp:∀ab bl a7,aB GR mh ab→Y0Y→Ydi→a7.N.length≤Z7K→Qn r ab):a6 Y6C Vw r mh Qn Q:=by
 have W:=Z4u;have gl:=vK (n:=S.N.length) YHE;have avw:fV 8 ZO7=true:=by
  refine aX (Mi YHE) ?_;exact k2 (au l0.4 (au aP Y0J)) (aa1 YHE)
 have l1:YmM≤YmN:=c0 l0.3 YH7;refine en (fo (aw (jS g2 Y7B (e5 uT ((asm (k:=k+7) K F l0.2 L.2 L.3.2 az (au (h7 (au Yub Yj8) _) Y07:YRW) YHE λm1 CB qO f1 bx H1 iq dO=>?_).le l1)))));refine aw (eZ (oS g3 uT ?_));refine oh (((Mi YHE).symm:Zk=ZO7)) ?_;refine(aas (k:=k) K F (YY l0.2) (L.4.dq f1 rfl rfl rfl rfl) W (λv aO=>k2 Y0J (L.5 v aO):jG S.N) az gl avw λaH f2 c9 aaw=>?_).le l1;refine Y7O;rw[iI];rw[←dO]at c9;refine dp aH CB qO ((f1.weak avu).trans (f2.weak (GS YC))) bx ⟨(Yda f1 rfl rfl).dq f2 rfl rfl,H1.dq f2 YET,L.3.trans iq,c9,Y89⟩ (by refine ZCS;exact(kg W.1 gl).1.3);rw[dO]at aO;exact(avr W l0.2 YHE v aO).elim (L.5 v) λt=>k2 (au l0.4 aP) t
abbrev avx(mh:ag)(bX:Nat)(A:b9)(B:fu)(ll:Y5N)(d:Y2C)(r:bG)(m:ag)(bU:Y1):Y1:=∀(bl:b9)(a7:bu)(e0:Yp),Y0Y→LT m bX bl a7 B→a7.N.length≤YaC→aB GR mh m→r=ll e0→bU
abbrev avy(mh:ag)(bX:Nat)(A:b9)(B:fu)(ll:Y5N)(d:Y2C)(r:bG)(m:ag):Y1:=∀bU:Y1,avx mh bX A B ll d r m bU→bU
theorem aa3{A:b9}(K:YN)(F:YZ)(L:Z56){e4:Nat}(aE:mh e4=some (7,Y5 YWY))(ar:∀p∈ps,ZfM)(hd:YJL≤10){x0:Yp}(h:∀ab bl a7 e0,Y0Y→Ydi→ZAT→a6 Y6C FP ZA3 ab Qn Q):a6 Y6C KV YfQ mh Qn Q:=by
 refine forL (bc rfl ⟨_,_,aE,k0 ps bB (avy mh bX A B λe0=>ZA3) (λO bA=>bA A pD none rfl L YW Yy rfl) (λd r m z=>?_) Zhw Y3j⟩)
 ·refine Yqx;subst ni;exact⟨7,f.go aE⟩
 ·refine ZHC;subst ni;refine Yb;have w:YaC+ZV≤10:=au (fH e (bW dK (aL ui (fH mF (aL yb ZG9))))) hd;exact t1 (avv K F fA (ar p Y1o) ZGX (au (au ZQG w) Y2) ZCo rfl rfl λab gm cK f2 kD lr fI=>e8 _ _ (λO bA=>bA gm cK _ Y9K lr (bW dK (aL ui (fH acE (aL Ot (au fI ZQG))))) Y4y rfl))
 ·refine ZHC;subst ni;exact ax (h m bl a7 e0 bx fA (au ey hd))
theorem avz{A:b9}(K:YN)(F:YZ)(L:Z56){x0:Yp}(h:∀ab bl a7 fl e0,Y0Y→Ydi→ZAT→a6 Y6C FP YRs ab Qn Q):a6 Y6C VC [x0,Y0T,Y0v,Z2,none,none,none,none,none,none,none,none] mh Qn Q:=by
 have up:∀{m1:ag}{p:cE}{n h:Nat},zQ p n h→n≤7→h≤3→ZfM:=λg a b=>⟨g.1,g.2,au g.3 a,au g.4 b⟩
 refine Yt;intro aud;refine el (bQ (aw (eZ (aw (bc rfl (aw (cst (aS (aaO (k:=Y6T) K F 1 L.1 λek m1 g1 lU f1=>aS λe4 J7=>⟨7,?_⟩)))))))));have f2:aB no m1 Ypw:=aB.new J7;have av:=bw m1 e4 (7,ct.list [bB ek]);show a6 Y6C VB YfQ Ypw _ _;generalize Ypw=aH at f2 av ⊢;have lr:=(L.CX f1 lU).no f2;refine Yt;intro asH;refine en (fo (aw (eZ (aw (bc rfl (aw (cst (aS (tV (k:=YMB) (n:=2) K F lr.1 Y2 λw bF hw P3 cz=>Yh6)))))))));have sg:=lr.CX cz P3;have aP:=cz.go av;by_cases q:w=1
 ·refine OV q ?_;show a6 Y6C Vv YfQ bF (λr m=>a6 _ KV r m Qn Q) Q;refine Yt;intro Xj;refine hO (mx (bc rfl ⟨⟨_,_,aP⟩,aw (eZ (aw (bc rfl (aw (cst (aS (aaO (k:=YDX) K F 2 sg.1 λcO eK g2 avA f4=>aS ⟨_,_,ZNw,YwP,?_⟩)))))))⟩));have gL:aB (cl 7) eK Zc2:=aB.at ZNw rfl;have CY:=sg.CX f4 avA;refine aa3 K F (⟨CY.1.dq gL rfl rfl,CY.2.dq gL YET,CY.3,CY.4.dq gL rfl rfl rfl rfl,CY.5⟩:LT Zc2 bX A pD B) (ps:=[ek,cO]) (bw eK e4 (7,ct.list Z9c)) (λp ar=>(dz ar).elim (λe=>e▸up (m1:=m1) g1 Y0J Y0J) λar=>YSl▸up (m1:=m1) g2 Y0J Y0J) (au (gR g1.3 (gR g2.3 ZGW)) Y0J) ZhI
 ·show ZSI;refine aX (show ZFn=false from Yle) ?_;exact aa3 K F sg (ps:=[ek]) aP (λp ar=>YSl▸up (m1:=m1) g1 Y2 Y2) (au (gR g1.3 ZGW) Y2) ZhI
abbrev nx(m:ag)(bX:Nat)(A:b9)(R:eC)(tr:Bool)(most cQ u c jW:Nat)(s:cv)(S:bu)(pl:Nat)(B:fu):Y1:=iG YH2 (gN m A R tr most cQ u c s.2 S) (S.N=s.1) (kk m B tr most s jW) (m pl=YNC)
abbrev avB(mh:ag)(d:YR6)(acc:Y3)(m:ag)(bU:Y1):Y1:=Y7L→∀(as:YV),as.length=d.length→acc=YST→(∀(i a:Nat)(q:hQ),as[i]?=Y0l→d[i]?=YpL→zD m a q)→bU
abbrev avC(mh:ag)(d:YR6)(acc:Y3)(m:ag):Y1:=∀bU:Y1,avB mh d acc m bU→bU
theorem avD(K:YN)(F:YZ)(h:∀b(hM:YL)ab,Y1y=Yoz→(∀i q,YGI→zD ab YlJ q)→YFn):
  (bH ZC3 Z0C).1 r mh Q:=by
 refine tF (CN (kf cB YYw (avC mh) (λO bA=>bA Yy ([]) rfl rfl (λi a q e=>Ykc)) Y2L Zhx Y3y))
 ·refine bp λax=>Zf3;subst Nf;refine Yb;have aF:Y1t:=Y1o;have side:∀{m:ag}{Q':Yj}(j:Nat)(p:V),Z9d[j]?=YXK→(∀aH,aB no m aH→Q' p aH)→(bH ZC3 (.op fi [Ybr,bY YaY])).1 ((inR 1 [] r).set 0 Y2v) m Q':=λj p fe dp=>
   bQ (aw (bQ (aw (eZ (aS (My (k:=k+6) K F λbs aH hs f2=>e5 rfl ⟨_,_,_,hs,rfl,_,Ydy,aw (cst (aS ⟨Y4X,p,fe,dp aH f2⟩))⟩))))))
  refine my (eZ (aw (bc rfl (aw (side 0 _ rfl λaH f2=>aw (side 1 _ rfl λbF cz=>aw (bQ (aS ⟨rfl,aS (au9 (k:=k) K F aF λa eK cG f4=>⟨?_,cf _ _ (λO bA=>bA ((Ywx cz).trans f4) (as++[a]) ?_ ((dK (f:=V.ref) (l₁:=as) (l₂:=[a])).symm) (λi b x ig ex=>?_))⟩)⟩))))))))
  ·refine ZDx;have w:=Y7c;replace w:=YSg;exact YSU
  ·rw[cj,cj,aJ];rfl
  ·by_cases af:ZQt
   ·replace ig:=aQ ZXm ig;replace ex:=aQ (qb (aV aJ af)) ex;exact Yx1 _ _ (c1 i b x ig ex) rfl
   ·have li:i=as.length:=mG (hp (by have w:=eo ig;replace w:=YSg;exact w)) YlT;replace ig:=aQ (ug) (bN li ig);replace ex:=aQ (ug) (bN aJ (bN li ex));exact aQ Yir (bL (cu ex) cG)
 ·refine Zf3;subst Nf;have fa:as.map V.ref=Y8G λi=>V.ref Ygz:=by
   refine Hi (aL YF (aj YF (aL fN aJ))) YOC;replace ak:=bL YF ak;refine aL YBV (aj YBV (sC YK6 (bW (ho) (sC ZLX ?_))));rfl
  refine ZhR
  have ff:aB no m (upd m b (0,Y5 YST)):=Y11;have d7:=bw m b Ytz;generalize upd m b Ytz=aH at ff d7 ⊢;rw[fa]at d7;refine h b (λi=>Ygz) aH d7 (λi q af=>?_) (f.trans ff);have aD:as[i]?=some Ygz:=by rw[ho,dy (aa aJ Y4J:ZQt)];rfl
  exact ff _ _ (c1 i _ q aD af) rfl
variable{fl:Yp}{e0:Yp}
theorem avE{A:b9}{S:bu}(K:YN)(F:YZ)(L:Z55)(az:Yeb){x0:Yp}(h:∀ab R tr most s pl fC e9,Y3e→nx ab bX A R tr most 0 0 100 0 s S pl B→a6 Y6C KU Z9z ab Qn Q):a6 Y6C FP YRs mh Qn Q:=by
 refine Yt;intro aue;refine KW (aw (bQ (aw (eZ (aw (bc rfl (aw (cst (aS (tV (k:=YMB) (n:=2) K F L.1 Y2 λw m1 hw lU f1=>aw (cst (aS ⟨rfl,aw (bQ (aw (cst (aw (eZ (aw (bc rfl (aw (cst (aS (tV (k:=YMB) (n:=5) K F lU Y2 λw2 aH LU AZ f2=>aS (CO Y3o))))))))))))⟩))))))))))));have lr:=(L.CX f1 lU).CX f2 AZ;obtain⟨pp,ah,nr⟩:=lr.4.1;generalize ZFn=tr;revert tr;refine Y17;intro tr;refine bc rfl (cst ⟨_,_,_,ah,rfl,(Y2:3≤1000000),bc rfl (cst ⟨_,_,_,Yc,rfl,(Y2:4≤1000000),?_⟩)⟩);show a6 Y6C VA YRs YXc Qn Q;have cz:aB jF aH YXc:=aB.trans (aB.at ah rfl) (aB.at Yc rfl);have aP:=bw Ypr B.b (4,ct.dict 1 Yki);have ne:∀{x o},aH x=YB→x≠B.b→upd Ypr B.b YuB x=YB:=λe n=>YBi (YBi e);have sep:∀{x:Nat}{t:Nat}{o:ct},aH x=Y58→t≠4→x≠B.b:=λaD n e=>YMW;have ja:fv YXc B YIw ZSD:=⟨⟨pp,aP,ne nr (sep nr Yf)⟩,ne lr.4.2 (sep lr.4.2 Yf),ne lr.4.3 (sep lr.4.3 Yf)⟩
 have xg:=lr.2.dq cz YET;have P3:=lr.1.dq cz rfl rfl;generalize YXc=bF at aP ja xg P3 ⊢;revert bF;refine Y17;intro bF aP ja xg P3;have h:=λab R s pl fC e9=>h ab R tr YQP s pl fC e9 (c0 (hp LU) 6:YQP≤10);generalize YQP=most at aP ja h;have ord:∀{Q':Yj},Q' YJn bF→(bH Y6C Z08).1 YRs bF Q':=λ{Q'}q=>by
  refine xC (fo (aw (bc rfl (aw (cst (aS ⟨_,_,_,aP,rfl,_,Yyb,?_⟩))))))
  cases tr <;> exact cst q
 refine Yt;intro WL;refine el (bQ (aw (cst (aw (ord (aw (cst (aw (kH rfl aP Yya (aS ⟨Yd1,rfl,YaF,⟨(qQ (kv:=V.str) YO7 (l:=[20,15])).mpr YC,Zi7⟩,λNg avF=>Y4V⟩))))))))));have f4:aB no bF Zbz:=aB.new avF;have da:=bw bF Ng (0,ct.dict 1 Yd1);generalize Zbz=eK at f4 da ⊢;refine FR (avD (k:=YH7) K F λaat hM i0 fG Jo gL=>Yt);intro asw;refine el (eZ (aw (eZ (F3 rfl rfl rfl (avh (k:=YDX) K F fG Jo (gL _ _ da rfl) λR pA avG vk=>aS (auT (k:=YH8) K F λpl rN nA pQ=>?_))))));have hL:=(f4.trans gL).trans Zd3;have zW:Y2j:=Y07;exact h rN R YIw pl _ _ ⟨P3.dq hL rfl rfl,⟨xg.no hL,⟨L.3.2,L.3.4 rfl,YOE,L.3.5 [] aaQ.4⟩,avG.dq pQ rfl rfl rfl,zW,au Yub (au (c0 az _) Y2)⟩,rfl,⟨ja.no hL,avt Z4u L.5 zW,YW⟩,nA⟩
theorem aa4(l l':YV):((a4 l).zip YfW).all YYv=true:=sz λp ar=>by
 have w:=List.of_mem_zip (a:=p.1) (b:=p.2) ar;refine YM;obtain⟨i,_,e⟩:=jm w.1;obtain⟨j,_,bk⟩:=jm w.2;refine Yb;rw[e,bk];rfl
theorem gN.dq{A:b9}{S:bu}{R:eC}{u c:Nat}{p:Z9}{P:cn}(Z:ZOu)(F:YFo)(ar:Zm8)(h0:YWI)(fG:ZWP)(L1:ZWO):ZOs:=⟨Z.1.dq F ar,Z.2,Z.3.dq F h0 fG L1,Z.4,Z.5⟩
variable{jW:Nat}
theorem avH{A:b9}{S:bu}{R:eC}{u c:Nat}{s:cv}{cl:Calls}(K:YN)(F:YZ)(L:YnX)(oH:cl=Y5S){e:E}(av:YTG)(he:ZlM)(h:∀b ab,Y1y=Yp1→YFn):
  (bH cl Z0E).1 r mh Q:=by
 subst oH;have fB:inR 1 [2] r=[none,Y0v]:=by
  show[none,YyV]=_;exact gS (av:YyV=Y0v) rfl
 have zW:=L.2.4;refine F4 (d6 (he _ (aa fB (⟨Yh3,kf (di S.N.length) ay (λd acc m=>YHP∧acc=a4 ZKM) Zn Y2L Zhu Y3y⟩))))
 ·obtain⟨rfl,rfl⟩:=z;have af:Y2I:=YmB;refine my (jS rfl YQv (e5 rfl (WB (k:=k) K F YQv Y7B.3 Yh3 af Zmm)))
  ·refine Ygr;have w:=Y7c;replace w:=YhP;exact au YG2 Yh3
  ·exact bW dK ((dK (f:=ay) (l₁:=ZKM) (l₂:=[Za])).symm)
 ·obtain⟨rfl,rfl⟩:=z;exact YYf
theorem aa5{A:b9}{S:bu}{R:eC}{u c:Nat}{s:cv}{cl:Calls}(K:YN)(F:YZ)(L:YnX)(oH:cl=Y5S)(CZ:ZS8){e:E}{Q:Ys}(av:YTG)(aP:ZIt)(he:ZlM)(h:∀a b ab,YAQ=Yp1→Y1y=Yp1→Y0G→Q [YKP,V.ref b] ab):(e7 cl [Z0E,Ybp]).1 r mh Q:=by
 refine aw (avH K F L oH av he λa m1 aD f1=>aw (eZ (e5 aP ?_)));refine aa oH ?_;refine Gw (k:=k+1) K F YKA.1 YKA.2 YKA.5 (L.4.1.no f1) YKA.4 (au L.4.3 CZ) λb aH ah O f2=>aS (h a b aH (f2 _ _ aD rfl) ?_ Y7i);have w:=X3 L.2.2.r3
 (rw[L.3]at w;refine aa L.3 ?_)
 refine aa w ?_;exact ah
theorem avI{A:b9}{S:bu}{R:eC}{u c:Nat}{s:cv}(K:YN)(F:YZ)(L:YnX)(hm:Y3e)(af:i<2)(bj:Ypf≤1000)(ao:Yi7≤799000)(ah:YmC≤800000){x0 fC e9 ba:Yp}(h:∀ab bl a7 s' kh ba,Y0Y→nx ab bX bl R tr most kh Ypf Yi7 YmC s' a7 pl B→Qn ZA1 ab):a6 YAP Vz ZA1 mh Qn Q:=by
 refine Yt;intro aCs;refine el (eZ (aw (bc rfl (aw (bQ (aw (cst (aw (bc rfl (aS (MT (aS (oh (congrArg V.int (Int.ofNat_sub YUp).symm:V.int ((2:Int) - Y3k)=ay YJv) ((auQ (k:=k) K F YJv L.1 λp m1 ar lU f1=>?_).le (au (h7 (c0 (Ye6:YJv≤2) k) 2) (c0 (Y2:4≤40) k))))))))))))))));have aa6:MU YJv≤16∧tB YJv≤6:=by
  rcases p1 af with q | q
  ·exact aa YY8 ZnH
  ·exact aa q ZnH
 have zX:=au Y7T aa6.1;have pd:=au ar.3 aa6.2;have Nh:kk m1 B tr most s jW:=Zmo
 have wM:=ZNm;show a6 YAP Vy ZA2 m1 Qn Q;refine Yt;intro aCt;refine en (fo (aw (jS rfl wM (e5 rfl ((atk (k:=k) K F Y8s hm Z4s (au ZIW bj) (au ZIU ao) wM λaH gm cK q1 f2 bx c9 h5=>?_).le (au (c0 pd Y7p) (cx _ 8)))))))
 (rw[YaW]at c9;rw[YaW]at h5;refine aa YaW ?_)
 have aaA:kk aH B tr most s jW:=⟨Nh.1.dq f2 rfl rfl rfl rfl,Nh.2,Nh.3⟩
 refine aw (eZ (oS rfl rfl ((auK (k:=k) K F hm Y8s aaA (au ZIS ah) λbF cz Ni=>aS ⟨rfl,ZYc⟩).le (au (c0 pd Y6T) (cx _ 16)))));show a6 YAP Vx ZA2 bF Qn Q;have ja:=(c9.dq cz YET rfl rfl rfl).up ZIW ZIU;have Ni:=Ni.up ZIS;have sg:nx bF bX gm R tr most q1 Ypf Yi7 YmC YLW.1 cK pl B:=⟨(lU.dq f2 rfl rfl).dq cz rfl rfl,ja,h5,Ni,cz.go (f2.go wM)⟩
 refine Yt;intro aCu;refine en (fo (aa5 (k:=k+38) K F sg rfl (au ah Y2) ZHR rfl (λQ' q=>jS ZHR ja.1.1 (aS (Ll (k:=k+38) K F ja.1.1 ja.1.2 (au ja.4 Y2) q))) Zh5));show cond (!j0 ZPS ZPS) _ _;exact mK Z3P (h eK gm cK _ q1 _ bx ⟨sg.1.dq f4 rfl rfl,sg.2.vt f4,sg.3,sg.4.no f4,f4 _ _ sg.5 rfl⟩)
theorem aa7{cl:Calls}{a b:E}(h:YOa r m λx ab=>x.Ay False λx=>cond x YvV (Q Y1A ab)):ZFz.1 r m Q:=h
abbrev avJ(m:ag)(r:bG)(bU:Y1):Y1:=∀(bX:_)(A:_)(R:_)(tr:_)(most:_)(cQ:_)(u:_)(c:_)(jW:_)(s:_)(S:_)(pl:_)(B:_)(x0:_)(fl:_)(e0:_)(fC:_)(e9:_)(kj:_)(ba:_),YnW→ZS8→r=[x0,Y0T,Y0v,Z2,fl,e0,fC,e9,Y3J,kj,ba,ZaA]→bU
abbrev C1(m:ag)(r:bG):Y1:=∀bU:Y1,avJ m r bU→bU
theorem nx.no{A:b9}{S:bu}{R:eC}{u c:Nat}{s:cv}(L:YnW)(f:Y6B):nx ab bX A R tr most cQ u c jW s S pl B:=⟨Yda f rfl rfl,L.2.vt f,L.3,L.4.no f,f _ _ L.5 rfl⟩
theorem nx.size{A:b9}{S:bu}{R:eC}{u c:Nat}{s:cv}{Q':Yj}(K:YN)(F:YZ)(L:YnW)(av:YTG)(h:Q' Y7V m):(bH YAP YPf).1 r m Q':=jS av YQv (aS (Ll (k:=k+38) K F YQv Y7B.2 (au L.2.4 Y2) h))
theorem avK(K:YN)(F:YZ)(E:C1 mh r)(dp:∀ab,Z6f):a6 YAP FO r mh Qn Q:=by
 refine bp λax=>E _ λbX A R tr most cQ u c jW s S pl B x0 fl e0 fC e9 kj ba L CZ avL=>?_;subst avL;refine YSY;intro aCv;refine cZ (aa7 (bQ (aw (L.size K F rfl Yh5))));rw[iI];refine bQ (aa5 (k:=k+38) K F L rfl CZ rfl rfl YEO Zh5);show Q (YK (j0 Ykx Ykx)) eK;refine aX Z3P ?_;exact dp eK
abbrev avM(bX h:Nat)(R:eC)(tr:Bool)(most:Nat)(pl:Nat)(B:fu)(n:Nat)(x0 Nj fl e0 fC e9:Yp)(r:bG)(m:ag)(bU:Y1):Y1:=∀(bl:b9)(a7:bu)(s':cv)(kh:Nat)(kj ba:Yp),bl.h=h→nx m bX bl R tr most kh (16*n) (100+YFC*n) (YCF*n) s' a7 pl B→r=[x0,Y0T,Yox,Nj,fl,e0,fC,e9,Y3J,kj,ba,none]→bU
abbrev avN(bX h:Nat)(R:eC)(tr:Bool)(most:Nat)(pl:Nat)(B:fu)(n:Nat)(x0 Nj fl e0 fC e9:Yp)(r:bG)(m:ag):Y1:=∀bU:Y1,avM bX h R tr most pl B n x0 Nj fl e0 fC e9 r m bU→bU
theorem avO{A:b9}{S:bu}{R:eC}{s:cv}(K:YN)(F:YZ)(L:nx mh bX A R tr most cQ 0 100 0 s S pl B)(hm:Y3e){x0 fC e9:Yp}(cf:Zlt):a6 YAP KU Z9z mh Qn Q:=by
 refine forR (d6 (bQ (aw (cst (aw (eZ (aw (bc rfl (aw (cst (aS (tV (k:=k+39) (n:=2) K F L.1 Y2 λw m1 hw lU f1=>ZBp))))))))))));have lw:1+w≤2:=c0 (hp hw) 1;refine⟨au lw Y0J,k0 (di (1+w)) ay (λd=>avN bX A.h R tr most pl B d.length x0 Z2 fl e0 fC e9) (λO bA=>bA A S s cQ _ _ rfl ((⟨lU,Z4s,L.3,Zmo,ZNm⟩:nx m1 bX A R tr most cQ 0 100 0 s S pl B)) rfl) Y2L (λd i rest e r m z jq e8=>?_) Y3j⟩
 ·refine ZHH;subst xj;refine Yb;have wl:=Y7c;rw[fN,cj,g5]at wl;have ld:ZKK:=NX (au (au (dX Yk) (dH wl.symm)) lw);refine t1 ?_;refine aV bx ?_;refine avI K F fA hm (ew YmB lw:i<2) (au (h7 (iu 16 ld) 16) Y2) (au (h7 (c0 (iu YFC ld) 100) YFC) Y2) (au (h7 (iu YCF ld) YCF) Y2) λaH gm cK s2 q1 ba kD lr=>e8 _ _ (λO bA=>bA gm cK s2 q1 _ _ Y9K ?_ (by exact ZCo));rw[cj,sx];exact lr
 ·refine ZHH;subst xj;refine Yb;rw[←bx];refine Yt;intro aCw;exact el (fA.size K F rfl (f9 (cf _ _ (λO bA=>bA _ _ _ _ _ _ _ _ _ _ _ _ _ _ _ _ _ _ _ _ fA (au (iu YCF (by refine aj fN ?_;exact lw)) Y0J) rfl))))
theorem ints_of(h:∀w∈ws,w.isInt=true):∃l:Y8Y,ws=YVU:=by
 induction ws with
 |nil=>exact YZC
 |cons w ws ai=>
  obtain⟨i,e⟩:=V.jM (h w b3);obtain⟨l,aC⟩:=ai λw hw=>h w (eI _ hw);exact⟨i::l,by rw[e,aC];rfl⟩
theorem avP{cl:Calls}{i:Int}(h:YeP):Ta.o.ij cl [Y3S] m Q:=h
variable{sc:Nat}
theorem avQ(K:YN)(F:YZ)(hs:ZUj)(af:∀v∈vs,YEA)(aE:Zd9)(cf:Zlt):a6 YAP FQ [ZZn,none,none,none,none,none,none,none,none,none,none,none] mh Qn Q:=by
 refine Yt;intro aCx;refine(el (bQ (aw (cst (aw (tE (d6 (bc rfl ⟨_,_,hs,Y7U,λws lw tX i9 xD=>YOL⟩))))))));have gY:=au lw aE;obtain⟨l,e⟩:=ints_of λw hw=>af w (tX w hw);subst e;replace gY:=aQ YF gY;have f1:aB no mh (upd mh i9 (0,Y5 YVU)):=aB.new xD;have ak:=bw mh i9 Yu1;generalize upd mh i9 Yu1=m1 at f1 ak ⊢;refine kf l V.int (λd acc m=>m1=m∧acc=d.map Zj1) Zn (λd acc m z=>aV z.1 (⟨0,ak⟩)) Zhu Y3y
 ·obtain⟨rfl,rfl⟩:=z;exact my (bQ (aw (d6 (bc rfl (avP (aw (cst (aS ⟨YC,aj YF (au (au Y7Y gY) Y2),cf _ _ ⟨rfl,(dK (f:=λi=>V.int YlX) (l₁:=d) (l₂:=[i])).symm⟩⟩))))))))
 obtain⟨rfl,rfl⟩:=z;refine λcd aa8=>⟨14,aw (cst (aw (cst (aS ⟨ZWY,rfl,YaF,⟨(qQ (kv:=V.str) YO7 (l:=[7,9])).mpr YC,Zi7⟩,λbX avR=>⟨6,?_⟩⟩))))⟩
 have P:jb Ypp bX:=⟨cd,0,_,Yc,cY avR Yc,sz λv aO=>Y9l λi z=>ZCG,aj YF ZEw⟩
 show a6 YAP VD [ZZn,Y0T,none,none,none,none,none,none,none,none,none,none] Ypp Qn Q;generalize Ypp=aH at P ⊢;revert aH;refine Y17;intro aH P;refine Yt;intro XG;refine KW (aw (eZ (aS (auW (k:=k+36) K F λA bF H cz=>aw (bQ (aw (cst (aw (bQ (aS λvL dJ=>⟨12,aw (cst (aw (bQ (aS λvM eW=>⟨20,aw (cst (aw (bQ (aS λvN ar=>⟨0,aS ⟨gO ⟨0,vL,vM⟩ vN [],rfl,(Y2:3≤15),⟨(qQ (kv:=V.str) YO7 (l:=[29,23,22])).mpr YC,λe he=>YJA Yrl λhe=>YJA ZiD Zib⟩,λxO GU=>⟨4,Y3o⟩⟩⟩))))⟩))))⟩))))))))));have f4:aB no bF Ypl:=((aB.new dJ).trans (aB.new eW)).trans (YvA (aB.new GU));have L:LT Ypl bX A pD Znc:=⟨P.dq ZKA rfl rfl,H.no f4,Yy aaQ.1,⟨⟨vN,Yc,cY GU Yc⟩,cY GU (cY ar (cY eW Yc)),cY GU (cY ar Yc)⟩,YYy⟩
 generalize Ypl=eK at L ⊢;exact avz (k:=YH8) K F L λi0 iG aCy fl e0 bx avS w7=>aV bx (avE (k:=YH8) K F avS w7 λpA R tr most s pl fC e9 hm avT=>avO (k:=k) K F avT hm cf)
def zY(n:Nat):Bool:=ZVE
theorem aa9{P:Yo}{n:Nat}(h:YNs)(avU:P 17)(pF:P 21)(lE:P 8)(ak:P 1):P n:=
 Y8M (λe=>Y96▸avU) λh=>Y8M (λe=>Y96▸pF) λh=>Y8M (λe=>Y96▸lE) λe=>Y96▸ak
def signs:Str:=Str.ofString "()[]{},:"
theorem aba{n:Nat}(h:YNs):ZmO:=
 aa9 (P:=λn=>ZmO) h ⟨111,ZL⟩ ⟨112,ZL⟩ ⟨100,ZL⟩ ⟨43,ZL⟩
theorem ha.str(bJ:Zf){n ch:Nat}(e:YHy=Zaj):ha g A tgt I 1 false (λi=>[Yew].getD i Y7) Y5n Y2d (λi h=>ZPt):=
 ⟨λi h st=>YNL,
  λi h h' st k kt=>st.imp λo q=>⟨k I o rfl q.1,q.2⟩,
  λi s mh P af st ae O w ar=>by
  have w0:i=0:=yh af;subst w0;refine wpAny_pyNext_ascii_item st (c:=ch) rfl λh' ji hs=>⟨_,rfl,?_⟩
  have lv:∀{i:Nat}{h:Heap},ZPt→YMV:=λst=>YNL;have a:=sL (s':=YYM) ae w (lv st) YId (lv ji) rfl rfl;exact ji.elim λo z=>Ej (s:=YYM) z.1 Z4 YC (ar _ _ (aK.ofStr (h:=h') e _) a.1 a.2 ji),
  λs mh P st ae O w ar=>wpAny_pyNext_ascii_end bJ st rfl λh' he=>have c7:YM8:=⟨he,sJ YNL he⟩;YG1,
  λi s P st h=>wpAny_pyIter_striter_ascii st h⟩
theorem avV{n:Nat}{Q:Y1C}(az:YNs)(ae:YU)(st:Y8e)(bz:aK s.heap x ZM)(h:Z6p):YKT:=by
 obtain⟨t,y,e,ex⟩:=bz;obtain⟨ch,aC,al,_⟩:=aba az;have fy:y=Y5o:=c4 e aC;subst fy;subst ex;exact wpAny_pyIter_ascii (t:=t) al (Ey ae st (λbl bJ=>ha.str bJ aC) Y6k h)
def abb:gq:=⟨yD λv mh Q=>v.onStr False λn=>YNs∧Z6p,AV λ{g A s0 s m0 m x v tgt Q}ae st bz q=>by
 cases v with
 |str n=>exact avV q.1 ae st bz q.2
 |_=>exact q.elim⟩
def sgn(v:V):Bool:=v.onStr false zY
theorem Nk{v:V}(aO:Yon)(r:Y2F):∃ch t,x=Z27∧acF Y5o=false∧(!(acG signs Y5o 0 signs.length 1).isEmpty)=false:=by
 cases v with
 |str n=>
  obtain⟨t,y,e,ex⟩:=r;obtain⟨ch,aC,_,z⟩:=aba aO;exact⟨ch,t,(c4 e aC:y=Y5o)▸ex,⟨z.1,z.2⟩⟩
 |_=>exact nb aO
theorem avW:Fm "str" λv O=>Yon:=λ{g m s x v}ae bz h=>by
 obtain⟨ch,t,e,_⟩:=Nk h bz;subst e;exact⟨Zbb,λa q=>hn q⟩
def avX:kR:=u1 "isspace" avW F.slot_str_isspace F.type_str_isspace F.plainAttrs_str (λv vs m Q=>vs=[]∧Yon∧YRO) λ{g H k A s m x v xs vs Q}K aG ae bg rs h=>by
 obtain⟨ch,t,e,z,_⟩:=Nk YGr bg;have aJ:=h.1;subst aJ;exact gT rs.jh (gz e (SC.isspace (aV z.symm (qj ae YFr Y9B))))
def abc(e:aI):Y67:=(JB .In e).elim none λes=>es.casesOn none λl r=>l1 r none λy=>(Ei y).elim none Zkv
theorem abd{e:aI}{es:Ye}{P:Y1}(h:abc e=Y2J)(k:∀l ax p cO,e=YBu l [.In] [Yzk] p→es=[l]→P):P:=
 j7 h λaCz aE h=>JC aE λl r p e3 O fx=>by
  subst fx;refine j7 (show(Ei r).elim none Zkv=Y2J from h) λx O h=>?_;obtain⟨rC,ax,cO,fB⟩:=x;by_cases q:rC=YQB
  ·subst q;replace h:=gn ZLD h;exact k l ax p cO (aV fB e3) Y5r
  ·replace h:=gn (decide_eq_false q) h;exact Y08
def Nl(vs:Y3)(Q:Y1):Y1:=one vs False λa=>sgn a=true∧Q
theorem abe{c:bP}{l:aI}{R:Y8}(h:gH g k env c.ns r [l] mh λvs m=>Nl vs Z6w)(aG:Z5)(ae:YU)(aN:Y4H)(gI:∀ab s',YAL→YRZ→Q' false ab→R Y1A s'):
  WP g A ZNQ (λa s1=>WP g A (eval Yzk env) (λb s2=>WP g A (compareOp .In a b) R s2) s1) s:=by
 have h:Ev g k env c.ns r mh ZNQ λv m=>Nl [v] Z6w:=h;refine Yg;intro RQ RR RS;refine Y0p λcF s1 z=>z.elim λm1 z=>Y0g λa q=>wpAny_Constant_str ?_;obtain⟨ch,t,e,_,w⟩:=Nk YG q.1;exact jL e (PySem.P.in_str (aX w (gI m1 _ (Zf8 _) (Y0m Yeq) Yq)))
def avY:dj:=⟨⟨λO O e=>abc e,λO vs m Q=>Nl vs YRO⟩,
 λ{g H k env c r mh e es Q}K L hm h=>abd hm λl ax p cO e3 he=>by
  refine YgG;replace h:=YHG;exact λA s aG ae aN=>wpAny_Compare1 (abe (Q':=λb m=>Q Y1x m) h aG ae aN λab s' a st q=>⟨ab,a,st,_,YFr,q⟩),
 λ{g H k env c r mh e es Q}K L hm h=>abd hm λl ax p cO e3 he=>by
  refine dT e3 ?_;replace h:=YHG;exact λA s aG ae aN=>wpAny_isTrue_Compare1 (abe (Q':=Q) h aG ae aN λab s' a st q=>wpAny_truthy_bool ⟨ab,a,st,q⟩)⟩
noncomputable abbrev k4 (B:Nat):Yn:=[YF6,YA6,YQD,YJs]
theorem C2{B:Nat}{T:String}{b:Bool}(e:[Value.type "Exception",YQD,YJs].contains Y66=b):Y9p Y66=b:=by rw[ayQ,ayQ,e];rfl
variable{bs:Yn}{oL:YeD}{p4:Y0F}{gs:Y0F}{gZ:Y0F}{du:Y0F}{Nm:Bool}{dC:Y0F}{ae:Bool}{col:YeE}
theorem avZ{R:Y48}{g:Y78}{d:Drawn}{os:OsState}{nm q:Str}{N B:Nat}{sn:YH}{sub:Yn}{v:Value}(gE:Yl8)(aF:R (.ok (YS Yc3)) ⟨(h.push Zfe).push {cls:=Yw,data:=ZY #[YC8,Y7,Y7,Y7,Y1A,Y7]},g,d,t,os⟩):
  codeAny YR A (Y5x (ZK "Exception.__new__") Zmq) R Y5F:=by
 have F:=ayR;have aCA:=F.ends;have abf:Y9p YA6=true:=YJz;have Eh:Y9p (YE "NameError")=false:=YJz;refine codeAny_call_builtin_code (acn _ F.quiet) ?_;unfold checkBuiltinCall;refine aa F.newKind (aa F.newSplit (aa F.newRow ?_))
 repeat (first | with_reducible refine YIE | (with_reducible refine wpAny_isSubtype_exc gE ZCk) | with_reducible refine wpAny_staticBase_exc gE ?_ | with_reducible refine Zdw | wp_step)
 refine codeAny_builtinAt F.entry (acH ?_);show acI _ _ _ (stack >>= _) _ _ _;refine acH (PySem.wpAt_stack λp below=>Hy ?_)
 wp_walk
 refine Hy (aa F.owner Yg);intro PW PX aeW
 repeat (first | with_reducible refine wpAny_madeHere_exc F.canon gE ?_ | with_reducible refine YIE | (with_reducible refine wpAny_isSubtype_exc gE ?_;first | refine ZCk | rw[(YJz:Y9p (YE "AttributeError")=false)] | rw[Eh]) | wp_step)
 show R _ _;exact aa YBI aF
noncomputable abbrev xP (C T:Nat):Obj:=Zfa
noncomputable abbrev vO (v:Value):Obj:=Zfe
theorem av0{g:Y78}{d:Drawn}{os:OsState}{E Q:Y8}{nm q:Str}{N B:Nat}{sn:YH}{sub:Yn}{v:Value}{f:Nat}(gE:Yl8)(af:Looks YR h (typeLookup Yw "__init__") Yov)(ah:∀self,Looks YR h (bindSpecial Y2g self) (Y2g,[self]))(aF:codeAny YR (A.under (ZK "type.__call__" Zmq)) (Y5x Y2g ⟨[Yc3,v],[]⟩) (λr s'=>r=YPi∧Q Yc3 s') ⟨YaP YY4,g,d,t,os⟩):
  wpAny YR A ZJ9 Q E Y5F:=by
 have f1:=tc_lookup;have f2:=tc_bind Yw;have dJ:YbC Yw "type":=⟨_,gE,rfl⟩
 refine YqM;show wpAny _ _ (callAny Yw _) _ _ _
 repeat (any_goals (first | assumption | with_reducible refine YIE | wp_step))
 refine⟨rfl,codeAny_call_builtin_at ZDW entry_typeCall (wpAny_check_type_call_sub gE Yg)⟩;intro PU PV al0
 repeat (first | with_reducible refine YIE | with_reducible refine Zdw | wp_step)
 refine avZ gE ?_;show wpAny _ _ _ _ _ _;have k:∀b o,YDK→Ytc b=YB:=Yrb;have av1:=ZST;have av2:Ytc YGt=some YY4:=ZHa
 have av3:Y9p Yw=true:=Y6J
 refine Y0K;intro PW PX
 repeat (first | with_reducible refine wpAny_loadPart_at av2 ?_ | (with_reducible refine wpAny_isSubtype_exc av1 (aa av3 ?_)) | wp_step)
 show wpAny _ _ (typeLookup Yw _) _ _ _;refine(af.keeps k).at (wpAny_holding (bd (((ah _).keeps k).at Yg)));intro RW RX RY;refine bd (wpAny_call (codeAny_mono aF YsG));obtain⟨rfl,z⟩:=z;exact Ze2
theorem Nn:Slot "wrapper_descriptor" "__get__" "wrapper_descriptor.__get__":=
 .of (owner:="wrapper_descriptor") (n:="__get__") (by(refine aj Zbc ?_;refine ZCn);kernel_rfl) ZL ZL ZL
  Yhw YSy
theorem av4:entryFor table "wrapper_descriptor.__get__"=some Builtin.«wrapper_descriptor.__get__»:=Yjk
theorem av5(a b c:Value):argsOk "wrapper_descriptor.__get__" ⟨[a,b,c],[]⟩:=by unfold argsOk;kernel_rfl
noncomputable abbrev C3:Value:=ZK "Exception.__init__"
theorem av6:typeOf C3=pure (YE "wrapper_descriptor"):=by show builtinType _=_;refine aa builtinType_eq_fast ?_;kernel_rfl
noncomputable abbrev Np (D x C:Nat):Obj:={cls:=YQG,dict:=none,data:=ZY #[Y2f,Y1m,Yw],slots:=#[]}
noncomputable abbrev sh (x:Nat):Obj:={cls:=YE "method-wrapper",data:=ZY #[C3,Y1m]}
variable{oZ:Obj}
theorem av7{g:Y78}{d:Drawn}{os:OsState}{E:Y8}{x:Nat}{Q:YQk}(aq:YUm)(ao:YWA)(qk:Ydv)(aF:Z6i):wpAny YR A (Builtin.«wrapper_descriptor.__get__» ⟨[C3,Y1m,Yw],[]⟩) Q E Y5F:=by
 unfold Builtin.«wrapper_descriptor.__get__»
 repeat wp_step
 rw[show ".".intercalate ("Exception.__init__".cutAt '.').dropLast="Exception" by decide +kernel,ao];refine qk.at ?_;refine YTX;exact wpAny_pure (bd (wpAny_newObj_type YIF))
theorem av8{g:Y78}{d:Drawn}{os:OsState}{E:Y8}{d5 x B:Nat}{Q:YQk}{tk:Nat}(vP:ZQ5)(uv:Z5O)(gE:Z5N)(ne:Yd3)(aq:YUm)(ao:YWA)(C4:x≠C)(qk:Ydv)(aF:Z6i):
  wpAny YR A (Builtin.«super.__getattribute__» ⟨[YPz,Y4 "__init__" tk],[]⟩) Q E Y5F:=by
 have si:=Nn.lookup;have iA:(jX x==jX C)=false:=by simp[C4]
 have av9:=av6;have aE:((jX C::YMC).dropWhile (· !=YF6)).drop 1=[YA6,YQD,YJs]:=by
  rw[ayS,if_pos (by simp[ne]),ayS,Ylh];rfl
 have wm:YbC C3 "wrapper_descriptor":=av9;have abg:classOwn YA6 "__init__"=pure (some C3):=Y1F
 have Nq:(Np B x C).data=ZY YOO:=rfl;have f0:YZU[0]?=ZZg:=rfl;have f1:YZU[1]?=some Y1m:=rfl;have f2:YZU[2]?=ZZh:=rfl;unfold Builtin.«super.__getattribute__»
 repeat (first
  |(with_reducible refine wpAny_field vP Nq f0 ?_) |(with_reducible refine wpAny_field vP Nq f1 ?_) |(with_reducible refine wpAny_field vP Nq f2 ?_)
  |(with_reducible refine ks_wpAny_notOpaque uv ?_)
  |(with_reducible refine Looks.at gE ?_;refine YgN)
  |(rw[iA])
  |wp_step
  |dsimp only)
 exact codeAny_call_builtin Nn.plain av4 (Nn.check _ _ _ _ _ _ _ _ wm (av5 _ _ _) (av7 aq ao qk (wpAny_pure YqO)))
theorem awa{g:Y78}{d:Drawn}{os:OsState}{E:Y8}{d5 x B:Nat}{Q:Z8S}{pl:YFf}(vP:ZQ5)(uv:Z5O)(gE:Z5N)(ne:Yd3)(aq:YUm)(ao:YWA)(C4:x≠C)(qk:Ydv)(aF:Q (YC8,[]) ZnP):wpAny YR A (getMethod YPz "__init__" pl) Q E Y5F:=by
 have si:=acJ.lookup;have dJ:∀dg,(⟨h,g,d,dg,os⟩:Shared).TypeIs YPz "super":=λO=>⟨_,vP,rfl⟩
 refine bd (wpAny_specialOf YLN si ?_);show wpAny _ _ (if(Manifest.canonical "super.__getattribute__" !="object.__getattribute__")=true then _ else _) _ _ _;refine cb (if_pos F.ks_canon_super_ga) (bd (bd (wpAny_mkText (wpAny_holding (bd (wpAny_typeOf YLN (bd (wpAny_of_eq si ?_))))))));show wpAny _ _ (getAttrByItsOwn YPz (Y4 "__init__" t) YQG (ZK "super.__getattribute__") true false) _ _ _;refine bd (wpAny_of_eq (show(if onTheHeap YQG then typeLookup YQG "__getattr__" else YMl)=YMl from rfl) (bd (wpAny_attempt Zdv)));intro awb awc awd;refine bd (wpAny_of_eq (acJ.bind _) Yg);intro aCB aCC aCD;refine wpAny_mono (Q:=λv s'=>v=YC8∧s'=ZnP) (E:=Y28)
  (wpAny_call_entry acJ YLN F.ks_entry_super_ga (av8 vP uv gE ne aq ao C4 qk ⟨_,rfl,rfl,rfl⟩) (F.ks_gaArgs_super _ _)) (λv s' aO=>?_) Y0E
 obtain⟨rfl,rfl⟩:=aO;exact YqO
theorem awe{g:Y78}{d:Drawn}{os:OsState}{E:Y8}{x B:Nat}{nm q:Str}{N:Nat}{sn:YH}{sub:Yn}{tX:Nat}{v:Value}{vs:Y1N}{t0:Nat}{Q:Y8}(hm:h.get? tX=ZaN)(aq:YUm)(ao:YWA)(hd:oZ.data=YPZ)(h0:vs[0]?=some (Y0 t0))(gE:Yl8)(aF:Q Y7 ⟨(h.push YNX).update x (x5 (YNz 0 YC8)),g,d,t,os⟩):wpAny YR A ZJA Q E Y5F:=by
 refine YqM;show wpAny _ _ (callAny YcC _) _ _ _;refine Yg;intro aeM aeN aeO;refine bd (wpAny_load hm ?_);show wpAny _ _ (checkBoundCall "Exception.__init__" Ysy >>= λO=>again (ZK "Exception.__init__" Ysy)) _ _ _;have F:=ayR;refine Yg;intro Jm Jn RZ;refine Y6H
 (refine iy F.initRow ?_;refine aa F.initKind ?_)
 refine wpAny_ite_true YC ?_;have aCE:=F.noStar;refine Yg;intro aCF aCG aCH
 repeat (first | (with_reducible refine wpAny_loadPart_at aq (jg ao ?_)) | with_reducible refine YIE | wp_step)
 refine⟨plainId_quiet F.init.plain _,codeAny_builtin F.initEntry ?_⟩;unfold Builtin.«BaseException.__init__»;dsimp only;refine YTX;have AN:0<vs.size:=(wh h0).1;have abh:=eu (h:=h) YNX aq;exact bd (wpAny_newObj_type (bd (bd (wpAny_field abh hd h0 (bd (wpAny_setField abh hd AN (wpAny_letGo YIF)))))) Yi2)
theorem awf{E:Y8}{g:Y78}{d:Drawn}{os:OsState}{nm q:Str}{N B x:Nat}{sn:YH}{sub:Yn}{name:Str}{v:Value}{o:Obj}{tk:Tok}{Q:YQk}(gE:YUj=Yp7)(az:Z5P)(aq:YlB=YB)(ao:ZVm)(GV:ZVo)(hd:Ysw)(aF:∀h' u4,Zla→ZPl→Q YJZ ZnN):
  wpAny YR A (Builtin.«object.__setattr__» ⟨[Y1m,YcQ,v],[]⟩) Q E Y5F:=by
 refine cb (osa_eq ..) (ix (refuse_eq ..) (bd (bd (bd (wpAny_loadPart_at aq (wpAny_pure (aa ao (bd (wpAny_mroOf_exc gE (cb ZYX (cb ZYX (cb (ayT.passes Y1m) (wpAny_pure (bd (bd (wpAny_loadPart_at aq (wpAny_pure (aa ao (bd (az.at YGC))))))))))))))))))));dsimp only;obtain⟨hV,iJ,aCI,aCJ⟩:=o;dsimp only at ao GV;subst ao GV;obtain⟨vs,rfl⟩:=hd;show wpAny _ _ (do match ←instanceDict x true with | YNI=>ayU d YcQ name v | none=>Builtin.ObjectAttr.noDictFor Y1m Yw name false) _ _ _;refine bd (bd (wpAny_loadPart aq (bd (bd (wpAny_load gE Zl)))));dsimp only;refine cb Y2s (cb (if_neg (h8)) ?_);have abi:=eu (h:=h) Y3P aq;have abj:x≠h.objs.size:=ZMg;refine bd (wpAny_alloc (bd (wpAny_update abi (wpAny_pure (a:=Zaa) ?_))));have awg:(Yx9 x Zjl).get? h.objs.size=some Y3P:=(aca _ _ _ _ abj.symm).trans (Heap.get?_push_at rfl rfl);have wt:(Yx9 x Zjl).Ns h.objs.size ZP:=⟨_,#[],_,awg,rfl,λe he=>absurd he Y6J,Zm⟩
 show wpAny _ _ (ayU h.objs.size YcQ name v) _ _ _;refine Yg;intro Ub Uc alS;refine bd (wpAny_pure (bd (wpAny_nsSet1 (Heap.Ns1.of_empty wt) λh' ks hs=>YM)));obtain⟨aCK,aCL,aCM,awh,awi,awj⟩:=ks.count (Within.cons name v Within.nil);refine ax (bd (wpAny_lookBehind awh (by exact aX awi (pastItsLine_dict (au awj (by refine aj g5 (aT Hl (dS sizeLine_eq ?_));decide)))) ?_));refine wpAny_pure (aF h' _ (λb ob ah e=>(Y1H b Y6L).trans ((aca _ _ _ _ ah).trans Y5Z)) ((Y1H x abj).trans (q7 _ abi rfl)))
theorem awk{E:Y8}{g:Y78}{d:Drawn}{os:OsState}{nm q:Str}{N B x:Nat}{sn:YH}{sub:Yn}{name:Str}{v:Value}{o:Obj}{Q:Y5P}(gE:YUj=Yp7)(aE:Looks YR h (typeLookup Yw "__setattr__") YX6)(az:Z5P)(aq:YlB=YB)(ao:ZVm)(GV:ZVo)(hd:Ysw)(aF:∀h' u4,Zla→ZPl→Q () ZnN):
  wpAny YR A (setAttr Y1m name v) Q E Y5F:=by
 have zZ:=ayT;have awl:Y9p YJs=true:=YJz;have qk:Looks YR h (isInstance Y1m YJs) true:=((Looks.ld aq).andThen (by rw[ao];exact .now)).andThen λA Q E s k q=>by
  exact wpAny_isSubtype_exc ZST (by refine aa awl ?_;exact q)
 unfold setAttr callSpecial? specialOf;refine bd (wpAny_mkText (bd (bd (bd (bd (wpAny_loadPart_at aq (wpAny_pure (ix ao (aE.at Y0K)))))))));intro ak2 ak3;exact wpAny_holding (bd (wpAny_of_eq (zZ.slot.bind Y1m) (bd (wpAny_call (codeAny_call_builtin zZ.slot.plain zZ.entry (@check_slot YR _ _ ⟨h,g,d,t+1,os⟩ "object.__setattr__" "object" "__setattr__" Y1m [Z25,v] [] _ zZ.kind zZ.split qk (zZ.args Y1m Z25 v) (awf (t:=t+1) gE az aq ao GV hd λh' u4 dC du=>wpAny_pure (wpAny_pure (aF h' u4 dC du)))))))))
theorem awm{E:Y8}{tX x:Nat}{t:Y5O}{Q:Y8}(h:wpAny YR A t (λv s1=>s1.heap.get? tX=ZaN∧wpAny YR A ZJA Q E s1) E s):wpAny YR A (callWith pos YcC [] [(false,t)] []) Q E s:=by
 refine bd (wpAny_holding (evalArgs_plain (NT (wpAny_mono h (λv s1 z=>NS (bd (wpAny_standAt ZGi))) Y3Q))));intro aCN aCO aCP;exact bd (wpAny_load z.1 (wpAny_pure (bd (wpAny_mono z.2 (λr s2 q=>bd (wpAny_holding (wpAny_point Ze4))) ZgC))))
theorem awn{cd:Code}{E:Y8}{o:aI}{n:Str}{e:aI}{Q:Y8}(hs:Ym1)(sU:Y8C)(h:acI YR A cd (attributeBase o n env Y7h) (λBJ s1=>∀pl,wpAny YR A (getMethod BJ n pl) (λabk s2=>wpAny YR A (callWith pos abk.1 abk.2 [Y8L] []) Q E s2) E s1) E s):acI YR A cd (eval (Y0Q Yzd [e] [] pos) env) Q E s:=by
 refine cb YSS (acH (ks_wpAt_mono h (λBJ s1 z=>Hy YL5) Y3Q));have aJ:backTo pos (starEach [e] env)=[Y8L]:=by rw[Qb e hs];rfl
 refine ix aJ ?_;dsimp only [methodCall];exact aa (show methodCallForm ([e].length+YZt) [Y8L] ZGd=true from rfl) (bd (wpAny_holding (wpAny_mono (z _) (λkQ s2 y=>bd (wpAny_of_eq YSz y)) Y3Q)))
abbrev awo(g:G)(f cell:Nat)(bU:Y1):Y1:=∀(hV:_)(iJ:_)(eB:_)(fd:_)(GW:_)(Nr:_)(vs:_)(file:_)(cp:_)(abl:Pos)(ek:Pos)(cO:Pos)(ky:Pos)(kS:Pos)(lN:Pos)(s8:Pos)(s9:Pos)(abm:Pos)(abn:Pos),YkZ→fd.body=Y65 [YJU (Y0Q (Y2e (Y0Q (Y09 "super" abl) [] [] ek) "__init__" cO) [Y09 "what" ky] [] kS) lN,Y5w [Y2e (Y09 "self" s8) "what" s9] (Y09 "what" abm) abn]→(cO.endLine==kS.line)=true→Jq fd ["self","what"]→fd.closure=[(YZS,cell)]→fd.code=Y0 GW→codeIn g.K fd.code fd.qualname=true→g.K.lookup GW=some Nr→Nr.data=YPZ→vs[2]?=some (Y4 file cp)→((g.prog.main.file:Str)==file)=true→fd.scope.names=[(YZT,YPe),(("what":Str),YPe),(YZS,Y6y),(YtQ,Z0L)]→fd.scope.kind=Y5J→fd.scope.isCoroutine=false→fd.scope.isGenerator=false→fd.globals=mainGlobals→fd.builtins=builtinsNs→bU
abbrev awp(g:G)(f cell:Nat):Y1:=∀bU:Y1,awo g f cell bU→bU
abbrev awq(g:G)(f B cell:Nat):Y1:=hr (awp g f cell) (∃hV iJ eB,g.K.lookup cell=some ⟨hV,iJ,YPT ZZg,eB⟩) (nsIn g.K mainGlobals "super"=Y3K) ((g.prog.main.scope.names.lookup YtQ).isSome=false)
abbrev awr(g:G)(C B:Nat)(bU:Y1):Y1:=∀(nm:_)(q:_)(N:_)(bs:_)(sn:_)(sub:_)(ae:_)(col:_)(oL:_)(p4:_)(dC:_)(du:_)(gs:_)(gZ:_),g.K.lookup C=Yp7→bU
abbrev aws(g:G)(C B:Nat):Y1:=∀bU:Y1,awr g C B bU→bU
abbrev o3(g:G)(C B f cell:Nat):Y1:=acM (awq g f B cell) (aws g C B) (∃Nt cd,g.K.lookup B=some Nt∧Nt.data=.cls cd) (∃cd,clsIn g.K C=some cd∧cd.mro=Yc5) Yd3 (findIn g.K Yw "__init__"=ZaP) (typeIn g.K Y2g=some (YE "function")) (findIn g.K Yw "__setattr__"=YpB) (findIn g.K Yw "what"=Y3K) (nsIn g.K cStatics "thirdparty.any"=Y3K)
variable{cell:Nat}
theorem awt{B f x:Nat}{v:Value}{R:Y48}(K:ZG)(Z:YW7)(aG:YTn)(ae:ZlY){T:Nat}(aq:s.heap.get? x=some (Zfa:Obj))(GX:g.h₀.get? x=none)(gI:∀s' iY dx,Y56→Y4P→(∀b o,b≠x→YN4)→s'.heap.get? x=some ({cls:=Yw,dict:=some dx,data:=ZY #[Y0 iY,Y7,Y7,Y7,Y1A,Y7],slots:=#[]}:Obj)→Z73):
  codeAny Yu A (Y5x Y2g Ysy) R s:=by
 refine bp λax=>YRi _ λhV iJ eB fd GW Nr vs file cp abl ek cO ky kS lN s8 s9 abm abn hf awu xQ P awv aww awx awy awz awA awB z0 abo abg awC awD qU=>Z8x;obtain⟨rC,aCQ,aCR,awE⟩:=Z.1.2;obtain⟨Nt,aCS,abp,abq⟩:=Z.3;obtain⟨cd,abr,FF⟩:=Z.4;have X:ZOd:=Y4e ae;obtain⟨p,loose,rn,pq,T0⟩:=K.1.2;refine ax (ks_codeAny_call_defAt (fd:=fd) (binds:=[("self",Y1m),YtR]) ZO1 (X _ _ hf) rfl (T0.nolimit.keeps ae) (codeRec_of X awx) awu (BindsTo.of_eq (R9 P rfl)) YOI YOI (λh₀ az aR=>?_) abg awC abo)
 ·replace bb:=bL z0 bb;revert y;decide
 ·refine aX z0 ?_;rcases dz bb with e | bb
  ·refine gT e ?_;rfl
  ·refine gT YL1 ?_;rfl
 generalize la:callEnv fd s.heap.objs.size f=env at az aR ⊢;have oE:ZMo:=bN la awD;have cM:ZMn:=bN la qU;have i5:Yjo:=k7 la abo;have fa:env.locals=s.heap.objs.size:=ZI3
 have Bq:∀n,Y25=YLk:=λn=>eT la ((ZjY:∀n,(callEnv fd s.heap.objs.size f).kindOf n=YLk) n);have dC:env.kindOf "super"=Y27:=YSw
 have du:env.kindOf "__class__"=Y6c:=YSw
 have abt:env.kindOf "self"=Y2x:=YSw
 have jl:env.kindOf "what"=Y2x:=YSw
 have awF:env.cells.lookup YZS=some cell:=by refine k7 la ?_;show fd.closure.lookup _=_;rw[awv];rfl
 have awG:env.func=some f:=ZI3
 have awH:env.code=Y0 GW:=bN la aww;have BC:∃i2,(fd.params.posonlyargs++fd.params.args).head?=some i2∧i2.arg=YZT:=by
  obtain⟨po,i2,_⟩:=P;refine aa po (aa YK7 ?_)
  cases h:fd.params.args with
  |nil=>replace i2:=bN h i2;exact absurd i2 YC
  |cons a r=>replace i2:=bN h i2;exact⟨a,rfl,(g4 i2).1⟩
 obtain⟨i2,BC,awI⟩:=BC;have q5:g.K.In h₀:=X.keeps aR;have CF:=(T0.keeps (h':=s.heap) ae).keeps (h':=h₀) aR;have awJ:x≠s.heap.objs.size:=ZMg;replace az:=aj fa az;refine ks_wpAt_execs_cons (ks_wpAt_Expr_any ?_ (by refine gz i5 ?_;rfl) rfl);refine awn rfl xQ (ks_wpAt_super_base (env:=env) dC du rfl awG (q5 _ _ hf) rfl BC awH (q5 _ _ awy) awz awA awB Z.1.4 ?_)
 ·refine ks_loadName_global i5 dC (loadGlobal_builtin (env:=env) (aj oE CF.g) (mg_none_of q5 CF.g Z.1.3) (aj cM CF.b) ((T0.builtins _ ZL).trans Y1F) ⟨rfl,wpAny_loadName_free i5 du awF ⟨_,q5 _ _ awE,rfl⟩ (jg awI (wpAny_loadName_local i5 abt az rfl (ks_wpAny_isType_cls ZXa abq ⟨rfl,Yg⟩)))⟩);intro awb awc awd;have awK:Looks Yu h₀ ZUq Yc5:=λA Q E s k q=>bd (((looks_clsIn q5 abr) A _ E s k (wpAny_pure (aa FF q))));have wU:∀b,Y9p b=true→mroIn g.K C b=YNK:=λb ah=>by unfold mroIn;exact aT abr (aL (Option.bind_some ..) (aj (if_neg (mL FF h8)) (gS FF (congrArg _ ah))))
  have C4:x≠C:=λe=>by replace GX:=aQ (K.1.1 _ _ q4) (bN e GX);cases GX
  have GY:=aR _ _ aq;refine ks_wpAny_call_super ZXa abq GY rfl (λc e=>by cases e) (looks_mroIn q5 (wU _ Y6J):Looks Yu h₀ (isSubtype Yw YF6) true) λak vP gZ=>?_;intro pl;refine awa vP ((looks_opaque (C:=C) (M:=Yu) q5 Z.10).keeps gZ) (awK.keeps gZ) Z.5 (gZ _ _ GY) rfl C4 ((looks_mroIn q5 (wU _ (rfl)):Looks Yu h₀ ZRk true).keeps gZ) (awm (x:=x) (wpAny_Name (wpAny_loadName_local i5 jl (az.keeps Zha) rfl ?_) YC));have lN:∀b o,ZQp→(ak.push YE1).get? b=YB:=Zha;refine⟨ZW,awe ZW ZTi rfl rfl rfl (lN _ _ (q5 _ _ q4)) ?_⟩;generalize abu:((ak.push YE1).push YNX).update x (x5 (YNz 0 (Y0 YvP)))=av;have awL:av.get? x=some (xP C YvP):=by exact eT abu (q7 _ (eu _ ZTi) rfl)
  have oO:∀b o,b≠x→ZQp→Yh4:=λb o ah e=>by exact eT abu (YZn (eu _ (lN b o e)))
  have zv:g.K.In av:=Y4e (λb o e=>oO b o (λq=>by replace e:=aQ GX Y5V;cases e) (aR _ _ (ae _ _ e)):∀b o,YUZ→Yh4);have fI:av.Ns env.locals (λy=>[(YZT,jX x),YtR].reverse.lookup y):=AH az λo e=>oO _ o (λq=>awJ (cA q fa)) e;exact ks_wpAt_execs_cons (ks_wpAt_Assign_Attr (Hy (wpAny_Name (wpAny_loadName_local i5 jl fI rfl (wpAny_Name (wpAny_loadName_local i5 abt fI rfl (awk (zv _ _ q4) (looks_findIn zv Z.8) (looks_findIn zv Z.9) awL rfl rfl YOM λaP u4 sf vl=>Hy (wpAny_pure (gI ⟨aP,s.gens,s.drawn,u4,s.os⟩ _ _ rfl rfl (λb o ah e=>sf b o ah (oO b o ah (aR b o e))) vl)))) YC)) YC)) rfl)
theorem awM{n:Nat}{x:Str}(h:YHy=YQ):x.length≤20:=by
 have:((HI.map er).all λy=>decide (y.length≤20))=true:=ZL
 exact of_decide_eq_true (ju this x YUF)
noncomputable abbrev abv (C dx T:Nat):Obj:={cls:=Yw,dict:=some dx,data:=YbR,slots:=#[]}
abbrev xR(C:Nat)(s s':Shared)(e:Nat):Y1:=iG Y56 Y4P Y7k (s.heap.get? e=none) (∃dx T,s'.heap.get? e=Za9)
theorem awN{B f:Nat}{v:Value}{E:Y8}{Q:Y8}(K:ZG)(Z:YW7)(aG:ZKy)(ae:YU)(dp:∀e s',Zea→Q Y43 s'):wpAny Yu A ZJ9 Q E s:=by
 refine bp λax=>Z8x;have X:ZOd:=YK8;refine Yb;have gone:ZYu:=Yqu;refine av0 Z8n (looks_findIn X Z.6) (λself=>bind_fn X self Z.7) ?_;have b5:∀b o,Y9X→(Yyg ZeZ).get? b=YB:=Yrb;refine awt (k:=k) (s:=⟨Yyg ZeZ,s.gens,s.drawn,s.toks,s.os⟩) K Z ZB1 (λb o e=>b5 b o Y8r) (T:=s.heap.objs.size) ZHa ?_ λs' iY dx aJ aC c1 qe=>⟨rfl,dp _ s' ⟨aJ,aC,λb o e=>c1 b o (λq=>by replace e:=aQ gone Y5V;cases e) YhD,gone,dx,iY,qe⟩⟩
 cases hz:g.h₀.get? Y1J with
 |none=>rfl
 |some o=>replace gone:=aQ (Y5T _ _ hz) gone;cases gone
theorem awO{B f:Nat}{E:Y8}{x:Y5O}{Q:YdA}(K:ZG)(Z:YW7)(bJ:Zf)(h:wpAny Yu A x (λw s1=>∃e dx T,w=Y43∧g.K.In s1.heap∧s1.heap.get? e=Za9∧E Y43 s1) E s):wpAny Yu A (raiseStmt env YQ none) Q E s:=by
 refine bp λax=>Z.2 _ λnm q N bs sn sub vQ col oL p4 dC du gs gZ q4=>ax (bd (wpAny_mono h (λv hY qt=>YM) YrO));obtain⟨e,dx,T,rfl,X,he,la⟩:=qt;have gE:=Z8n;refine Yb
 repeat (first | with_reducible refine wpAny_loadPart_at he ?_ | with_reducible refine YIE | (with_reducible refine wpAny_isSubtype_exc gE (aa ((YJz:Y9p YQD=true)) ?_)) | wp_step)
 exact wpAny_raiseNew_none bJ la
theorem xR.toks{tk:Nat}(z:xR C YIS s' e):Zea:=⟨z.1,z.2,z.3,z.4,z.5⟩
theorem awP{B f:Nat}{E:Y8}{c:bP}{Q:YdA}(K:ZG)(Z:YW7)(aG:ZKy)(ae:YU)(aN:Y4H){n nm t0:Str}{np mD sj kQ jp:Pos}(aR:Yjm)(ah:Y5u)(az:YW2)(bq:Ypa)(aO:Ev g (k+2) env c.ns r mh (eval Yzq env) λv m=>Y9M∧YEB)(la:∀e s1 s',YfY→Yen→xR C s1 s' e→E Y43 s'):
  wpAny Yu A (exec YbH env) Q E s:=by
 refine cb (arm_exec_Raise ..) (bd (wpAny_standAt (awO K Z Y4m (bd (wpAny_Call_NameR Yg)))));intro ae6 ae7 ae8;refine wpAny_mono (Ew (P:=λC5 s1=>C5=Yw∧s1=s) K.1 ae aN aR ah az Zn) (λC5 s1 z=>?_) Y0E;obtain⟨rfl,rfl⟩:=z;refine Yg;intro alv alw alx;refine bd YXr;show wpAny _ _ (evalArgs Yw true [(false,eval Yzn env)] []) _ _ _;refine Yg;intro aCT aCU aCV;refine evalArgs_plain (NT (JoinedStr_many (joinParts_cons (wpAny_Constant_str (⟨by show(jc++t0).length≤_;refine aj YpS ?_;exact au ZIV YSu,joinParts_cons (FormattedValue_plain ?_)⟩)))));refine Yg;intro aCW aCX aCY;refine wpAny_mono (aO A _ aG (ae.toks _) (aN.ez Yeq)) (λv s2 z=>YM) Y0E;obtain⟨m,z⟩:=z;obtain⟨Kg,bz,e,hs⟩:=z.3;subst e;obtain⟨aCZ,fx⟩:=V.kr hs;subst fx;obtain⟨t1,y,fy,rfl⟩:=bz;refine Yb;have abw:=awM fy;refine formatField_str (λdg tk=>?_) (au abw YSu);have gY:(jc++t0++y).length≤sizeLine:=by
  exact aj YpS (aT YpS (au (gR ZIV abw) YSu))
 refine⟨gY,joinParts_nil (NS Y0K) gY⟩;intro Ub Uc;refine bd (wpAny_standAt (bp λax=>Z.2 _ λawQ q N bs sn sub vQ col oL p4 dC du gs gZ q4=>Yb));generalize F1:({s2 with toks:=tk}:Shared)=s3;have nU:a5 g m s3:=aV F1 (Zf8 tk);have fJ:Step cX s1 m s3 m:=aV F1 (((Step.toks _).trans z.2:Step cX s1 m s2 m).trans Z7u);have abx:g.K.In s3.heap:=Y4e nU.1;refine Y0K;intro al1 al2;refine bd (wpAny_keeperOf_exc (abx _ _ q4) (bd (awN (s:=⟨s3.heap,s3.gens,s3.drawn,ZZC,s3.os⟩) K Z aG (nU.toks ZZC) λe s' M=>YM)));obtain⟨dx,T,aA⟩:=M.5;refine ax Y0K;intro awR awS;exact bd (wpAny_holding (wpAny_point (wpAny_pure (bd (wpAny_standAt (wpAny_pure ⟨e,dx,T,rfl,abx.keeps M.3,aA,la e _ s' nU fJ ⟨M.1,M.2,M.3,M.4,M.5⟩⟩))))))
def vR(g:G)(m:ag)(h:Heap)(L:Nat):Y1:=m L=none∧g.h₀.get? L=none∧∃o es ep,h.get? L=YB∧YW5
def js(g:G)(l:Y0C)(m:ag)(h:Heap):Y1:=∀env∈l,env.scope.kind≠.module∧∃L,env.frame=some L∧vR g m h L
noncomputable abbrev addrs (l:Y0C):YV:=l.filterMap (·.frame)
theorem js.Nu{l:Y0C}{X:Yo}(st:Step X s mh s2 m)(jO:∀e∈l,∀L,ZLg→¬X L)(h:YH5):ZSF:=λenv he=>⟨ZPZ.1,by
 refine YM;obtain⟨L,ak,av,h0,o,es,ep,aP,da⟩:=ZPZ.2;exact ax (⟨L,ak,(Zb L av).elim id λq=>g7 aP q,h0,o,es,ep,Y0f L o aP av (jO env he L ak),da⟩)⟩
theorem js.step{l:Y0C}(st:Step cX s mh s2 m)(h:YH5):ZSF:=h.Nu st λO O O O q=>q
theorem js.cons{l:Y0C}(aN:Y1d)(mU:YGb)(h:YH5):js g Y26 mh s.heap:=λe he=>YJA (λq=>q▸⟨by refine aj aN.1 ?_;decide,by
 refine YM;obtain⟨m,az,_⟩:=aN.5;obtain⟨o,es,ep,aA,hd,_⟩:=az;exact ax (⟨env.locals,mU,aN.6.1,aN.6.2,o,es,ep,aA,hd⟩)⟩) (h e)
theorem js.awT{l:Y0C}{base:Heap}(ah:∀a∈Ygj,base.get? a=none)(x:js g l mh h):h.FunFrames base l:=by
 induction l with
 |nil=>trivial
 |cons env l ai=>
  refine YM;obtain⟨ak,L,av,_,_,o,es,ep,aP,da⟩:=x env b3;refine ax (⟨ak,⟨L,o,av,ah L (DB ⟨env,b3,av⟩),aP,λvs q=>by replace q:=aQ da q;cases q⟩,ai (λa aD=>ah a ?_) λe he=>x e YTy⟩);obtain⟨e,he,z⟩:=yf aD;exact DB ⟨e,YTy,z⟩
theorem js.all{l:Y0C}(x:YH5):∀a∈Ygj,vR g mh s.heap a:=λa aD=>by
 refine YM;obtain⟨e,he,z⟩:=yf aD;obtain⟨_,L,av,aP⟩:=x e he;exact ax (c4 av z▸aP)
abbrev xS(C:Nat)(l:Y0C)(fs:YV)(e:Nat)(s2 s4:Shared):Y1:=hr (∃a0,Heap.FlyingW (hideAll s2.heap fs) l e Yw a0 s4.heap) (s2.heap.UpToSlots s4.heap) (s4.gens=s2.gens) (s4.os=s2.os)
theorem awU{E:Y8}{l:Y0C}{Q:Y5P}(l4:Z2S)(dN:ZSE)(M:xR C s2 s3 e)(aF:∀s4,xS C l YCf e s2 s4→Q () s4):ZdV:=by
 refine YM;obtain⟨dx,T,he⟩:=M.5;obtain⟨ak,L,hf,_⟩:=dN env b3;refine Yb;have GZ:js g Y26 aH s3.heap:=λbk rJ=>⟨ZKe.1,by
  refine YM;obtain⟨fA,il,ck,awV,o',es,ep,gD,oy⟩:=ZKe.2;exact ax (⟨fA,il,ck,awV,o',es,ep,M.3 _ _ gD,oy⟩)⟩
 refine wpAny_leaving_firstW (base:=hideAll s2.heap YCf) (a0:=YPx) l4 (GZ.awT (λa aD=>hideAll_none _ aD:∀a∈YCf,YaS a=none)) hf he (λb ob q=>M.3 _ _ Ynm) ?_ rfl rfl rfl λh' x=>?_
 ·cases q:YaS e with
  |none=>rfl
  |some ob=>have:=Ynm;replace this:=ZBh;cases this
 ·refine aF Zfp ⟨⟨_,x.1,?_,Y2K.2.2,YIH⟩,λb ob q az=>?_,M.1,M.2⟩
  ·cases q:YaS e with
   |none=>rfl
   |some ob=>have:=Ynm;replace this:=ZBh;cases this
  ·exact Y6f b ob (M.3 _ _ q) az
theorem awW{E:Y8}{l:Y0C}{fs:YV}{Q:Y5P}(l4:Z2S)(hf:YGb)(F:xS C Y26 fs e s2 s3)(aF:∀s4,Zeb→Q () s4):ZdV:=by
 obtain⟨a0,Nv⟩:=F.1;exact wpAny_leaves_onW l4 hf Nv λh' c6 cT=>aF Zfp ⟨⟨a0,c6⟩,F.2.trans cT,F.3,F.4⟩
theorem aby{f:Nat}{E:Y8}{c:bP}{Q:Y8}{o:aI}{n:Str}{es:Ye}{p:Nat}(K:ZG)(hm:(C0,n,f)∈H.mt)(ah:YB7)(sU:Y8C)(hs:Y5e)(hlen:YUC)(aG:Z5)(ae:YU)(aN:Y4H)(ar:mh p=some (t,ZD C0 ws))(ak:Ev g k env c.ns r mh Y7h λa m=>Y9M∧a=Y0V)(av:gH g k env c.ns r es mh λvs m=>Y9M∧vs=args)(go:∀s2 xs,a5 g mh s2→Z7q→a9 s2.heap xs (Y0V::args)→wpAny Yu A (call Y2g xs) Q E s2):wpAny Yu A Yk1 Q E s:=by
 refine cb YSS (ix YQf (bd (wpAny_mono (ak A s aG ae aN) (λcF s1 z=>YM) Y0E)));obtain⟨m1,z⟩:=z;obtain⟨a,bz,em,bx⟩:=z.3;refine Yb;subst em;subst bx;refine YL5;have IV:ZUV:=by
  refine ZBs;unfold methodCallForm;exact gz (Zb6:Ywr) ZLB
 have qw:ZUW:=YSz
 unfold methodCall;refine aa IV (aa ((bz:YiQ)) (bd (wpAny_holding (QO K hm z.1 ar λaR=>bd (wpAny_of_eq qw (ix YDk (callWith_of (P:=Yrs) Yhx ZT4 (uH lh (wpAny_mono (rp av aG z.1 Y2G) Zl2 Y0E)))))))));refine YM;obtain⟨aH,y⟩:=y;obtain⟨vs,bg,em,ev⟩:=y.3;refine Yb;subst em;subst ev;exact⟨Y4e Y1v,go s2 (Y0V::xs) y.1 YEI (a9.cons ZBI bg)⟩
abbrev awX(g:G)(C:Nat)(l:Y0C)(mh:ag)(s:Shared)(e:Nat)(s':Shared)(bU:Y1):Y1:=∀(aH:_)(s2:_)(fs:_),YRt→Yeo→Yfh→(Ysf)→(Ysg)→xS C l fs e s2 s'→bU
abbrev awY(g:G)(C:Nat)(l:Y0C)(mh:ag)(s:Shared)(e:Nat)(s':Shared):Y1:=∀bU:Y1,awX g C l mh s e s' bU→bU
inductive z1(g:G)(C:Nat)(l:Y0C)(mh:ag)(s:Shared)(e:Nat)(s':Shared):Y1
 |mk (x:awY g C l mh s e s')
def vS(g:G)(C:Nat)(l:Y0C)(k f:Nat)(args:Y3)(mh:ag):Y1:=∀A s vs,Z5→Z2U→YU→YH5→YRx→codeAny Yu A YbK (λr s'=>∃e,r=Y6x Y43∧z1 g C l mh s e s') s
abbrev awZ(g:G)(C:Nat)(env:Env)(l:Y0C)(mh:ag)(s1:Shared)(ev:Value)(s':Shared)(bU:Y1):Y1:=∀(e:_),ev=Y43→∀(aH:_)(s2:_)(fs:_),YRt→Step Y1V s1 mh s2 aH→Yfh→((∀a∈fs,a∈YCf∨ZZA=none))→Ysg→(xR C s2 s' e∧ZSE∧fs=YCf)∨xS C Y26 fs e s2 s'→bU
abbrev C6(g:G)(C:Nat)(env:Env)(l:Y0C)(mh:ag)(s1:Shared)(ev:Value)(s':Shared):Y1:=∀bU:Y1,awZ g C env l mh s1 ev s' bU→bU
theorem Nw{f:Nat}{l:Y0C}{p:YSj}(ao:ZUO)(K:ZG)(hlen:YSR)(hh:YVz)(h:∀(A:Around)env hC body s s1,ZWQ→Z4n→(A.deeper env).frames=ZaE→(∀e∈l,ZlL)→ZSG→ZdT):vS g C l (k+1) f args mh:=λA s vs aG l4 ae dN bz=>
 EZ ao K hlen hh aG ae bz λenv hC body s1 ar I=>by
  have tY:=Yge;refine Yg;intro aC0 aC1 aC2;refine wpAny_mono (h A env hC body s s1 ar I tY (λe he L eW jO=>by
   refine YM;obtain⟨_,fA,il,_,_,o,es,ep,gD,_⟩:=dN e he;refine Yb;have kd:=c4 eW il;subst kd;exact g7 gD (I.8 _ jO)) (dN.step I.7)) Y0E λev s' z=>?_
  refine bp λax=>z _ λe aw0 aH s2 fs sW eX Ma tZ hh Cd=>?_;subst aw0;refine Yb;have ends:∀s4,Zeb→∃bk,(Y6x Y43:Result)=Y6x (Y0 bk)∧z1 g C l mh s bk s4:=λs4 F=>⟨e,rfl,⟨λO bA=>bA aH s2 fs sW (Step.unfresh (wr:=Y1V) (YuU ZMa) I.8:Yeo) Ma (λa aD=>Yz4 YBa Zk1) hh F⟩⟩
  ·rcases Cd with⟨M,aw1,Ms⟩ | F
   ·exact awU tY aw1 M λs4 F=>ends s4 (aa Ms F)
   ·exact awW tY I.9 F ends
  ·obtain⟨bk,rJ,k9⟩:=yf q;rcases dz rJ with bS | bS
   ·subst bS;exact YJ (I.8 a (YY (c4 k9 I.9)))
   ·exact YY (DB ⟨bk,bS,k9⟩)
  ·cases bS:Y0u with
   |none=>rfl
   |some o=>exact(I.7.3 a o bS).elim Zjj
theorem aw2{pn:Ctx}{b:Ze}{Q:Flow→Z6W}{E:Value→Z6W}:∀(a:Ze)(p:Pos)(s:Shared),Sem.wp M pn YUG (λf p s=>match f with | Y8S=>Sem.wp M pn YUH Q E p s | f=>Q f p s) E p s→Sem.wp M pn ZNV Q E p s:=by
 intro a
 induction a with
 |nil=>exact λp s h=>h
 |cons st a ai=>
  intro p s h;rw[execs_cons,NN]at h;refine acY Oj (kK (execs_cons ..) ZCW);refine abZ M pn _ (λf dV s' h'=>?_) Zg4 _ _ h
  cases f with
  |next=>exact ai dV s' h'
  |_=>exact h'
theorem Nx{a b:Ze}{Q:YdA}{E:Y8}(h:wpAny M A YUG (λf s1=>match f with | Y8S=>wpAny M A YUH Q E s1 | f=>Q f s1) E s):wpAny M A ZNV Q E s:=λpn p Ef=>
 aw2 a p s (abZ M pn _ (λf dV s' h'=>by
  cases f with
  |next=>exact h' pn dV Ef
  |_=>exact h') Zg4 _ _ ZPe)
abbrev aw3(g:G)(f C:Nat)(n nm:Str)(j:Nat)(bU:Y1):Y1:=∀(hV:_)(iJ:_)(eB:_)(fd:_)(pre:_)(t0:_)(ax:_)(np:Pos)(mD:Pos)(sj:Pos)(kQ:Pos)(jp:Pos)(lP:Pos)(pos:Pos),YkZ→fd.body=Y65 (pre++[YbH])→pre.length=j→Ypa→bU
abbrev aw4(g:G)(f C:Nat)(n nm:Str)(j:Nat):Y1:=∀bU:Y1,aw3 g f C n nm j bU→bU
abbrev o4(g:G)(f C:Nat)(n nm:Str)(j:Nat):Y1:=iG (aw4 g f C n nm j) YW2 Y5u Yxu Yxt
def t2(n nm:Str)(j:Nat)(st:S)(hC:bP)(b:Ze):Bool:=rz st br hC YSa&&(I2 hC nm&&(ZQK==Y27))
variable{vT:Nat}
theorem abz{B f:Nat}{c:bP}{l:Y0C}{n nm:Str}{st:S}{body:Ze}(K:YN)(Z:YB6)(t4:ZVr)(ar:t2 n nm j st c body=true)(I:Js g A (k+2) f ns args mh s env c body s1)(jO:∀e∈l,ZlL)(dN:ZSG)(af:ns[i]?=some nm)(h:a6 Y5S st YHx mh (λr m=>Y9M∧∃v,YMy=some (some (Y4 v))) Y28):ZdT:=by
 refine t4.1 _ λhV iJ eB fd pre t0 ax np mD sj kQ jp lP pos e8 ah aE bq=>?_;obtain⟨o',Ny,il,ck,gD,_⟩:=I.1;have aJ:=YTC;subst aJ;have aC:=YRM;subst aC;have c1:=YeG;subst c1;have m2:=Y8x;have lj:=cL m2.2;have aw5:(pre++[Stmt.Raise YX5 none pos]).take j=pre:=by exact eT aE (List.take_left)
 rw[aw5]at m2;refine Nx (wpAny_mono (Bm st K I.3 m2.1 h Y5K s1 I.4 I.5 ZC8) Yrm Y0E);obtain⟨aH,z⟩:=z;have q:=z.3
 cases eA with
 |ret v=>exact YP9
 |brk=>exact q.elim
 |cont=>exact q.elim
 |next=>
  refine YM;obtain⟨dv,vU,em,v,aO⟩:=q;refine Yb;subst em;have lk:=YQt;refine wpAny_execs_cons (wpAny_mono (awP (c:=c) (Q:=Y28) (E:=C6 g C env l aH s1) K Z I.4 z.1 vU (rq lk (eq_of_beq lj.2)) t4.3 t4.2 bq (Rn lk (aV Z4P af) aO lj.1 t4.5 t4.4 Zn) λe s3 s4 dB fJ M=>?_) Y0E Y3Q);have st:=Y0m (fJ.weaken (Y:=Y1V) Y31);have GZ:=js.cons (ns:=c.ns) (r:=dv) (vU.ez fJ) I.9 (dN.Nu st jO);exact(λO bA=>bA e rfl aH s3 YCf dB st aB.refl (λa aD=>YY aD) GZ.all (YY ⟨M,GZ,rfl⟩))
def G0:S:=Y0A yE Z9H Yca (UX) YO
def G1:S:=Yi Y62 Y3m (.cV YJj (UP) YO (.cV YPu (UQ) YO (.cV Yby (UR) YO (.cV Ybx (US) YO (.cV Z1H (UT) YO YO)))))
def abA:S:=Yi Y62 Y3m YO
theorem aw6{B:Nat}{l:Y0C}{h u:Nat}{R:eC}{n:Str}(K:YN)(Z:YB6)(t4:Ync)(ao:Ymz)(Y:ZVA)(ar:YVj):Zcw:=
 Nw (k:=k+2) ao K rfl Y2 λA env hC body s s1 jU I l4 jO dN=>abz (i:=1) K Z t4 jU I jO dN rfl (by
  refine Gk (XD rfl ar rfl Y.1 rfl ⟨_,_,Y.2,k0 YjK Zj3 (λd r m=>Y9M∧∃cT eY,r=[Y3J,some YQ7,cT,eY,none]) ⟨rfl,none,none,rfl⟩ (λd r m z=>aa z.1 (⟨0,Y.2⟩)) Zhv Y3j⟩)
  ·refine YM;obtain⟨rfl,cT,eY,rfl⟩:=z;refine Yb;have aM:j<4:=jK YgQ;have vu:cB[j]?=some (cB[j]' ZZQ):=dy _;have ne:∀q∈cB,q.1≠13:=YC
   refine cy (en (fo (aw (kA rfl (Y.3 j _ vu) rfl (aw (bc rfl (aS ⟨rfl,iP (ic λz=>ne _ ZNK Z8I) (e8 _ _ ⟨rfl,_,_,rfl⟩)⟩)))))))
  ·obtain⟨rfl,cT,eY,rfl⟩:=z;exact⟨rfl,13,rfl⟩)
theorem aw7{B:Nat}{l:Y0C}{n:Str}(K:YN)(Z:YB6)(t4:Ynb)(ao:Ymy){x:V}{o:V}:vS g C l (k+3) 381 [o,Z2A] mh:=
 Nw (k:=k+2) ao K rfl Y2 λA env hC body s s1 jU I l4 jO dN=>abz (i:=2) K Z t4 jU I jO dN rfl (by
  have ne:∀j,j≠18→∀{Qn:hg}{Q':Yj}{b st:S}{m:ag},a6 Y5S st Z9p m Qn Q'→a6 Y5S (.cV (.op oEq [v 2,bK j]) b YO st) Z9p m Qn Q':=λj aM{Qn Q' b st m}q=>
   en (fo (aw (bc rfl (aw (cst (aS ⟨rfl,iP (ic λz=>aM (V.str_inj z).symm) q⟩))))))
  exact el (bQ (aw (bc rfl (aw (cst (aS ⟨Y4X,_,rfl,ne 19 Yf (ne 6 Yf (ne 27 Yf (ne 10 Yf (ne 24 Yf ⟨rfl,18,rfl⟩))))⟩)))))))
abbrev aw8(g:G)(bU:Y1):Y1:=∀(hV:_)(iJ:_)(eB:_)(fd:_)(G2:_)(test:_)(o:_)(a:_)(rest:_)(apos:Pos)(pos:Pos)(cO:Pos)(ky:Pos),g.K.lookup 381=YE4→fd.body=Y65 (G2::.If test [YEr (some (Y0Q (Y2e o "once" apos) [a] [] pos)) cO] [] ky::rest)→Y8C→YB7→YnR→rz abA br YZG [G2]=true→hZ YJj br YZG test=true→hZ (v 0) br YZG o=true→hZ YA1 br YZG a=true→bU
abbrev aw9(g:G):Y1:=∀bU:Y1,aw8 g bU→bU
abbrev G3(g:G):Y1:=hR (aw9 g) (mZ g.K 381 rP 2 Y0U=true)
theorem z1.body{l:Y0C}{ev:Value}(st:Step Y1V s1 mh s2 mh)(F:ZfH):C6 g C env l mh s1 Y43 s':=by
 refine bp λax=>F.1 _ λbF s3 fs nU fJ tM tZ hh F=>ax ((λO bA=>bA e rfl bF s3 fs nU (st.trans (fJ.weaken Y31)) tM (λa aD=>Yz5 id YBa) hh (YJ F)))
 cases bS:ZZA with
 |none=>rfl
 |some o=>exact Yys Zjj
theorem axa{l:Y0C}{R:eC}(K:YN)(D:G3 g)(once:∀{l:Y0C},Zcw)(ar:YVj):vS g C l (k+4) 381 [Y8T,Z2B] mh:=
 Nw (k:=k+3) D.2 K rfl Y2 λA env hC body s s1 O I l4 jO dN=>by
  refine bp λax=>D.1 _ λhV iJ eB fd G2 test o a rest apos pos cO ky e8 ah xQ C7 hh m2 lj iZ nN=>?_;obtain⟨o',Ny,il,ck,gD,oy⟩:=I.1;refine Yb;have aJ:=YTC;subst aJ;have aC:=YRM;subst aC;have c1:=YeG;subst c1;subst oy;have lk:=YQt;refine Nx (a:=[G2]) (wpAny_mono (Bm abA (Qn:=λr m=>Y9M∧r=[Y3J,some Z2B,some YcM]) (Qr:=Y28) K I.3 m2 ?_ Y5K s1 I.4 I.5 I.6) Yrm Y0E)
  ·exact el (bQ (aw (bc rfl (aw (cst (aS ⟨Y4X,_,rfl,Zn⟩))))))
  obtain⟨aH,z⟩:=z;have q:=z.3
  cases eA with
  |ret v=>exact YP9
  |brk=>exact q.elim
  |cont=>exact q.elim
  |next=>
   obtain⟨dv,vU,em,fB⟩:=q;subst em;subst fB;refine wpAny_execs_cons (wpAny_If (wpAny_mono ((oF YJj).2 (Q:=λb m=>Y6F∧m=aH) K lk lj (fo (aw (bc rfl (aw (cst (aS YtB)))))) Y5K s2 I.4 z.1 vU) (λb s3 iX=>?_) Y0E));obtain⟨bF,iX⟩:=iX;obtain⟨cM,em⟩:=iX.3;subst cM;subst em;have fJ:=Y0m (iX.2.weaken (Y:=Y1V) Y31);refine aa Y0c Yg;intro awR awS aC3;refine wpAny_execs_cons (wpAny_Return_some (wpAny_mono (aby (Q:=Y28) (E:=C6 g C env l bF s1) (args:=[YQ7]) (f:=388) (C0:=405) K YC C7 xQ hh YwL I.4 iX.1 (vU.ez iX.2) ar Yy2 ?_ ZkF) Y0E Y3Q))
   ·exact((qB [YA1]).1 K lk ZTg (aw (bQ (aw (bc rfl (aw (cst (aS ⟨Y4X,_,rfl,YgE⟩))))))))
   ·have ru:=fJ.trans (mT.weaken (Y:=Y1V) Y31);exact wpAny_call (codeAny_mono (once _ s4 xs I.4 l4 eb (js.cons (vU.ez (iX.2.trans mT)) I.9 (dN.Nu ru jO)) bg) λr s' z=>by
     obtain⟨e,rfl,F⟩:=z;exact F.body (ev:=Y43) ru)
def C8:YH:=["plans","plan"]
abbrev axb(g:G)(n:Str)(bU:Y1):Y1:=∀(hV:_)(iJ:_)(eB:_)(fd:_)(o:_)(a:_)(ret:_)(ax:_)(apos:Pos)(pos:Pos)(ep:Pos)(np:Pos)(mD:Pos)(z2:Pos)(ar:Pos)(z3:Pos),ZOe=YE4→fd.body=Y65 Z9E→Y8C→YB7→YnR→hZ (v 0) br Yt8 o=true→hZ (v 1) br Yt8 a=true→YLk=Y27→bU
abbrev Nz(g:G)(n:Str):Y1:=∀bU:Y1,axb g n bU→bU
abbrev z4(g:G)(C:Nat)(n:Str):Y1:=hr Z5d (mZ g.K 692 C8 2 Y0U=true) YW2 Y5u
abbrev axc(g:G)(l:Y0C)(mh:ag)(s s':Shared)(bU:Y1):Y1:=∀(aH:_)(s2:_)(fs:_),YRt→Yeo→Yfh→(Ysf)→(Ysg)→YaT→Yom→ZYl→ZYn→bU
abbrev axd(g:G)(l:Y0C)(mh:ag)(s s':Shared):Y1:=∀bU:Y1,axc g l mh s s' bU→bU
abbrev axe(g:G)(C:Nat)(l:Y0C)(mh:ag)(s:Shared)(env:Env)(e:Nat)(s':Shared)(bU:Y1):Y1:=∀(bF:ag)(s3:Shared)(fs:YV),a5 g bF s3→Step cX s mh s3 bF→aB no mh bF→Ysf→(∀a∈fs,vR g bF s3.heap a)→xS C Y26 fs e s3 s'→bU
abbrev abB(g:G)(C:Nat)(l:Y0C)(mh:ag)(s:Shared)(env:Env)(e:Nat)(s':Shared):Y1:=∀bU:Y1,axe g C l mh s env e s' bU→bU
theorem z1.inner{l:Y0C}(st:Z7q)(mU:YGb)(eW:Yoj)(F:ZfH):ZDC:=by
 refine bp λax=>F.1 _ λbF s3 fs nU fJ tM tZ hh F=>ax (λO bA=>bA bF s3 fs nU (st.trans fJ) tM (λa aD=>Yz4 (λq=>(yf q).elim λbk z=>(dz z.1).elim (λbS=>YJb) λbS=>YY (DB ⟨bk,bS,z.2⟩)) Zk1) hh F)
 ·exact c4 (aV bS z.2:env.frame=Y0l) mU▸eW
 ·cases bS:Y0u with
  |none=>rfl
  |some o=>exact Yys λo' z=>cW (cA q z).symm
abbrev axf(n:Str)(hC:bP)(body:Ze)(bU:Y1):Y1:=∀(o a:aI)(ret:St)(ax:Nat)(apos pos ep np mD z2 ar z3:Pos),body=Z9E→Y8C→YB7→YnR→hZ (v 0) br hC o=true→hZ (v 1) br hC a=true→ZQK=Y27→bU
abbrev axg(n:Str)(hC:bP)(body:Ze):Y1:=∀bU:Y1,axf n hC body bU→bU
theorem Nz.body{n:Str}{hC:bP}{body:Ze}(X:Z5d)(bd:∃o fd,ZOe=YB∧ZVn∧ZOE∧hC=Yt8):axg n hC body:=by
 refine X _ λhV iJ eB fd o a ret ax apos pos ep np mD z2 qw z3 e8 ah xQ C7 hh iZ nN si=>?_;obtain⟨o',Ny,il,ck,gD,rfl⟩:=bd;have aJ:=YTC;subst aJ;have aC:=YRM;subst aC;exact(λO bA=>bA o a ret ax apos pos ep np mD z2 qw z3 ((Oz YTE).symm) xQ C7 hh iZ nN si)
theorem abC{fs:YV}(sW:YRt)(hh:∀a∈fs,YNY)(st:YaT)(up:Yom)(cR:ZYl)(lR:ZYn):a5 g aH s'∧Step YzY s2 aH s' aH:=by
 have kN:∀{h:Heap}{o:Obj}{es:Array DictEntry}{ep:Nat},YW5→YNx:=λhd k=>k.elim (λz=>YIP λvs z=>by replace z:=aQ hd z;cases z) λz=>z.elim λxs z=>z.elim λn z=>by
  replace hd:=bN z.1 hd;cases hd
 refine sL (wr:=YzY) sW (λb ah=>⟨YUt.1,YUt.2.1⟩) YO9 (λb o nb e=>st b o (hideAll_get _ e nb)) YO9 cR lR
 ·obtain⟨_,_,o,es,ep,aA,hd⟩:=YUt;exact⟨o,aA,kN hd⟩
 ·obtain⟨_,_,o,es,ep,aA,hd⟩:=YUt;obtain⟨eB,h'⟩:=up b o aA λvs q=>by replace q:=aQ hd q;cases q
  exact⟨_,h',kN (o:={o with slots:=eB}) hd⟩
theorem refused{B:Nat}{l:Y0C}{n:Str}{w:V}(K:YN)(Z:YB6)(ny:YNr)(C9:Ysr)(ar:YnB){vs:Yn}(aG:YjF)(l4:Z2U)(ae:YU)(dN:YH5)(bz:a9 s.heap vs YRo):
  codeAny Yu A (Y5x YPw YtE) (λr s'=>YoU∧axd g l mh s s') s:=
 EZ (k:=k+4) ny.2 K rfl Y2 aG ae bz λenv hC body s1 O I=>(ny.1.body I.1) _ λo a ret ax apos pos ep np mD z2 qw z3 cM xQ C7 hh iZ nN si=>by
  refine ix cM Y0K;intro aC4 aC5;have lk:=YQt;have axh:de g env hC.ns (ta C8.length YRo) mh s1:=cb I.2 I.6;have tY:=Yge;have eW:Yoj:=Z4Q;refine wpAny_execs_cons (wpAny_Try_except Yg);intro ahs aht ahu;refine wpAny_execs_cons (wpAny_mono (Q:=Y28) (E:=λev s'=>∃e,ev=Y43∧ZDC) (wpAny_Expr_any (aby (Q:=Y28) (args:=[w]) (f:=381) (C0:=405) K YC C7 xQ hh YwL I.4 I.5 axh ar Yy2 ?_ ZkF) (by refine gz I.6.1 ?_;rfl) rfl) Y0E λev s3 z=>?_)
  ·exact((qB Zg).1 K lk ZTg (aw (bc rfl YgE)))
  ·exact wpAny_call (codeAny_mono (C9 _ s4 xs I.4 tY eb (js.cons (I.6.ez mT) I.9 ((dN.step I.7).step mT)) bg) λr s' z=>by
    obtain⟨e,rfl,F⟩:=z;exact⟨e,rfl,F.inner (I.7.trans mT) I.9 (Z4Q:Yoj)⟩)
  ·refine YM;obtain⟨e,rfl,Cd⟩:=z;refine Cd _ λbF axi fs nU fJ tM tZ hh F=>?_;obtain⟨⟨a0,Nv⟩,up,cR,lR⟩:=F;refine ax (wpAny_looks_onW tY I.9 Nv λda axj abD=>Yg);intro ahE ahF ahG;refine wpAny_landsW axj λfG NA abE=>?_;have iG:=abC (s':={s3 with heap:=fG}) nU hh NA.1 (up.trans (abD.trans abE)) cR lR;have LC:=Y4e iG.1.1;refine bp λax=>Z.2 _ λawQ q N bs sn sub vQ col oL p4 dC du gs gZ q4=>?_;obtain⟨ob,wo,AK⟩:=NA.there;obtain⟨p,loose,rn,pq,T0⟩:=K.1.2;refine Yb;have abF:=T0.keeps (h':=fG) iG.1.1;refine Yg;intro aC6 aC7 aC8;exact wpAny_handleBy_cons (codeAny_handlers_test (Name_function_global I.6.1 (rq lk si) (loadGlobal_global (env:=env) (aj I.6.2 abF.g) (mg_of LC abF.g ny.3) (wpAny_excMatches_sub_self (LC _ _ q4) wo AK (rfl) (codeAny_handlers_suite (lands_againW NA λpd axk axl=>wpAny_execs_cons (wpAny_Return_some (wpAny_Constant_bool (⟨rfl,λO bA=>bA bF axi fs nU fJ tM tZ hh axk.1 (up.trans (abD.trans (abE.trans axl))) cR lR⟩))))))) ny.4)) (by intro q;cases q)
theorem axm{fs:YV}(aN:de g env ns r aH s2)(hh:∀a∈fs,YNY)(st:YaT)(up:Yom)(tup:eU s2.heap s'.heap):de g env ns r aH s':=by
 have cell:∀{a:Nat}{v:Y0F},s2.heap.IsCell a v→s'.heap.IsCell a v:=λ{a v}h=>by
  obtain⟨o,aA,hd⟩:=h;refine⟨o,st a o (hideAll_get _ aA Zic),hd⟩;obtain⟨_,_,o',es,ep,m7,u3⟩:=hh a hm;replace hd:=bN (c4 aA m7) hd;replace u3:=aQ hd u3;cases u3
 exact⟨aN.1,aN.2,aN.3,aN.4,aN.5.imp λm q=>⟨up.ns q.1,λi n v ak av aP=>Yaq λy z=>⟨z.1,Y9d tup⟩⟩,aN.6,
  λi n v ak av aP=>(aN.7 i n v ak av aP).imp λc q=>q.imp λy q=>⟨q.1,cell YG,YDt tup⟩,
  λn c h=>⟨ZBU.1,ZBU.2.imp λv z=>cell z⟩,aN.9⟩
abbrev abG(g:G)(env:Env)(ns:YH)(r:bG)(mh:ag)(s s':Shared)(ab:ag):Y1:=hr YAL (de g env ns r ab s') YRY Y0G
theorem axn{B:Nat}{c:bP}{n:Str}{w:V}{fn:Str}{p:Pos}{es:Ye}{E:Y8}(K:YN)(Z:YB6)(ny:YNr)(hm:br.gl.lookup fn=some YPw)(aR:c.cN.lookup fn=Y27)(ah:(fn==Y1l)=false)(hs:Y5e)(L:ZI)(C9:Ysr)(ar:YnB)(aG:YjF)(l4:Z2T)(mU:YGb)(ae:YU)(aN:Y4H)(h:ZOm){Q:Y8}(aF:∀s' ab,ZDD→Q Y0h s'):
  wpAny Yu A (eval (Y0Q (Y09 fn p) es [] pos) env) Q E s:=by
 obtain⟨x,aq,axo⟩:=K.1.4 fn _ hm;refine wpAny_Call_NameR (wpAny_mono (Ew (P:=λC5 s1=>C5=YPw∧s1=s) K.1 ae aN YMz ah aq ⟨axo,rfl⟩) (λC5 s0 z=>?_) Y0E);obtain⟨rfl,rfl⟩:=z;refine ix YDk (callWith_of (P:=Yrs) Yhx (keeps_K (K.2 fn 692 hm)) (uH lh (wpAny_mono (rp h aG ae aN) Zl2 Y0E)));refine YM;obtain⟨aH,y⟩:=y;obtain⟨vs,bg,em,ev⟩:=y.3;refine Yb;subst em;subst ev;refine⟨Y4e Y1v,wpAny_call (codeAny_mono (refused K Z ny C9 ar aG l4 y.1 (js.cons (aN.ez y.2) mU YYk) bg) λbI s' z=>YM)⟩;obtain⟨rfl,z⟩:=z;refine z _ λbF s3 fs nU fJ tM tZ hh abH up cR lR=>Yb;have iG:=abC nU hh abH up cR lR;have ru:Step Y1V s2 aH s' bF:=Step.unfresh (wr:=λa=>ZFU) ((fJ.weaken (Y:=λa=>Yjp∨ZFU) Y31).trans (iG.2.weaken λa aD=>Yz5 YBa λq=>⟨aD,q⟩)) λb ah=>Y2l
 ·exact aF s' bF ⟨iG.1,axm ((aN.ez y.2).ez fJ) hh abH up iG.2.4,(y.2.weaken Y31).trans ru,tM⟩
 ·obtain⟨bk,rJ,k9⟩:=yf q;replace k9:=aQ mU (bN (bR rJ) k9);exact YY (cu k9).symm
abbrev axp(g:G)(bU:Y1):Y1:=∀(hV:_)(iJ:_)(eB:_)(fd:_)(pre:_)(ret:_)(Dc:_)(f6:_)(t5:_)(ek:Pos)(cO:Pos)(ky:Pos)(kS:Pos)(lN:Pos)(s8:Pos)(s9:Pos)(Dd:Pos),ZOf→fd.body=Y65 (pre++Z9C)→ZVa→ZVb→rz FQ br YBd pre=true→ZYk→ZY4→ZY3→ZOG→bU
abbrev axq(g:G):Y1:=∀bU:Y1,axp g bU→bU
abbrev z5(g:G):Y1:=hR (axq g) ZUN
theorem abI{B:Nat}{c:bP}{n:Str}{w:V}{p yK:Pos}{es:Ye}{E:Y8}{Q:Y1n}(K:YN)(Z:YB6)(ny:YNr)(aR:c.cN.lookup YtP=ZaX)(hs:Y5e)(L:ZI)(C9:Ysr)(ar:YnB)(aG:YjF)(l4:Z2T)(mU:YGb)(ae:YU)(aN:Y4H)(h:ZOm)(aF:∀s' ab,ZDD→Q false s'):
  wpAny Yu A (isTrue (Y8O .Not (Y0Q (Y09 "_law_is_refused" p) es [] pos) yK) env whole) Q E s:=
 wpAny_isTrue_Not (wpAny_isTrue_value (axn K Z ny YC aR YC hs L C9 ar aG l4 mU ae aN h λs' ab b=>wpAny_truthy_bool (aF s' ab b)) (QP _ rfl))
theorem law_fin{B:Nat}{n:Str}(K:YN)(F:YZ)(Z:YB6)(ny:YNr)(D:G3 g)(De:Ync)(t6:Ymz)(Df:Ynb)(iL:Ymy)(z6:z5 g)(hs:ZUj)(af:∀v∈vs,YEA)(aE:Zd9)(aG:dd A (k+41))(l4:A.frames=YXI)(ae:YU)(bz:a9 s.heap xs [YQ4]):
  codeAny Yu A (Y5x Yc4 Znd) (λr s'=>YoU∧∃ab,YAL) s:=
 EZ (k:=k+40) z6.2 K rfl Y2 aG ae bz λenv hC body s1 O I=>by
  refine bp λax=>z6.1 _ λhV iJ eB fd pre ret Dc f6 t5 ek cO ky kS lN s8 s9 Dd e8 ah axr qm m2 lj iZ nN si=>?_;obtain⟨o',Ny,il,ck,gD,oy⟩:=I.1;refine Yb;have aJ:=YTC;subst aJ;have aC:=YRM;subst aC;have c1:=YeG;subst c1;subst oy;have lk:=YQt;have tY:=Yge;refine Yg;intro RW RX RY;refine Nx (wpAny_mono (Bm FQ (Qn:=λr m=>C1 m r) (Qr:=Y28) K I.3 m2 (avQ (k:=k) K F hs af aE ZgC) Y5K s1 I.4 I.5 I.6) Yrm Y0E);obtain⟨aH,z⟩:=z;have q:=z.3
  cases eA with
  |ret v=>exact YP9
  |brk=>exact q.elim
  |cont=>exact q.elim
  |next=>
   refine YM;obtain⟨dv,vU,LE⟩:=q;refine id LE _ λbX bl R tr most cQ u c jW s' S pl axs x0 fl e0 fC e9 kj ba L CZ fB=>Yb;have lE:cI dv 8=Y3J:=by refine aT fB ?_;rfl
   refine Yg;intro aC9 aDa aDb;refine wpAny_execs_cons (wpAny_If (wpAny_isTrue_BoolOp (wpAny_allTrue_Or_cons (abI (k:=k+35) K Z ny si axr lk (axa (k:=k+35) K D (aw6 (k:=k+35) K Z De t6 L.2.3 L.5) L.5) L.5 I.4 tY I.9 z.1 vU ((qB YfP).1 K lk iZ (aw (bc lE (aw (bQ (aw (cst (aw (cst ZBq))))))))) λs3 bF gg=>wpAny_allTrue_Or_cons (abI (k:=k+35) K Z ny si qm lk (aw7 (k:=k+36) K Z Df iL) (L.no gg.4).5 I.4 tY I.9 gg.1 gg.2 ((qB YfO).1 K lk nN (aw (bc lE (aw (bQ (aw (cst (aw (bQ (aw (cst (aS ⟨rfl,ZBq⟩)))))))))))) λs4 eK nd=>wpAny_allTrue_Or_nil ?_)))));have axt:C1 eK dv:=(λO bA=>bA bX bl R tr most cQ u c jW s' S pl axs x0 fl e0 fC e9 kj ba ((L.no gg.4).no nd.4) CZ fB)
   refine aa YDR (wpAny_execs_nil (wpAny_mono (Bm FO (Qn:=Y28) (Qr:=λv O=>v=Y0h) K I.3 lj (avK (k:=k) K F axt Zm) Y5K s4 I.4 nd.1 nd.2) (λeA s5 y=>?_) Y0E));obtain⟨i0,y⟩:=y;have q:=y.3
   cases eA with
   |ret v=>exact q.elim λw q=>⟨congrArg (λx=>(.ok (YS x):Result)) (show v=Y0h from(aV q.2 q.1:aK s5.heap v Y0h)),i0,y.1⟩
   |brk=>exact q.elim
   |cont=>exact q.elim
   |next=>exact YP9
def axu:S:=YS (Y6v (.op wO [v 0,bK 0]) (.op Sl [ZF abb YT ZQ 1 [] [.or (Ya avX (v 0) []) (.op avY YT)] (v 0),Y0x]))
def axv:YH:=["text"]
def t7(mh ab:ag):Y1:=Y0G∧∀b t a,YB1→Y1y≠YpE
theorem t7.refl:t7 mh mh:=⟨aB.refl,λb t a h e=>by replace e:=aQ h e;cases e⟩
theorem t7.new(h:Ypb){b:Nat}{l:Y3}(ah:Y1y=none):t7 mh (upd ab b Yb1):=⟨h.1.trans Y11,λc u a ao e=>by
 by_cases q:c=b
 ·replace e:=aQ Y6I Y5V;exact ct.noConfusion ZOw.2
 ·replace e:=aQ Y7e e;exact h.2 c u a ao e⟩
theorem t7.abs(h:Ypb)(ae:YAL):Y4B:=⟨Y5T,λb o e x aq=>Y7P b o e x (h.1 b x aq rfl),λa t o e=>by
  have z:=Y7Q a t o (h.1 a _ e rfl)
  cases o with
  |obj C vs=>
   obtain⟨d,u,ak,av,aP⟩:=z;refine⟨d,u,ak,?_,aP⟩
   cases q:Y6V with
   |none=>exact absurd av (h.2 d u a q)
   |some x=>exact cA (h.1 d x q rfl) av
  |_=>exact z,YFw,YFx⟩
theorem aU.forget{f:Nat}(h:aU g k f args mh λv ab=>Ypb∧Y8c):YSE:=λA s vs aG ae bz=>
 codeAny_mono Ykz λr s' z=>by
  cases r with
  |error e=>exact z
  |ok eA=>
   cases eA with
   |ret v=>
    obtain⟨ab,z⟩:=z;obtain⟨w,rw,l,q⟩:=z.3;exact⟨mh,l.abs z.1,⟨Z4,λa e=>YBw,z.2.3,YIO⟩,w,rw,q⟩
   |_=>exact z
theorem axw{cl:Calls}{e elt:E}{ifs:Yv}{t:dY}{own:Nat}(h:Zd r mh λv ab=>v.onStr False λn=>YNs∧∃P:Y1O,P YKY [] ab∧YmF):(bH cl (ZF abb [e] t own caps ifs elt)).1 r mh Q:=h
theorem axx(K:YN)(hf:yW g.K br 79 axv 1 axu=true){n:Nat}(az:ZQO)(h:Z6h):ZBw:=by
 refine aU.forget (gJ hf K rfl Y2 (cZ (aa7 (bQ (aw (bc rfl (aw (cst (aS ⟨rfl,lS (by rw[(aa9 (P:=λn=>ZFk) az YC YC YC YC:ZFk)];rfl) (bQ (aw (axw (bc rfl ⟨az,zh YKY Y9h [] (λm=>Y9M) Z0 (λm O=>trivial) rfl (λv aO acc m N O e cf=>?_) ZjK⟩))))⟩)))))))))
 ·subst e;have aJ:=YG9;subst aJ;refine t1 ⟨az,rfl,az,az,?_⟩;have:=cf m rfl;replace this:=aQ Y1U this;exact this
 ·subst e;exact λb1 ip=>⟨0,aw (bQ (aS λe2 d7=>⟨0,aS ⟨_,_,YTU,_,_,Yc,Zm,(t7.refl.new ip).new d7,h⟩⟩))⟩
def abJ(K:Frag):Bool:=((br.gl.take 25).all λx=>x.2.oi false λa=>(nsIn K mainGlobals x.1==ZaO)&&keepIn K YA)&&((br.eA.all λx=>classOk K x.1 x.2)&&((br.mt.all λx=>(br.eA.lookup x.1).elim false λl=>PK K x.1 l Y2K ZJ)&&((yu.all λn=>nsIn K mainGlobals YD4==Y3K))))
def Dg(K:Frag)(h:Heap)(n:Str)(v:V):Y1:=∃x,nsIn K mainGlobals n=YXG∧Y2F
theorem axy{l:List (Nat×α)}{n:Nat}{a:α}(h:l.lookup n=Y0l):(n,a)∈l:=by
 induction l with
 |nil=>cases h
 |cons x l ai=>
  replace h:=YFs;by_cases q:n=x.1
  ·replace h:=Yks;exact ZKl
  ·replace h:=Ykp;exact ZMB
theorem axz(h:abJ g.K=true)(X:ZOc)(T:ZmV)(lo:YEV)(eA:∀C,YGh=(br.eA.lookup C).getD [])(t6:Dg g.K g.h₀ "ORDERS" YcV)(cf:Dg g.K g.h₀ "_law_names" YcW):YN:=by
 refine ZdS;have EN:∀x∈Yht,∃a,x.2=YA∧nsIn g.K mainGlobals x.1=ZaO∧ZT3:=λx aq=>by
  have z:=ju bD x aq
  cases q:x.2 with
  |ref a=>
   replace z:=bN q z;exact dG z λbD bC=>⟨a,rfl,Y95,bC⟩
  |_=>replace z:=bN q z;exact nb z
 have abK:∀n v,YEh∈br.gl→YEh∈Yht∨YEh=Yyp∨YEh=Yyq:=λn v hm=>by
  have e:br.gl=Yht++[Yyp,Yyq]:=rfl;replace hm:=bL e hm;refine(iw hm).imp id λq=>(dz q).imp id λq=>YGA
 refine⟨⟨X,T,lo,λn v e=>?_,λn az=>eq_of_beq (ju hJ n az)⟩,λn a e=>?_,λC l e=>?_,λC n f e=>?_⟩
 ·rcases abK n v YHS with q | q | q
  ·obtain⟨a,aJ,aC,_⟩:=EN _ q;exact⟨_,aC,show aK g.h₀ _ v by refine aL (show v=YKP from aJ) ?_;rfl⟩
  ·have q:=YUe;exact aa q.1 (aa q.2 t6)
  ·have q:=YUe;exact aa q.1 (aa q.2 cf)
 ·rcases abK n _ YHS with q | q | q
  ·obtain⟨b,aJ,_,aC⟩:=EN _ q;exact aa Z89 aC
  ·exact Z8C
  ·exact Z8C
 ·exact⟨by refine aj (eA ..) YCa;rfl,ju bC _ (axy e)⟩
 ·have z:=ju d4 _ e
  cases q:Yhs with
  |none=>replace z:=ZPG;exact nb z
  |some l=>replace z:=ZPG;exact⟨l,rfl,z⟩
theorem o4.of{f:Nat}{n nm t0:Str}{hV:Value}{iJ:YeD}{eB:YQS}{fd:FuncData}{b:Ze}{np mD sj kQ jp:Pos}(h:YkZ)(ah:ZOD)(hd:ZFX=[YbH])(aM:j≤b.length)(bq:Ypa)(gl:YW2)(dn:Y5u)(fI:Yxu)(qp:Yxt):ZVr:=
 ⟨(λO bA=>bA hV iJ eB fd YSa t0 ax np mD sj kQ jp lP pos h ZEC (Oi aM) bq),gl,dn,fI,qp⟩
theorem z5.of{hV:Value}{iJ:YeD}{eB:YQS}{fd:FuncData}{b:Ze}{ret Dc:St}{f6 t5:Ye}{ek ky kS lN s8 s9 Dd:Pos}(h:ZOf)(ah:ZOD)(hd:ZFX=Z9C)(ak:ZVa)(av:ZVb)(m2:rz FQ br YBd YSa=true)(lj:ZYk)(iZ:ZY4)(nN:ZY3)(aE:ZOG)(axA:ZUN):z5 g:=
 ⟨(λO bA=>bA hV iJ eB fd YSa ret Dc f6 t5 ek cO ky kS lN s8 s9 Dd h ZEC ak av m2 lj iZ nN aE),axA⟩
theorem axB{ws:Y8Y}(I:Z4W):a9 h xs ZeD:=by
 induction I with
 |nil=>exact a9.nil
 |cons _ _ _ ai=>exact a9.cons Y4E ai
theorem axC{B:Nat}{n:Str}{ws:Y8Y}(K:YN)(F:YZ)(Z:YB6)(ny:YNr)(D:G3 g)(De:Ync)(t6:Ymz)(Df:Ynb)(iL:Ymy)(z6:z5 g)(bJ:g.h₀=s.heap)(aA:g.os=s.os)(cR:ZYs)(eW:s.heap.IsList sc Z1)(iV:Z4W)(aE:ws.length≤63):
  codeAny Yu callerA (Y5x Yc4 ⟨[YQ4],[]⟩) (λr s'=>YoU∧(∀b o,YN4)∧Y4P∧s'.gens=#[]) s:=by
 have m0:∀{b x},upd ZP sc YZb b=YQ→b=sc∧x=YZb:=λ{b x}h=>by
  by_cases q:b=sc
  ·replace h:=aQ Y6I (bN q h);exact⟨q,Y5r⟩
  ·replace h:=aQ Y7e h;cases h
 have ae:a5 g (upd ZP sc YZb) s:=⟨λb o e=>bJ▸e,λb o e x aq=>by refine dU ((m0 aq).2) ?_;rfl,λa t o e=>by
  obtain⟨rfl,q⟩:=m0 e;refine aL YJD ?_;exact⟨xs,eW,axB iV⟩,cR,aA.symm⟩
 refine codeAny_mono (law_fin (k:=0) K F Z ny D De t6 Df iL z6 Yc Y89 ZE1 ⟨Y2,Y2,rfl⟩ rfl ae (a9.cons Y7M a9.nil)) YsG
 ·obtain⟨i,_,e⟩:=YTz;rw[←e];rfl
 ·obtain⟨e,ab,vQ⟩:=z;exact⟨e,λb o q=>vQ.1 b o (bJ.symm▸q),vQ.5.trans aA,vQ.4⟩
end
namespace top
mutual
example:=⟨1,1^^^2⟩
noncomputable def x:=1
def tw10566303817854944747:=1
def tw2132572172534452064:=1
def tw521189772711767535:=1
def tw7004908240525062885:=1
def tw16343458017427171125:=1
def tw13975789587015594079:=1
def tw13790148587036721687:=1
def tw17777916959871664341:=1
def tw4292971450856153908:=1
def tw4093954228719232537:=1
def tw3002420042466126908:=1
def tw5729745157918896202:=1
def tw13350980499027453880:=1
def tw11937090404760201304:=1
def tw2031168391782037587:=1
def tw1880862225633710185:=1
def tw16472014719743838874:=1
def tw16028667926933547003:=1
def tw12857620731127765015:=1
def tw5832622951224121472:=1
def tw11674742375332813423:=1
def tw16395132551660934125:=1
def tw8902991000013608844:=1
def tw15383745732662625412:=1
def tw16638616803653814301:=1
def tw4800881394078881586:=1
def tw3859489544441860629:=1
def tw10845836190352346787:=1
def tw9424423819971481336:=1
def tw633961789465825759:=1
def tw8144437124540616393:=1
def tw5003038185343151314:=1
def tw2359081663065897023:=1
def tw15696502540806291029:=1
def tw4285722769654724837:=1
def tw9600408958321216034:=1
def tw16475489246628699285:=1
def tw17699669086793706834:=1
def tw15963853514978570729:=1
def tw17065051034280456960:=1
def tw9263980581303461995:=1
def tw4816845256146871343:=1
def tw17972762350735822155:=1
def tw3473794460555945794:=1
def tw6238113718227997979:=1
def tw8306190787968179902:=1
def tw18305725009010888211:=1
def tw16155562966025467390:=1
def tw10051035586589366927:=1
def tw16758545776426970997:=1
def tw11947344730461026976:=1
def tw14101459276281532819:=1
def tw11450281741638035136:=1
def tw11901713056382136138:=1
def tw1132053622761179395:=1
def tw9062527665077697634:=1
def tw2798059388790103831:=1
def tw5152142093285054322:=1
def tw7430941349426302570:=1
def tw9138502148844830937:=1
def tw9884640354352055407:=1
def tw10767748671353348481:=1
def tw12199141179112045411:=1
def tw10304773355574818972:=1
def tw15438081327507635518:=1
def tw17834423055500728160:=1
def tw18105441370092105985:=1
def tw1973894820069645125:=1
def tw5610427021895498081:=1
def tw16986057357562857111:=1
def tw1215964859883860923:=1
def tw15928221813122259498:=1
def tw18075333693788313813:=1
def tw14333863902384110815:=1
def tw8031701696515175598:=1
def tw11115634304656294934:=1
def tw17571156935954012580:=1
def tw16302189405121905674:=1
def tw2066615464823769034:=1
def tw8729440102579201365:=1
def tw10000151773839097830:=1
def tw14349018407424597674:=1
def tw11813432439359262595:=1
def tw3734097135821381683:=1
def tw208349408279511770:=1
def tw10281233747184212334:=1
def tw2173612809583765888:=1
def tw3546318007822382614:=1
def tw1877633103465907576:=1
def tw4300254131490508498:=1
def tw8100284476553614858:=1
def tw12268056824678507761:=1
def tw6537291488908412773:=1
def tw12744332421079344183:=1
def tw14854695082214763653:=1
def tw16665263771771415289:=1
def tw3848417338562682548:=1
def tw16970404784129113309:=1
def tw5818400907554657473:=1
def tw6979260324674004891:=1
def tw6174204621023576706:=1
def tw12564567286428519744:=1
def tw14626519734897933406:=1
def tw7215231071663758880:=1
def tw16051390350026224621:=1
def tw6998095514125026904:=1
def tw13790853850494499913:=1
def tw10141865158089822187:=1
def tw9201169265375263813:=1
def tw6957931927482091308:=1
def tw15363294889076991835:=1
def tw15944263967353428039:=1
def tw568811845648479667:=1
def tw12843083837792121615:=1
def tw9298004865840787183:=1
def tw14403426103380558615:=1
def tw9899525873056809382:=1
def tw11972609793873917069:=1
def tw7445900302777003939:=1
def tw1768993508556283445:=1
def tw10458966780877835800:=1
def tw2847590417677406291:=1
def tw2742400303160554442:=1
def tw13328034432266952855:=1
def tw16107959718729053754:=1
def tw16569698038338249665:=1
def tw5829728082504786859:=1
def tw4135012713791623128:=1
def tw12049451959530864647:=1
def tw1205300974904534110:=1
def tw5510773528456353374:=1
def tw3715125932595375261:=1
def tw7494371352935567935:=1
def tw12213897981784730479:=1
def tw8876392290816725482:=1
def tw1146653533374164296:=1
def tw3703912465997261676:=1
def tw15352428651415293685:=1
def tw5913804267149470210:=1
def tw8561882263934050757:=1
def tw17720068831039047267:=1
def tw13749626138748493868:=1
def tw2281374679490540812:=1
def tw2167284312673524829:=1
def tw5818288852761326319:=1
def tw1321889710237425297:=1
def tw3470174543416122611:=1
def tw10921953879312442153:=1
def tw14523424327352587759:=1
def tw2060887065158190251:=1
def tw14601770543051562241:=1
def tw9853195338022503825:=1
def tw13140326828786542489:=1
def tw4146725247025032527:=1
def tw665305837562067500:=1
def tw5621466946592860981:=1
def tw14523562576630935849:=1
def tw10235583464736365669:=1
def tw5301872647305120685:=1
def tw15776232127264149506:=1
def tw12051930166336148725:=1
def tw15968693567380849981:=1
def tw765726442734313137:=1
def tw5562675008611855350:=1
def tw16999540093264088150:=1
def tw14890431403400256923:=1
def tw5457094273938068427:=1
def tw12826770549299906837:=1
def tw10639208861176150562:=1
def tw12958658431935533636:=1
def tw10421932359841884010:=1
def tw17766975901093141987:=1
def tw14857305107324245799:=1
def tw6136537534720721980:=1
def tw8584911442712955328:=1
def tw15409862079407678573:=1
def tw3496054956826219835:=1
def tw17517157469200719435:=1
def tw10224447855012489660:=1
def tw13152269167729381717:=1
def tw14754742587949857976:=1
def tw13840699091746747764:=1
def tw1256497093593410785:=1
def tw12550150236506596709:=1
def tw12677639898438636530:=1
def tw17319556495123356376:=1
def tw6032999815510171314:=1
def tw14351324207326088087:=1
def tw16783146336373285882:=1
def tw10835283265360406922:=1
def tw7316192509656241662:=1
def tw6473416468275681636:=1
def tw8968183131928819226:=1
def tw2869683704186208260:=1
def tw4210572172408910077:=1
def tw13457364720955713546:=1
def tw5616788035221139965:=1
def tw8053444303433898870:=1
def tw9050338673998441335:=1
def tw8668963995733928498:=1
def tw17916003274494147217:=1
def tw8856036827258601485:=1
def tw16718771766187595327:=1
def tw11543662522584853678:=1
def tw12555419031055448435:=1
def tw630693125967462505:=1
def tw11605190798462803:=1
def tw7045792325866979410:=1
def tw17387093387449987635:=1
def tw7986717647494867238:=1
def tw16460906481078345535:=1
def tw3816116555587809094:=1
def tw1989182563660835524:=1
def tw14714200439050820607:=1
def tw10352046116051815951:=1
def tw17106287875927644401:=1
def tw2450537168617737364:=1
def tw6637577615778216765:=1
def tw12518509378295078899:=1
def tw17294258476364778673:=1
def tw5404525627408701881:=1
def tw16354441263580351735:=1
def tw4080974910205629970:=1
def tw10251817974646213263:=1
def tw4166898702477680596:=1
def tw11422294914085269258:=1
def tw14201795354222431000:=1
def tw4659864434596470047:=1
def tw4681080055648450332:=1
def tw10058022631926800244:=1
def tw4403984310399581989:=1
def tw14772137702585774951:=1
def tw15816288610224309924:=1
def tw9540439644754808120:=1
def tw5747984561631210852:=1
def tw13531296369470434214:=1
def tw15034522560655516900:=1
def tw10710663380935848053:=1
def tw1799893150791972194:=1
def tw3553350837345755414:=1
def tw1185908025640599726:=1
def tw13979802230140247096:=1
def tw17842157131605700252:=1
def tw9332288820214974120:=1
def tw13576554709588866993:=1
def tw2236196870325046451:=1
def tw12617241607615734789:=1
def tw15325875014381583208:=1
def tw18292218794286455172:=1
def tw8662787799961634674:=1
def tw16135901030857960676:=1
def tw10563270316943667521:=1
def tw17761583278045253839:=1
def tw14435649072803524601:=1
def tw1582896215224490779:=1
def tw7025352116649056337:=1
def tw12386880534626206653:=1
def tw7174278787114108814:=1
def tw7180339327169727898:=1
def tw11453699502411093152:=1
def tw2552208495280619736:=1
def tw9548116872026851275:=1
def tw15638574076032254683:=1
def tw13081510849750441748:=1
def tw4358691650285988494:=1
def tw2590530999271244942:=1
def tw17736152075714460416:=1
def tw3591528598837938010:=1
def tw15995848149167271659:=1
def tw16903241853203873244:=1
def tw13696825193920109314:=1
def tw1257889828201413521:=1
def tw5633613072895788440:=1
def tw5229758058594257539:=1
def tw5187232199162213377:=1
def tw10953701514260034837:=1
def tw8648676592023223974:=1
def tw2390321738916012542:=1
def tw11487323097842045720:=1
def tw17130227693291340670:=1
def tw3973854388979629583:=1
def tw4779602780188301861:=1
def tw9190772781397736551:=1
def tw5981735147869792024:=1
def tw12359816339013744056:=1
def tw17883202477362637966:=1
def tw3951318577535127796:=1
def tw3556474463313493613:=1
def tw841863616876674956:=1
def tw536803706853657370:=1
def tw6576394388358699284:=1
def tw17995580087040710135:=1
def tw1965548522181489884:=1
def tw1574084805800157497:=1
def tw18420180526964859443:=1
def tw16364859902786545777:=1
def tw12928604479176903323:=1
def tw11967060355109487576:=1
def tw9941808672574154494:=1
def tw1857844179572870231:=1
def tw11421662989391217233:=1
def tw10150841575051346588:=1
def tw626149923956320135:=1
def tw15276081835806400835:=1
def tw15579232420888848282:=1
def tw5534654762937032736:=1
def tw17138058910076776037:=1
def tw7594318647737432956:=1
def tw6644809715229568432:=1
def tw8620470675967494877:=1
def tw17884016658146628497:=1
def tw16777573669741918639:=1
def tw1336101871333357784:=1
def tw144367136773183799:=1
def tw6406678054242604970:=1
def tw4847227669690319864:=1
def tw1440417458981979506:=1
def tw8812595490529507511:=1
def tw3591354053504244187:=1
def tw9616216811378272708:=1
def tw13667679107411666030:=1
def tw15858202072961382086:=1
def tw127015856049100349:=1
def tw3551524653944770996:=1
def tw14575427462598034316:=1
def tw14040409179341469434:=1
def tw12516999980004156688:=1
def tw12538082347294821675:=1
def tw5168217950247624684:=1
def tw7408972850765985889:=1
def tw5473990105741250596:=1
def tw7607171497304258000:=1
def tw17679583741306439967:=1
def tw9132327515131269376:=1
def tw10209070706382725253:=1
def tw4233123507461079294:=1
def tw2354954774236826533:=1
def tw1598822999587244669:=1
def tw5322745007738618574:=1
def tw10009890631710923326:=1
def tw643457376458576901:=1
def tw7340839890413063115:=1
def tw6314114552039423761:=1
def tw989652509829861335:=1
def tw7275706230409431836:=1
def tw18034367746340020761:=1
def tw15440083727760513396:=1
def tw7223148041124273219:=1
def tw15089751137120053032:=1
def tw5950101519829242571:=1
def tw5653952116525803039:=1
def tw7555788285894137762:=1
def tw13001938054811645756:=1
def tw4935895127773558494:=1
def tw9557896550380895938:=1
def tw17751497582813778486:=1
def tw15923886597983379551:=1
def tw11473549551943233250:=1
def tw18208272045366686900:=1
def tw7473103189400481370:=1
def tw16241080443536127842:=1
def tw8748718884265239803:=1
def tw1530202735499281544:=1
def tw10633276546172441077:=1
def tw2059055850335726714:=1
def tw17227318624449818335:=1
def tw6986792338942341288:=1
def tw12918040259296373618:=1
def tw10253266929035873589:=1
def tw15747736695183898197:=1
def tw14860063538982701497:=1
def tw823367340911138357:=1
def tw10753131216933889316:=1
def tw16757837090424149463:=1
def tw7429595301164994342:=1
def tw7790451599684873713:=1
def tw5849966454334175603:=1
def tw10444611691960607353:=1
def tw7869916644634597583:=1
def tw8962291564290336180:=1
def tw17150486709102819674:=1
def tw11351109578956451069:=1
def tw4902697784085184246:=1
def tw413647377535720443:=1
def tw1545173250012000341:=1
def tw12956361015416726538:=1
def tw14590976145247705079:=1
def tw16933379398669410702:=1
def tw9752777256038598857:=1
def tw5961517122022696431:=1
def tw17948007346036011693:=1
def tw5067857007761187280:=1
def tw10762427235269020296:=1
def tw6789009648750997989:=1
def tw8399358099826777561:=1
def tw6788602826054735687:=1
def tw10787689851631817738:=1
def tw11059456471116068377:=1
def tw11342812077384292834:=1
def tw8436750204218394681:=1
def tw18178861665737757065:=1
def tw14209588739459627496:=1
def tw10107413807033572681:=1
def tw17437252320363192878:=1
def tw16624992058427758950:=1
def tw11745378153367087006:=1
def tw5447724677579432976:=1
def tw9772228475977979770:=1
def tw10318786220373567953:=1
def tw4525032463667256395:=1
def tw17016791072708204640:=1
def tw13210811007948171965:=1
def tw14316322753584727097:=1
def tw14892623766237675795:=1
def tw6641737377494409931:=1
def tw4514227296345098202:=1
def tw5074981210616091618:=1
def tw5742560610160955835:=1
def tw13803725551892312808:=1
def tw4774092121438658482:=1
def tw16973335206017075459:=1
def tw2394164270899882992:=1
def tw9018844094224823930:=1
def tw11646696383265305502:=1
def tw11572111180275214355:=1
def tw16967540883216359769:=1
def tw12688362620009017319:=1
def tw6237380944343322104:=1
def tw10476705880334391977:=1
def tw6841808551023361851:=1
def tw3421363785454103130:=1
def tw14926763537911541244:=1
def tw445280442123276167:=1
def tw854505233661587663:=1
def tw3193967093980051969:=1
def tw390228051793449378:=1
def tw9030478823816917489:=1
def tw18436455988228482853:=1
def tw17195100299048269596:=1
def tw1814990850196440121:=1
def tw13974102769003797688:=1
def tw15351123407209332890:=1
def tw163912900873485975:=1
def tw18124707381808123587:=1
def tw10733969131915476666:=1
def tw12902908538168188358:=1
def tw11123022429692411069:=1
def tw17100678534677701075:=1
def tw11942759146423067011:=1
def tw14020938971523290163:=1
def tw55607237529433431:=1
def tw9492194172350234375:=1
def tw6606002456939042033:=1
def tw5148066052227555432:=1
def tw7827768346438796966:=1
def tw10468760488827818621:=1
def tw4561158844671109056:=1
def tw12348931922313676524:=1
def tw10569558106764925795:=1
def tw6921242052802292327:=1
def tw1537663609479678028:=1
def tw13470704340632559980:=1
def tw8747589671234852327:=1
def tw5304958524431188055:=1
def tw5623062341943897314:=1
def tw10171357143586622507:=1
def tw2304277961439164623:=1
def tw12901981390630445424:=1
def tw14847000312772958493:=1
def tw17089418743838290962:=1
def tw2637607930223039120:=1
def tw9629323845154466031:=1
def tw14556967029381680528:=1
def tw18323861492468777637:=1
def tw11847229600219399345:=1
def tw16538046557401838581:=1
def tw9625230811557485409:=1
def tw2843268139238364847:=1
def tw17232785984132621337:=1
def tw15104300654673109495:=1
def tw12421218403726515252:=1
def tw17193377041912624992:=1
def tw7839819818863174658:=1
def tw7067367649517415538:=1
def tw5703560002966103744:=1
def tw9515872314998021679:=1
def tw1803252692605211445:=1
def tw5378089467632502573:=1
def tw4392121412701819569:=1
def tw18106397260369847346:=1
def tw14745097296005518818:=1
def tw1817466705482964078:=1
def tw17870716199811601467:=1
def tw12807726612057697314:=1
def tw1474440863725073504:=1
def tw8183734358853608566:=1
def tw1354547793471785592:=1
def tw16130458764514570213:=1
def tw814143626799000608:=1
def tw2124533867104040208:=1
def tw18212756339726134077:=1
def tw6675869478591958659:=1
def tw6268469946394325495:=1
def tw7216829507555701525:=1
def tw9426402191832578197:=1
def tw3614536281611639193:=1
def tw420310465032978019:=1
def tw81772323286808114:=1
def tw6715247557559319214:=1
def tw10232402366659447469:=1
def tw6075179600080939289:=1
def tw5588393278910953462:=1
def tw9268122148117206217:=1
def tw1164974070002119393:=1
def tw3732567466072663821:=1
def tw16755758252483531876:=1
def tw774531465980340394:=1
def tw12891618694953958263:=1
def tw2617585936269546182:=1
def tw16425556512254615334:=1
def tw10215241748254838605:=1
def tw10967717381065908690:=1
def tw6291879004882872706:=1
def tw15624169476678399799:=1
def tw17766973420474014916:=1
def tw15769138564818942050:=1
def tw11275794412542755984:=1
def tw13338891679902144755:=1
def tw14918657019616035990:=1
def tw7828815278074292299:=1
def tw17584133990204579701:=1
def tw14482614054744339948:=1
def tw1202009397182005451:=1
def tw72480060676809745:=1
def tw11042695089550079876:=1
def tw12745399379327383730:=1
def tw7567165803220911316:=1
def tw8932900932440574902:=1
def tw5636914816737475253:=1
def tw21731952007352024:=1
def tw2186587022839359540:=1
def tw8201774674864064608:=1
def tw2468074511696825768:=1
def tw18230934574480235579:=1
def tw15829578809876464852:=1
def tw7934642566933247029:=1
def tw24819456490665821:=1
def tw10094988914692631798:=1
def tw12626598181475660440:=1
def tw18154499757341482236:=1
def tw11630246761538892182:=1
def tw10911820082472526780:=1
def tw11603460709546013301:=1
def tw6991883505879560381:=1
def tw13221474131959919858:=1
def tw7493508265152591696:=1
def tw8525056165281598093:=1
def tw6741311807179157745:=1
def tw3117429252539467097:=1
def tw16986899552879100383:=1
def tw14003654322360851231:=1
def tw17163421694645828034:=1
def tw8139868229898414399:=1
def tw967226438668809532:=1
def tw14696954797618552970:=1
def tw7857265422502025840:=1
def tw7698775170400769924:=1
def tw1907660154640404895:=1
def tw3760678942998155436:=1
def tw4527597462181395907:=1
def tw4346845203115842823:=1
def tw15634951391265317273:=1
def tw2924937079759632899:=1
def tw9340465933825872828:=1
def tw3664489551972543855:=1
def tw17821042752888052904:=1
def tw5287847629270259684:=1
def tw7859129620812921826:=1
def tw5687464533073616199:=1
def tw10271058457205765910:=1
def tw1371426942132654659:=1
def tw7874819099193967623:=1
def tw2683003858826993221:=1
def tw8471810450847980311:=1
def tw15179066919290366404:=1
def tw10460277378970349390:=1
def tw9219320851941923796:=1
def tw5599315154066725791:=1
def tw14787960826969358254:=1
def tw18305795201310230813:=1
def tw147322065944840502:=1
def tw11955091422985450564:=1
def tw6054791319243155260:=1
def tw13787949552538515048:=1
def tw7996940896178408732:=1
def tw1899696750841701429:=1
def tw1451224616787749153:=1
def tw557710812052527154:=1
def tw18411503378437029776:=1
def tw5794392898259340163:=1
def tw12837838439475710570:=1
def tw6765633624655473283:=1
def tw5350250074180790176:=1
def tw14333562962749212843:=1
def tw17267502889317207895:=1
def tw3293628017222772198:=1
def tw4774366886348808681:=1
def tw7115024681683233388:=1
def tw1086406944103706513:=1
def tw9415862069046797001:=1
def tw2637391485397011969:=1
def tw12749150186008769383:=1
def tw12480099839092924133:=1
def tw2952970861071799623:=1
def tw9709091215978847155:=1
def tw2925770888664824250:=1
def tw13662078916789152284:=1
def tw11645164558420707849:=1
def tw10815754745809851965:=1
def tw12278840777136235853:=1
def tw4041124324431287800:=1
def tw13362638003374514776:=1
def tw15164046739070533756:=1
def tw12805097746503026508:=1
def tw9652109148130618321:=1
def tw17486517844360885448:=1
def tw13045462434218280821:=1
def tw9371748951443292765:=1
def tw1435030683328542103:=1
def tw16670747933352122998:=1
def tw3623494539569614636:=1
def tw16377383015023429762:=1
def tw6389275499217964917:=1
def tw11798232722194652121:=1
def tw17884187230794946231:=1
def tw3346173298411247277:=1
def tw12993393966586794319:=1
def tw11335141619044475746:=1
def tw11577714656221576102:=1
def tw9668818020323923091:=1
def tw11469050921845970758:=1
def tw3944961305390188921:=1
def tw4449022122412879137:=1
def tw13065438765151665677:=1
def tw14629704432273887227:=1
def tw4818350709159337306:=1
def tw17372380194061097867:=1
def tw13732469690578018927:=1
def tw16266046182406567281:=1
def tw18089494060836986335:=1
def tw9454247317032761345:=1
def tw4928546487708351017:=1
def tw3621918940183933423:=1
def tw10489881607586626982:=1
def tw2282897184154286639:=1
def tw6306196520602577528:=1
def tw8510952907010044682:=1
def tw1585130887533889684:=1
def tw14106752522041834521:=1
def tw3703398445531415504:=1
def tw3468775586254522200:=1
def tw7169288159835523660:=1
def tw10325756141927070261:=1
def tw14245419377967504630:=1
def tw678918350425922230:=1
def tw15615271280030099989:=1
def tw5837865806460918654:=1
def tw1270794633727948117:=1
def tw2376128004495336652:=1
def tw3037773497552543465:=1
def tw708343306878879310:=1
def tw1725240627391621855:=1
def tw181148784610335781:=1
def tw10611451711877044877:=1
def tw6568417982441279615:=1
def tw12679584841122526521:=1
def tw11508622219647577818:=1
def tw6233042368526273865:=1
def tw12414713328683383062:=1
def tw17082045657299507438:=1
def tw16807963973002768947:=1
def tw727307439833339266:=1
def tw11987071251158246107:=1
def tw9832445447684746564:=1
def tw3319630179170076826:=1
def tw2678565742616173392:=1
def tw12190293046932091602:=1
def tw7562737545421388992:=1
def tw5477201982944387824:=1
def tw15894399724522964487:=1
def tw17450095120196383901:=1
def tw1709199611977835394:=1
def tw18271657757478874682:=1
def tw6203877030728667555:=1
def tw248565305256097682:=1
def tw8675782371341395520:=1
def tw14075600393017398815:=1
def tw644864728859497441:=1
def tw13993335479688991411:=1
def tw17538161773979340070:=1
def tw10676664066552362832:=1
def tw111691494086097341:=1
def tw2016369878847939774:=1
def tw11059353608110916879:=1
def tw2150884806941865527:=1
def tw2058190040818037504:=1
def tw17761709516150232866:=1
def tw1906309590840183704:=1
def tw11249482418953624010:=1
def tw8392365084188528307:=1
def tw6387474787400901895:=1
def tw7883390658026711479:=1
def tw18344339150985130189:=1
def tw14060043875824209832:=1
def tw6183769204509311085:=1
def tw4249365812383928835:=1
def tw7247392176347009764:=1
def tw14777595985564153256:=1
def tw8115435876871822822:=1
def tw12342553728348601122:=1
def tw8011807031885261350:=1
def tw15622167095645028090:=1
def tw13806626879373084626:=1
def tw16042653630311630441:=1
def tw5589416550623021731:=1
def tw14458970266021412040:=1
def tw5425060295598968029:=1
def tw2539124807921467641:=1
def tw10184159751828612529:=1
def tw17642919472384952681:=1
def tw2532183162996157512:=1
def tw5689479814868526312:=1
def tw16638610986525751341:=1
def tw17371567254511631791:=1
def tw11291356716268990623:=1
def tw66310420103869109:=1
def tw18274995345050041057:=1
def tw7281760429439090794:=1
def tw11690754622375127729:=1
def tw2353124483301268101:=1
def tw2991829568394987824:=1
def tw14111937268191799636:=1
def tw10564525096636218562:=1
def tw6911682622678553293:=1
def tw16980858752268031258:=1
def tw7360935395897355803:=1
def tw6803894279707003575:=1
def tw5201694898761079571:=1
def tw5438275306746938365:=1
def tw10326944404527208860:=1
def tw13961821577040325202:=1
def tw7263703203146111841:=1
def tw944256720087311168:=1
def tw582400093706935869:=1
def tw4236240178284381885:=1
def tw11757250957258130239:=1
def tw17728291064479995148:=1
def tw12605521951455887554:=1
def tw17178499301802908508:=1
def tw41243585837503738:=1
def tw4045333470462317298:=1
def tw14006013090955022521:=1
def tw14646490398715655967:=1
def tw7029149830054407918:=1
def tw5973563974846798288:=1
def tw10412626644107779628:=1
def tw4457733891603311482:=1
def tw16126187623623717532:=1
def tw16378320045749876460:=1
def tw5398779268524384093:=1
def tw9931072437597627175:=1
def tw6601750361064331753:=1
def tw5015957572073571753:=1
def tw5088212886959746038:=1
def tw10629663929873110423:=1
def tw5560903506634101966:=1
def tw9134760507029458494:=1
def tw14433615092557509415:=1
end
end top
set_option Elab.async true
@[reducible] noncomputable def oW (w:World) (K:Frag) (s:Shared):Mine.Internal.G:=⟨PySem.Challenge.rw_pq0095_01.row.prog,w,K,s.heap,s.os,λC=>(br.eA.lookup C).getD []⟩
set_option maxHeartbeats 0 in
theorem top:PySem.Challenge.rw_pq0095_01.Holds:=by
 w_on;o_law;k_head;(case hw=>w_witness2)
 k_fill
 intro w aDc hY rn pq G Y hL o pm cd doc aDd aDe aA hd aa8 iL abL cR args vals as axD axE tT axF xG;have NB:=kIn_of Y;refine Ground.open G ?_;intro T B D TE TW;clear hd iL aA aa8
 wrow_args axD axE tT axF xG
 rename_i aDf _ _ _ _ _ _ sc xs _ eW _ _ _ iV _ hlen _;refine enter_call ?_;clear B D TE TW;have axG:hL=697:=by
  have:=mg_of (n:="law") (v:=.ref 697) NB T.g (by first | k_is | (dsimp only;k_is));rw[show rn _=_ from abL]at this;exact N6 (cu this)
 subst axG;clear abL;have bJ:abJ (top.heap_1_39 w.params)=true:=by kernel_rfl
 have lo:∃o,hY.heap.get? sysModules=some o:=by
  obtain⟨oB,hm,_⟩:=(T.seer (by kernel_rfl)).mods;obtain⟨o,_,_,aA,_⟩:=hm;exact⟨o,aA⟩
 have tup:∀{n:Str}{a:Nat}{xs:List Value}{ep:Nat}{vs:List V},nsIn (top.heap_1_39 w.params) mainGlobals n=some (some (.ref a))→(top.heap_1_39 w.params).lookup a=some (mM xs ep)→a9 hY.heap xs vs→hv vs=true→Dg (top.heap_1_39 w.params) hY.heap n (.tup vs):=
  λak av da fG=>⟨_,ak,fG,_,_,rfl,⟨_,NB _ _ av⟩,da⟩
 have t6:Dg (top.heap_1_39 w.params) hY.heap "ORDERS" (.tup [.str 30,.str 31,.str 25]):=
  tup (by first | k_is | (dsimp only;k_is)) (by first | k_is | (dsimp only;k_is)) (a9.cons (aK.ofStr rfl _) (a9.cons (aK.ofStr rfl _) (a9.cons (aK.ofStr rfl _) a9.nil))) rfl
 have cf:Dg (top.heap_1_39 w.params) hY.heap "_law_names" (.tup [.str 32,.str 28,.str 11,.str 16]):=
  tup (by first | k_is | (dsimp only;k_is)) (by first | k_is | (dsimp only;k_is)) (a9.cons (aK.ofStr rfl _) (a9.cons (aK.ofStr rfl _) (a9.cons (aK.ofStr rfl _) (a9.cons (aK.ofStr rfl _) a9.nil)))) rfl
 have K:bh (oW w (top.heap_1_39 w.params) hY) br:=by
  exact axz bJ NB ⟨_,_,_,_,topRead_of T⟩ lo (λO=>rfl) t6 cf
 have F:b7 (oW w (top.heap_1_39 w.params) hY):=by
  exact⟨λ{k mh Q n}az h=>axx K (by kernel_rfl) az h,by kernel_rfl⟩
 have Z:o3 (oW w (top.heap_1_39 w.params) hY) 72 47 37 25:=by
  refine⟨⟨λO z=>z _ _ _ _ _ _ _ _ _ _ _ _ _ _ _ _ _ _ _ (by first | k_is | (dsimp only;k_is)) rfl rfl ⟨rfl,rfl,rfl,rfl,rfl,rfl,by decide⟩ rfl rfl (by first | k_is | (dsimp only;k_is)) (by first | k_is | (dsimp only;k_is)) rfl rfl rfl rfl rfl rfl rfl rfl rfl,⟨_,_,_,by first | k_is | (dsimp only;k_is)⟩,?_,rfl⟩,λO z=>z _ _ _ _ _ _ _ _ _ _ _ _ _ _ (by first | k_is | (dsimp only;k_is)),⟨_,_,by first | k_is | (dsimp only;k_is),rfl⟩,⟨_,by first | k_is | (dsimp only;k_is),rfl⟩,by decide,?_,?_,?_,?_,?_⟩
  all_goals (first | k_is | (dsimp only;k_is))
 have ny:z4 (oW w (top.heap_1_39 w.params) hY) 72 "RuleFault":=by
  refine⟨λO z=>z _ _ _ _ _ _ _ _ _ _ _ _ _ _ _ _ (by first | k_is | (dsimp only;k_is)) rfl rfl rfl rfl (by kernel_rfl) (by kernel_rfl) rfl,by kernel_rfl,by first | k_is | (dsimp only;k_is),rfl⟩
 have D:G3 (oW w (top.heap_1_39 w.params) hY):=by
  refine⟨λO z=>z _ _ _ _ _ _ _ _ _ _ _ _ _ (by first | k_is | (dsimp only;k_is)) rfl rfl rfl rfl (by kernel_rfl) (by kernel_rfl) (by kernel_rfl) (by kernel_rfl),by kernel_rfl⟩
 have De:o4 (oW w (top.heap_1_39 w.params) hY) 388 72 "RuleFault" "name" 1:=by
  exact o4.of (by first | k_is | (dsimp only;k_is)) rfl rfl (by decide) (by decide) (by first | k_is | (dsimp only;k_is)) rfl rfl rfl
 have Df:o4 (oW w (top.heap_1_39 w.params) hY) 381 72 "RuleFault" "kind" 6:=by
  exact o4.of (by first | k_is | (dsimp only;k_is)) rfl rfl (by decide) (by decide) (by first | k_is | (dsimp only;k_is)) rfl rfl rfl
 have z6:z5 (oW w (top.heap_1_39 w.params) hY):=by
  exact z5.of (j:=11) (by first | k_is | (dsimp only;k_is)) rfl rfl rfl rfl (by kernel_rfl) (by kernel_rfl) (by kernel_rfl) (by kernel_rfl) rfl (by kernel_rfl)
 have t6:mZ (top.heap_1_39 w.params) 388 BZ 2 (t2 "RuleFault" "name" 1 G0)=true:=by kernel_rfl
 have iL:mZ (top.heap_1_39 w.params) 381 rP 2 (t2 "RuleFault" "kind" 6 G1)=true:=by kernel_rfl
 have Y:=axC K F Z ny D De t6 Df iL z6 (s:=hY) (by rfl) (by rfl) cR eW iV (by first | exact hlen | exact hp hlen | exact h9 hlen | omega);refine codeAny_mono Y λr s' z=>?_;obtain⟨rfl,f3,fz,mY⟩:=z;refine⟨.inl ⟨_,_,_,rfl,?_,ReadsW.bool true,?_,?_⟩,.of_keep f3,fz,.of_eq mY⟩
 ·exact λcls=>rfl
 ·first | wrow_post | exact postW_of (by wrow_shape) (by wtm_val) (by str_meet;first | done | w_fin)
 ·exact λO=>⟨lC,λa h=>absurd h cS⟩
end Mine.Internal
theorem PySem.Challenge.cw_pq0095_01_holds : PySem.Challenge.rw_pq0095_01.Holds :=
 Mine.Internal.top
