import PyProof.Rows.All
import Wide.All
import OpenK.AllK
import Wide.FinOn
import KE.KIntText
import KE.IntTextLaws
import PyProof.IsiPairs
import PyProof.IsiHeapPairs
import PyProof.IsiNone
import PyProof.TupleOfSeq
import PyProof.ListCopy
import PyProof.CallStr
import PyProof.StrLaws
import PyProof.StrCalls2
import PyProof.Rows.StrJoin2
import PyProof.StrLawsTight
import PyProof.Rows.StrItems
import PyProof.StrLawsChain
import PyProof.DictRoadsH
import PyProof.DictCalls
import PyProof.IsRules
import PyProof.FString5
import PyProof.Rows.RuleC_int
import PyProof.P3In
import PyProof.Rows.TupTab
import KE.KEqDict
import PyProof.ListRange
import KE.KDictOf
import PyProof.AttrMissHeap
import PyProof.ExcBaseAll.Exception
import PyProof.ExcClass3
import PyProof.FactsAll.list_2
import PyProof.FactsAll.tuple_2
import KE.KSortTup
import KE.KDictList
import PyProof.ExcAttrAll.Exception
import PySem.Challenge.RW_pc0380_01
open PySem PySem.W PyProof.Rows PySem.Calls
set_option Elab.async false
set_option linter.all false
set_option bootstrap.genMatcherCode false
set_option tactic.hygienic false
set_option backward.match.sparseCases false
set_option maxRecDepth 100000
set_option genSizeOf false
set_option genCtorIdx false
set_option maxHeartbeats 0
open PySem renaming wpAny_bind→aa,wpAny_pure→ae,Value→am,Shared→aO,Addr→bQ,Around→bY,model→cr,Heap→ir,wpAny_holding→eG,Str→fw,Scope→gK,starEach→j8,sizeLine→lH,Stmt→lI,wpAny_execs_cons→Yd,wpAny_standAt→Ye,wpAny_newObj_type→Yg,mainGlobals→Yi,wpAny_mono→Yj,wpAny_loadPart_at→Yn,wpAny_callSpecial?_slot→Yp,wpAny_call_entry→Ys,backTo→Yx,wpAny_field→Yy,NameKind→YB,sysModules→YD,wpAny_execs_nil→YJ,wpAny_assignInOrder_more→YS,Env→YY,Pos→YZ,seqItems?→Za,letOwnedTupleGo→Zb,codeAny_builtin→Zc,wpAny_dictEntries→Zd,codeAny_call_builtin→Ze,FuncData→Zf,wpAny_isSubtype_exc→Zl,OsState→acj,compareOp→Zn,wpAny_typeNameOfWhole_keyiter→Zu,wpAny_pyIter_tuple→Zw,tupleKind_room_in1→Zx,World→aaZ,wpAny_richCompare_same_room→ZD,wpAny_setField→ZJ,wpAny_call→ZK,assignEach→ZL,seqIndex?→ZO,checkBuiltinCall→ZP,wpAny_typeNameOf_keyiter→ZV,swapsWithSole→ZW,plainId_quiet→ZX,methodCallPos→ZY,cLine→ZZ,attributeBase→Z0,wpAny_setField_rec→Z3,pyNext→Z4,IsPair→Z7,cellsFrom→Z9,Arguments→aab,wpAny_seqItems→aag,wpAny_Return_some→aah,assign→aaj,plainObj_wpAny_Assign_Attribute→aan,wpAny_notOrdered_dict→aap,wpAny_rule→aar,pyIter→aas,lastMarks→aat,builtinsNs→aau,PlainL→aav,ClassData→aay,wpAny_attempt→aaz,Comprehension→aaA,wpAny_of_eq→aaB,keywordEach→aaD,wpAny_dictEpoch→aaK,atKey→aaO,wpAny_typeOf→aaQ,instanceDict→aaR,Flow→aaV,getMethod→aaW,typeIs_str→aaY,getItem→aa8,IsRangeIter→abc,wpAny_assignInOrder_none→abe,Result→abf,wpAny_isInstance→abx,binaryOp→abz,DictEntry→abF,wpAny_load→abJ,Tok→BY,wpAny_loadPart'→abO,importedModules→ade,wpAny_loadPart→ab4,wpAny_loadName_local→ab5,richCompare→ab6,keeperOf→ab8,firstArgMember→ab9,constantsAlone→aca,backToKw→acb,Operator→acd,IsZip→ace,Program→aci,Sem→Xm,wpAny_Name→acv,wpAny_Expr→acw,typeLookup→acx,storedH→acI,spliced→acJ,fresh→acL,evalEach→acM,CmpOp→acR,codeAny_call_def→acX,Keeper→ac4,slicePicked→ac7,sliceBounds→ac8,passOn→adg,getAttr→adk,Keyword→adn,BindsTo→adp,methodCallForm→adq,call_meets→adr,cStatics→ads,IsPart→adx,wpAt_of_wpAny→adz,wpAny_onRaise→adD,wpAny_newList→adE,assignInOrder→adF,strValues→adP,noteFrame→adQ,execs→adR,Draws→adX,wpAny_mkText→adZ,wpAny_allTrue_And_cons→ad0,isTrue→ad3,compareChain→ad4,wpAny_storeName_local→ad9,wpAny_isOneOf_keyiter→aea,wpAny_allTrue_Or_cons→aeb,wpAt_bind→aec,wpAny_updateSeq_pair→aeo,wpAny_throw→aep,wpAny_letTemporaryGo→aeq,wpAny_letGo→aer,wpAny_alloc→aes,strIterType→aet,sizeLine_eq→aeu,notAStandIn→aew,field→aex,GenState→aeH,frameOf→aeM,wpAny_pyIter_range→aeT,wpAny_dictSet_heap→aeU,sliceRange→aeW,markedEach→aeY,isInstance→ae0,getattributeRaised→ae1,PyData→ae3,wpAny_truthy_bool→ae7,wpAny_sequenceKey→ae8,wpAny_pyIter_list→ae9,slot_list_setitem→afa,setItem→afb,setAttr→afc,operate→afe,getMethod_builtin→aff,wpAny_madeBy_exc→afp,wpAny_items_cons→afq,wpAny_forIn_list→afr,treeTable→afs,swapsWith→aft,slicePick→afu,wpAny_ite_split→afL,size_of_entries→afM,Fin→afP,wpAny_newTuple→agf,wpAny_fieldsOf→agg,refuseLoop_ref→agi,isSubtype_stop→agn,evalArgs→ago,compEnvC→agp,wpAny_handled→agw,comprehension→agx,bltViewBooted→agu,ExceptHandler→agB
open PySem.Str renaming ofString→ac
open PySem.Heap renaming get?_push_of_some→ag,get?_push_size→ct,lt_size→cR,SameBut→fq,get?_none_of_le→ku,get?_update_self→Yv,size_push→Yw,get?_update_other→YF,IsTuple→acl,ExtBut→acB
open _root_.List renaming mem_append_right→aq,mem_cons_self→aW,mem_append_left→bo,length_append→bv,mem_cons_of_mem→bG,append_nil→bP,length_map→bR,length_cons→cx,casesOn→cz,append_assoc→cJ,length_nil→dv,lookup_cons→dR,getElem?_append_right→eM,not_mem_nil→eP,getElem?_append_left→eQ,getElem?_eq_getElem→fL,mem_of_getElem?→fU,mem_cons→j3,map_cons→kR,map_append→mf,getD_eq_getElem?_getD→Yc,getElem?_map→Yt,range→YE,zip_cons_cons→YK,eraseDups_cons→YU,map_map→Y7,take_of_length_le→Zm,getElem?_eq_none→Zv,length_take→ZE,all_eq_true→ZF,nodup_nil→Z2,length_singleton→aac,length_drop→aaf,forall_mem_cons→aam,forIn_cons→aaq,filterMap_cons→aax,getElem?_take→aaG,exists_cons_of_ne_nil→aaH,drop_eq_getElem_cons→aaP,size_toArray→aaT,nodup_append→aaU,filterMap_cons_some→aaX,getElem_mem→aa1,drop_length→aa2,getElem?_set_self→abb,nil_append→abi,set_append_right→abq,eq_nil_or_concat→abr,cons_lt_cons_iff→abt,concat_eq_append→abv,getElem?_set_ne→abH,ext_getElem?→ack,find?_cons→acG,forIn_nil→acU,drop_zero→acV,drop_eq_nil_of_le→adm,zip→adA,lookup→adB,take_succ_cons→adL,map_congr_left→adM,zip_nil_right→adU,range'_succ→aek,getElem_inj→ael,cons_append→aem,zip_append→aeD,mem_append→aeE,append_inj→aeF,drop_left→aeO,map_nil→afo,filter→afA,take→agt
open _root_.Option renaming casesOn→aL,bind_some→cH,none→YO,map_some→ZM,map→acE
open _root_.Nat renaming le_trans→bL,le_add_right→ef,lt_of_lt_of_le→e9,lt_of_le_of_lt→fc,ne_of_lt→jr,le_of_not_lt→js,succ_le_succ→j5,le_refl→kG,add_le_add_left→lP,le_of_eq→Yh,lt_irrefl→Yl,add_le_add→Yo,le_antisymm→Yq,zero_le→YC,le_of_lt→YG,add_sub_cancel_left→YT,ne_of_gt→YW,le_succ→Y9,mul_le_mul_left→Zg,min_le_right→Zj,lt_of_not_le→Zk,le_of_lt_succ→ZB,add_le_add_right→ZC,lt_succ_self→ZG,add_comm→ZH,casesOn→ZU,sub_self→Z5,lt_of_succ_lt_succ→Z6,le_of_ble_eq_true→aae,sub_le→aak,not_lt_zero→aaw,zero_add→abg,le_of_add_right_le→abh,min_le_left→abo,le_add_left→abp,sub_eq_zero_of_le→abC,succ_pred→ab1,add_assoc→ab2,le_succ_of_le→acp,succ_ne_self→acy,min_eq_left→acO,succ→ac2,mul_le_mul→ac3,succ_pos→adu,le_of_succ_le_succ→adv,eq_zero_of_not_pos→adw,sub_le_of_le_add→adH,mul_one→adI,mul_le_mul_right→adJ,mul_add→adK,sub_lt_sub_left→adT,lt_of_le_of_ne→ad8,zero_lt_of_lt→aef,succ_le_of_lt→aeg,lt_succ_of_lt→aei,ble→aej,succ_add→afv,sub_zero→afw,mul_zero→afx,lt_trans→afy,lt_or_ge→afz,sub_lt→agr
open _root_.Int renaming natCast_nonneg→cu,lt_trans→YR,toNat_of_nonneg→Zh,lt_of_le_of_lt→Zp,lt_of_lt_of_le→ZS,toNat_natCast→Z8,toNat_sub→aa0,max_eq_right→aa6,le_trans→abj,le_of_eq→abk,add_zero→abl,sub_nonpos_of_le→abN,add_sub_cancel→acf,le_of_lt→acq,toNat→acz,min_eq_left→acP,le_antisymm→acQ,lt_irrefl→adj,sub_nonneg_of_le→adN,toNat_of_nonpos→adV,zero_add→afB,sub_zero→afC,ne_of_gt→afD,ediv_one→afE
open PySem.W.Fast renaming te14364793385576792824→aa3,te14082659384304107361→aa4,te5923862056798008813→aa9,te4187177175401517315→aba
open PySem.AutoSeq1 renaming wpAny_loadPart'→dP,sub_tuple_tuple→afj,sub_tuple_list→afk,sub_list_tuple→afl,sub_list_list→afm,idx_int→afn
open PySem.Expr renaming casesOn→ge
open PySem.Value renaming ref→gH,none→Yr,type→aaE,isStrOf→abQ,builtin→abR,isInt→adt,str→ad6,isStr→afh
open _root_.Bool renaming and_eq_true→gT,casesOn→iN,false_ne_true→jG,noConfusion→j4,false_eq_true→Y1,not_eq_true'→ZA,and_eq_true_iff→abI,or_eq_true→acH,or_eq_false_iff→adC,not_eq_false'→adY,eq_iff_iff→aeJ,false_and→aeR,and_false→aeS,true_and→ae4,or_false→ae5,not_true→ae6
open PySem.SeqAt renaming shaped→iI,EqAt→abV,canLay_of_shaped→adf
open PySem.Heap.SameBut renaming update→j7
open _root_.Option.some renaming inj→kH
open _root_.Array renaming length_toList→Yk,getElem?_eq_getElem→Y5,getElem?_toList→Zt,size_push→aao,getElem?_eq_none→aa7,size_setIfInBounds→ac6
open _root_.Prod.mk renaming inj→Ym
open PySem.Builtin.Range renaming rangeSize→Yu,small→afK
open PySem.PyData renaming eqv→Yz,canLay0→YX,canLayAll0→Zr,depth→ZT,depthAll→aa5,keyHash→acD,eqvAll→aeB,tuple→aeN
open PySem.Builtin.SmallTypes renaming nextOf→YA,ownedTupleHandOut→aaI,calledThroughType→aaJ,ownedTupleIsFree→aaN
open PySem.NameKind renaming free→YH,cell→YI
open PyProof.Rows renaming seqObj→YL,get?_update_seq→abP,slicePart_none→abW,mirror_perm→ab7,markedEach_of_false→acn,listUpdate_at→act,bindName_→acY,slot_tuple_getitem→aeV,tupleItemsOf_→afQ,sub_int→afR,slicePart_int→afS,pow_int_small→afT,notIn_str→afU,neg_int→afV,mul_int→afW,mod_int'→afX,len_tuple→afY,len_str→afZ,join_list→af0,in_str→af1,getItem_tuple→af2,getItem_str→af3,floordiv_int→af4,assign_Name→af5,add_str→af6,add_int→af7
open PySem.W renaming dictOf→YM,instObj→Y2,findIn→Zi,boot_heap→aby,Ground→abm,looks_findIn→abK,emptyDict→acg,looks_clsIn→ac9,Frag→adO,ownOf→aed,openGood→aev,WRecords→aez,Looks→aeC,readsAllW_cons_inv→aeX,readsAllW_nil_inv→afd,clsIn→afg,kas_sort→agl,kas_desc→agm
open PySem.Obj renaming mapSeq→YN,data_mapFields→Zo,isFreed_of_fields→aad,mapFields→ab0,cls_mapFields→aee,putName→af8
open PySem.Around renaming under_plainId→YQ
open PySem.F renaming slot_dict_keyiterator_next→YV,excBase_Exception→Y3,slot_tuple_iterator_next→Y4,plain_extend_loop→ZQ,slot_str_split→ZR,slot_zip_next→Z1,args_str_split_2→aaM,entry_str_split→aaS,args_dict_keyiterator_next_1→abA,entry_dict_keyiterator_next→abG,args_tuple_iterator_next_1→abM,entry_tuple_iterator_next→abS,plainAttrs_list→acS,args_zip_next_1→acT,slot_dict_iter→acZ,plainAttrs_str→ac0,entry_zip_next→ac1,sub_dict_dict→ada,slot_dict_get→adb,slot_dict_ne→adh,slot_dict_eq→adi,entry_extend_loop→aen
open _root_.ForInStep renaming yield→Y0
open PySem.Builtin.Dict_items renaming ownsTuple→Y6
open _root_.Int.Internal.Linear renaming Context→Y8,Poly→abD,Expr→abE
open PySem.Builtin.Slice renaming slicePlaces→Zq,sliceAdjust→aal,sliceApplied→abY,slicePartIndex→afI,sliceFields→afJ
open PySem.Builtin.Dict renaming dictSlotArgs→Zs,updateFrom→acs,samePairs→acu,showsAll→acC,selfAndRest→agc,pairItems→agd,dictSlotNone→age
open PySem.Builtin.Str renaming strSliceIndices→Zy,occurrences→aaF,subAt→abT,partsBetween→acr,strKind→acW,occurrences→aeA
open PySem.Builtin.Tuple renaming tupleExact→Zz,tupleIsExact→abX,tupleItemsOf→afG,tupleCompareSizes→afH
open PySem.MeetsSeq3 renaming plain_eq_loop→ZI,entry_eq_loop→acF
open PySem.Calls renaming Name_function_global→ZN,spliced_cons→aai,spliced_nil→aaC,call_len_list→ach,loadGlobal_global→acK,loadGlobal_builtin→aeZ
open PySem.Builtin.List renaming listExtendWith→aaa,listSameRef→acm,listUpdate→aga,listSubscript?→agb
open PySem.WalksT renaming enumerateD→aaL
open _root_.Char renaming toNat→abd
open PySem.Shared renaming heap→abn
open _root_.List.cons renaming inj→abu
open PySem.BoolOp renaming casesOn→abw
open PySem.Challenge renaming pw_pc0380_01→abB,rw_pc0380_01→ae2
open PySem.W.Looks renaming of_pure→abU
open PySem.Operator renaming casesOn→abZ
open PySem.Code renaming quiet_builtin→ab3
open _root_.Int.ofNat renaming inj→acA
open PySem.W.WData renaming list→acN
open PySem.EntryCells renaming newEntry→ac5
open PySem.Heap.DictOfH renaming new→adc
open _root_.Int.Internal.Linear.Expr renaming denote_norm→ado
open PySem.W.WShape renaming has→ady,hasItems→ad5,hasAll→aey
open _root_.PUnit renaming unit→adG
open PySem.UnaryOp renaming casesOn→adS
open PySem.Heap.Ns renaming of_isNs→adW
open PySem.P renaming lt_int→ad7
open _root_.Nat.succ renaming inj→aeh
open _root_.Eq renaming refl→aeI
open _root_.Std.Legacy.Range renaming size→aeK,forIn_eq_forIn_range'→aeL
open PySem.W.Hook renaming val→aeP,obs→aeQ
open PySem.Stmt renaming casesOn→afi
open PySem.Draws renaming list→afF
open PySem.SeqAt.RcNeAt renaming lists_lengths→afN,lists→afO
open PySem.Heap.IsTuple renaming push→af9
open PySem.Heap.IsList renaming push→agv
open PySem.W.WTm renaming holds→agy
open PySem.SeqAt.RcAt renaming lists_lengths→agz,lists→agA
open PySem.Data renaming seq→agC
open _root_.Array.Perm renaming refl→agD
namespace Mine
variable{n0 n1 n2 n3 n4:Nat}{i0 i1 i2 i3 i4:Int}
section
set_option genInjectivity false
set_option tactic.hygienic true
theorem a8{α:Type}{a b:α}(h:a∈[b]):a=b:=List.mem_singleton.mp h
theorem cn{α:Type}{a b:α}{l:List α}(h:a∈b::l):a=b\/a∈l:=List.mem_cons.mp h
theorem bU{α:Type}{a:α}{s t:List α}(h:a∈s++t):a∈s\/a∈t:=List.mem_append.mp h
theorem iP{α β:Type}{b:β}{f:α->β}{l:List α}(h:b∈l.map f):∃ a,a∈l/\f a=b:=List.mem_map.mp h
theorem HD{a b:Bool}(h:a=true/\b=true):(a&&b)=true:=Bool.and_eq_true_iff.mpr h
theorem bM{a b:Bool}(h:(a&&b)=true):a=true/\b=true:=Bool.and_eq_true_iff.mp h
theorem be{α:Type}{p:α->Prop}{a:α}{l:List α}(h:p a/\∀ x,x∈l->p x):∀ x,x∈a::l->p x:=List.forall_mem_cons.mpr h
theorem iQ{α:Type}{a:α}{l:List α}{i:Nat}(h:l[i]?=some a):∃ h:i<l.length,l[i]=a:=List.getElem?_eq_some_iff.mp h
theorem aE{m n:Nat}(h:m<=n):(m:Int)<=n:=Int.ofNat_le.mpr h
theorem kt{a b:Int}(h:¬a<b):b<=a:=Int.not_lt.mp h
theorem qT{a b:Int}(h:¬a<=b):b<a:=Int.not_le.mp h
theorem pH{a b:Nat}(h:¬a<b):b<=a:=Nat.not_lt.mp h
theorem z9{α:Type}{a:α}{l:List α}(h:(a::l).Nodup):a∉l/\l.Nodup:=List.nodup_cons.mp h
theorem yg{α:Type}{p:α->Bool}{l:List α}(h:l.all p=true):∀ x,x∈l->p x=true:=List.all_eq_true.mp h
inductive K where
 | e
 | c (k:Nat) (a b:abE) (r:K)
noncomputable def K.D(x:Y8)(l:K):Prop:=K.rec False (fun _ a b _ p=>a.denote x<=b.denote x->p) l
noncomputable def K.C(l:K):abE:=K.rec (.num 0) (fun k a b _ e=>.add (.mulL k (.sub a b)) e) l
noncomputable def pos(p:abD):Bool:=p.casesOn (fun n=>Nat.blt 0 n.toNat) fun _ _ _=>false
theorem KR(x:Y8)(p:abD)(h:pos p=true):0<p.denote x:=by
 cases p with
 | num n =>
  have:0<n.toNat:=Nat.ble_eq.mp h;show 0<n;exact qT fun g=>absurd (adV g▸this) (Yl _)
 | add=>cases h
theorem ND(x:Y8)(l:K):∀ y:Int,y<=0->0<y+l.C.denote x->l.D x:=by
 induction l with
 | e=>intro y h1 h2;exact absurd (abl y▸h2) (Int.not_lt.mpr h1)
 | c k a b r ih =>
  intro y h1 h2 h3;have h2:0<y+((k:Int)*(a.denote x-b.denote x)+r.C.denote x):=h2;exact ih (y+(k:Int)*(a.denote x-b.denote x)) (Int.add_nonpos h1 (Int.mul_nonpos_of_nonneg_of_nonpos (cu k) (abN h3))) (by rw[Int.add_assoc];exact h2)
theorem aj(x:Y8)(l:K)(h:pos l.C.norm=true):l.D x :=
 ND x l 0 (Int.le_refl 0) (by rw[afB,<- ado];exact KR x _ h)
theorem ft{m n:Nat}(h:m<n):((m+1:Nat):Int)<=n:=aE h
theorem ia{m n:Nat}(h:m=n):(m:Int)<=n:=aE (Yh h)
theorem fV{m n:Nat}(h:n=m):(m:Int)<=n:=aE (Yh h.symm)
theorem nA{a b:Nat}(h:((b+1:Nat):Int)<=a->False):a<=b:=js fun g=>h (ft g)
theorem nB{a b:Nat}(h:(b:Int)<=a->False):a<b:=Zk fun g=>h (aE g)
open Int.Internal.Linear (Expr)
noncomputable abbrev v0:=Expr.var 0
noncomputable abbrev v1:=Expr.var 1
noncomputable abbrev v2:=Expr.var 2
noncomputable abbrev v3:=Expr.var 3
noncomputable abbrev nm:=Expr.num
noncomputable abbrev ad:=Expr.add
noncomputable abbrev ml:=Expr.mulL
noncomputable abbrev v7:=nm 0
noncomputable abbrev v8:=nm 1
open Lean.RArray
noncomputable abbrev xB(a b:Int):=branch 1 (leaf a) (leaf b)
noncomputable abbrev xC(a b c:Int):=branch 1 (leaf a) (branch 2 (leaf b) (leaf c))
theorem s6{a b:Nat}(h:a<=b+5):(a+1)-b<=6:=adH (ZH b 6▸j5 h)
theorem lA{n a b:Nat}(h:n<=a)(c:aej a b=true):n<=b:=bL h (aae c)
theorem lB{n a b:Nat}(h:n<=a)(c:aej (a+1) b=true):n<b:=fc h (aae c)
theorem lC{n a b:Nat}(h:n<a)(c:aej a b=true):n<b:=e9 h (aae c)
theorem lD{n a b:Nat}(h:n<a)(c:aej a b=true):n<=b:=YG (e9 h (aae c))
theorem s1{a b c:Nat}(h:min (c-a) (b-a)=b)(g:a<=b):a=0:=adw fun p=>Yl b (fc (bL (Yh h.symm) (Zj _ _)) (agr (e9 p g) p))
theorem s2{a b c:Nat}(h:min (c-a) (b-a)=b):b<=c-0:=bL (bL (Yh h.symm) (abo _ _)) (aak c a)
theorem tS(b a:Nat):((b:Int)-a+1-1).toNat=b-a:=(congrArg acz (acf _ _)).trans (aa0 b a)
theorem tT(b a:Nat):((b:Int)-a-1+1).toNat=b-a:=(congrArg acz (Int.sub_add_cancel _ _)).trans (aa0 b a)
theorem tM(a k:Nat):((a:Int)+1*(k:Int)).toNat=a+k:=by rw[Int.one_mul];rfl
theorem mA{i:Int}{n:Nat}(h:i<0):max (i+n) 0=max 0 (min (i+n) n):=by rw[acP (abj (Int.add_le_add_right (acq h) n) (abk (afB _))),Int.max_comm]
theorem mB{i:Int}{n:Nat}(h:¬i<0):min i n=max 0 (min i n):=(aa6 (Int.le_min.mpr ⟨kt h,cu n⟩)).symm
theorem s3{a b:Nat}(h:b<=a+5):¬((b:Int)-a>5000):=Int.not_lt.mpr (Int.sub_left_le_of_le_add (aE (n:=a+5000) (bL h (lP (by decide) a))))
theorem s4{a:Nat}(h:a<64):(a:Int)<2 ^ 31:=YR (Int.ofNat_lt.mpr h) (by decide)
theorem s5{a:Nat}(h:a<64):((a+1:Nat):Int)<2 ^ 31:=Zp (aE h) (by decide)
theorem s7{a d e:Nat}(h:d<9)(g:e<=5):a+1+d+e<=a+14:=bL (Yo (lP (ZB h) (a+1)) g) (kG (a+14))
theorem s8{a:Nat}(h:a<64):-(10 ^ 18)<(a:Int)/\(a:Int)<10 ^ 18:=⟨ZS (by decide) (cu a),YR (Int.ofNat_lt.mpr h) (by decide)⟩
theorem Uk{l d:Nat}(h:l+1+d<64):-(10 ^ 18)<(l:Int)+1+d/\(l:Int)+1+d<10 ^ 18:=(show((l+1+d:Nat):Int)=(l:Int)+1+d from rfl)▸s8 h
theorem Ul{l d e:Nat}(h:l+1+d+e<64):-(10 ^ 18)<(l:Int)+1+d+e/\(l:Int)+1+d+e<10 ^ 18:=(show((l+1+d+e:Nat):Int)=(l:Int)+1+d+e from rfl)▸s8 h
theorem s9{a b n:Nat}(h1:a<=b+(0+1)*n)(h2:b<=5*n)(h:n<=3):a<=30:=bL (bL h1 (Yo (bL h2 (Zg 5 h)) (Zg (0+1) h))) (by decide)
theorem sb{a:Int}(h:a<2147483629):a+0+0+17<2 ^ 64:=by rw[abl,abl];exact YR (Int.add_lt_add_right h 17) (by decide)
theorem sc{a b n:Nat}(h1:a<=b+(0+1)*n)(h2:b<=300*n)(h:n<=100):a<=30100/\b<=30000:=⟨bL (bL h1 (Yo (bL h2 (Zg 300 h)) (Zg (0+1) h))) (by decide),bL h2 (Zg 300 h)⟩
theorem sd{a n:Nat}(h:a<=30000)(g:n<=100):a+n*(0+1)<=100000:=bL (Yo h (adJ (0+1) g)) (by decide)
theorem se{a b:Int}(h:a<b):(((b-a).toNat:Nat):Int)-((0:Nat):Int)=b-a:=(afC _).trans (Zh (adN (acq h)))
theorem sf{a b:Int}(h:¬a<b):(((b-a).toNat:Nat):Int)-((0:Nat):Int)=0:=(afC _).trans (congrArg Nat.cast (adV (abN (kt h))))
theorem sg{j:Int}(h:0<j/\j<2 ^ 29):j.natAbs<1073741824:=Int.ofNat_lt.mp (by rw[Int.natAbs_of_nonneg (acq h.1)];exact YR h.2 (by decide))
theorem sh{i:Int}(h:-(10 ^ 18)<i/\i<10 ^ 18):i.natAbs<2 ^ 60:=by
 induction i using Int.casesOn with
 | ofNat n=>exact Int.ofNat_lt.mp (YR h.2 (by decide))
 | negSucc n=>exact Int.ofNat_lt.mp (YR (Int.neg_lt_neg h.1) (by decide))
theorem sj{k:Int}{a b:Nat}(h:0<=k/\k<2 ^ 62/\k.toNat<a)(e:b=a):k<(b:Int):=e▸(Int.toNat_lt h.1).mp h.2.2
theorem sk{p s c:Nat}(h:p+(s+1+1)<=c):p+1+1<=c+c:=bL (lP (abp 2 s) p) (bL h (ef c c))
theorem sm{p w s t c:Nat}(h:t<=c)(e:t=p+w+s):p+w<=c+c:=bL (bL (ef _ s) (Yh e.symm)) (bL h (ef c c))
theorem sq{i a:Nat}(h:i<a)(g:a<=100000):(i:Int)<2 ^ 62:=YR (Int.ofNat_lt.mpr (e9 h g)) (by decide)
theorem sr{a n d:Nat}(h:a<=5*n)(e:n=d)(g:(d:Int)<4):a+n*(0+1)<=100000:=by
 have x:n<=3:=e▸ZB (Int.ofNat_lt.mp g);exact bL (Yo (bL h (Zg 5 x)) (adJ (0+1) x)) (by decide)
theorem su{a b:Nat}(h:a<=b)(g:b<0+a):False:=Yl b (e9 (abg a▸g) h)
theorem sv{a b:Int} : (if a<b then b-a else 0)=max (b-a) 0:=by
 by_cases h:a<b
 ·rw[if_pos h];exact(Int.max_eq_left (adN (acq h))).symm
 ·rw[if_neg h];exact(aa6 (abN (kt h))).symm
theorem sx{a b:Nat}(e:a=b)(h:b<=100000):(a:Int)<2 ^ 63:=Zp (aE (e▸h)) (by decide)
theorem nz{a:Nat} : ¬((a:Int)<0):=Int.not_lt.mpr (cu a)
theorem r1(h1:n0<=6000):(n0+1)<9900:=fc (j5 h1) (by decide)
theorem r2(h1:¬(n1<n0)):n0<=n1:=pH h1
theorem r3(h1:n0<=1000)(h2:n1=100000):n0<=n1:=h2▸bL h1 (by decide)
theorem r4(h1:n0=3)(h2:n0<=2):False:=aj (leaf (n0:Int)) (.c 1 (nm 3) v0 (.c 1 v0 (nm 2) .e)) rfl (fV h1) (aE h2)
theorem r5:(-((2:Int) ^ 31))<(n0:Int):=cu _
theorem r6:(n0+(n1+1))=((n0+1)+n1):=(afv _ _).symm
theorem r8:n0<=(n0+1):=Y9 _
theorem r9:(0:Int)<=(n0:Int):=cu _
theorem PC(h1:n0=n1):n0<=n1:=Yh h1
theorem PD:((n0+n1)-n0)=n1:=YT _ _
theorem Um(h1:(n0+1)<n1):n0<n1:=YG h1
theorem PE(h1:(0:Int)<=i0):(-((2:Int) ^ 64))<i0:=abj (cu _) h1
theorem KU(h1:i0<((2:Int) ^ 31)):i0<((2:Int) ^ 62):=abj h1 (by decide)
theorem PF:((n0+1)+n1)=(n0+(n1+1)):=Nat.add_right_comm _ _ _
theorem PG(h1:i0<(2147483647:Int)):i0<((2:Int) ^ 64):=abj h1 (by decide)
theorem PH(h1:(n0:Int)<(n1:Int)):n0<n1:=Int.ofNat_lt.mp h1
theorem Un(h1:n0<=100)(h2:n1=100000):n0<=n1:=h2▸bL h1 (by decide)
theorem Uo(h1:n0<4096)(h2:n1=100000):n0<=n1:=nA (aj (xB n0 n1) (.c 1 (ad v0 v8) (nm 4096) (.c 1 (nm 100000) v1 (.c 1 (ad v1 v8) v0 .e))) rfl (ft h1) (fV h2))
theorem KW(h1:(-((2:Int) ^ 31))<i0):(-((2:Int) ^ 62))<=i0:=abj (cu _) h1
theorem PI(h1:¬(n1<n0))(h2:¬(n1=n0)):n0<n1:=ad8 (pH h1) (Ne.symm h2)
theorem PJ(h1:¬(n0<n1))(h2:n0<(n1+1)):n0=n1:=Yq (ZB h2) (pH h1)
theorem Fx(h1:(n0+(n2+1))<=n1):n0<=n1:=abh h1
theorem Up(h1:(n0+(6*(n1+1)))<=1000):(n0+6)<=1000:=js fun g=>aj (xB n0 n1) (.c 1 (ad v0 (ml 6 (ad v1 v8))) (nm 1000) (.c 1 (ad (nm 1000) v8) (ad v0 (nm 6)) (.c 6 v7 v1 .e))) rfl (aE h1) (ft g) (cu n1)
theorem PK(h1:¬((n1:Int)<(n0:Int))):(acz (0:Int))=(n0-n1):=(abC (Int.ofNat_le.mp (kt h1))).symm
theorem PL(h1:n2=100000)(h2:n0<=30100)(h3:n1<=1):(n0+n1)<=n2:=h1▸bL (Yo h2 h3) (by decide)
theorem PM(h1:(n1:Int)<(5:Int))(h2:n2=n1)(h3:n0<=(2*n2)):n0<=8:=nA (aj (xC n0 n1 n2) (.c 2 (ad v1 v8) (nm 5) (.c 2 v2 v1 (.c 1 v0 (ml 2 v2) (.c 1 (ad (nm 8) v8) v0 .e)))) rfl h1 (ia h2) (aE h3))
theorem PN(h1:(n1:Int)<(5:Int))(h2:n2=n1)(h3:n0<=(2*n2)):(n0+0)<=100000:=nA (aj (xC n0 n1 n2) (.c 2 (ad v1 v8) (nm 5) (.c 2 v2 v1 (.c 1 v0 (ml 2 v2) (.c 1 (ad (nm 100000) v8) (ad v0 v7) .e)))) rfl h1 (ia h2) (aE h3))
theorem PO(h1:(n0+(6*(n3+1)))<=1000)(h2:n1<=(n2+5)):((n0+((n1+1)-n2))+(6*n3))<=1000:=bL (ZC (lP (s6 h2) n0) (6*n3)) (bL (Yh (by rw[Nat.mul_succ,ab2,ZH 6])) h1)
theorem Uq:(0+n0)=n0:=ZH _ _
theorem PQ:(i0-(0:Int))=i0:=abl _
theorem Ur:(1+n0)=(n0+1):=ZH _ _
theorem Us:n0<=((n0+1)+1):=ef n0 2
theorem Ut(h1:n0=44):n0<128:=fc (Yh h1) (by decide)
theorem Uu(h1:¬(n0<2)):0<n0:=nB (aj (leaf (n0:Int)) (.c 1 (nm 2) v0 (.c 1 v0 v7 .e)) rfl (aE (pH h1)))
theorem PR(h1:(n0+1)=n0):False:=aj (leaf (n0:Int)) (.c 1 (ad v0 v8) v0 .e) rfl (ia h1)
theorem PS(h1:(n0+2)=n0):False:=aj (leaf (n0:Int)) (.c 1 (ad v0 (nm 2)) v0 .e) rfl (ia h1)
theorem PT(h1:(n0+3)=n0):False:=aj (leaf (n0:Int)) (.c 1 (ad v0 (nm 3)) v0 .e) rfl (ia h1)
theorem Uv(h1:(n0+4)=n0):False:=aj (leaf (n0:Int)) (.c 1 (ad v0 (nm 4)) v0 .e) rfl (ia h1)
theorem KX(h1:n0=(n0+1)):False:=aj (leaf (n0:Int)) (.c 1 (ad v0 v8) v0 .e) rfl (fV h1)
theorem Uw:n0<=(n0+n1):=ef _ _
theorem Ux:(((n0+1)+1)-n0)=2:=YT n0 2
theorem Uy:((n0+2)-(n0+1))=1:=YT (n0+1) 1
theorem Uz(h1:n0<800):(n0+1)<900:=fc h1 (by decide)
theorem UA(h1:n0<=600):(n0+1)<800:=fc (j5 h1) (by decide)
theorem UB(h1:(n0+2)=(n0+4)):False:=aj (leaf (n0:Int)) (.c 1 (ad v0 (nm 4)) (ad v0 (nm 2)) .e) rfl (fV h1)
theorem UC:(n0:Int)<((n0+1):Int):=qT (aj (leaf (n0:Int)) (.c 1 (ad v0 v8) v0 .e) rfl)
theorem UD(h1:n0<=10):(n0+1)<=100000:=fc h1 (by decide)
theorem UE(h1:n0<n1):n0<=n1:=YG h1
theorem UF(h1:n1=n0):n0<=n1:=h1▸kG _
theorem UG(h1:n0<=6000):(n0+64)<9900:=fc (ZC h1 _) (by decide)
theorem UH(h1:(48<=n0/\n0<=57)):n0<128:=nB (aj (leaf (n0:Int)) (.c 1 v0 (nm 57) (.c 1 (nm 128) v0 .e)) rfl (aE h1.2))
theorem PU(h1:n0=92):(32<=n0/\n0<128):=h1▸by decide
theorem PV(h1:n0<=3):(0+(6*n0))<=1000:=nA (aj (leaf (n0:Int)) (.c 6 v0 (nm 3) (.c 1 (ad (nm 1000) v8) (ad v7 (ml 6 v0)) .e)) rfl (aE h1))
theorem ML(h1:(32<=n0/\n0<=126)):n0<128:=nB (aj (leaf (n0:Int)) (.c 1 v0 (nm 126) (.c 1 (nm 128) v0 .e)) rfl (aE h1.2))
theorem PW(h1:(n0:Int)<(4:Int)):n0<1000:=nB (aj (leaf (n0:Int)) (.c 1 (ad v0 v8) (nm 4) (.c 1 (nm 1000) v0 .e)) rfl h1)
theorem PX(h1:(n0:Int)<(4:Int)):n0<=1000:=nA (aj (leaf (n0:Int)) (.c 1 (ad v0 v8) (nm 4) (.c 1 (ad (nm 1000) v8) v0 .e)) rfl h1)
theorem PY(h1:(n0:Int)<(5:Int)):n0<1000:=nB (aj (leaf (n0:Int)) (.c 1 (ad v0 v8) (nm 5) (.c 1 (nm 1000) v0 .e)) rfl h1)
theorem PZ(h1:n0<=6000):((n0+1)+1)<9900:=nB (aj (leaf (n0:Int)) (.c 1 v0 (nm 6000) (.c 1 (nm 9900) (ad (ad v0 v8) v8) .e)) rfl (aE h1))
theorem P0(h1:n0<=n1):n0<=(n1+1):=acp h1
theorem P4(h1:(n0+1)<=300):(1+n0)<=100000:=nA (aj (leaf (n0:Int)) (.c 1 (ad v0 v8) (nm 300) (.c 1 (ad (nm 100000) v8) (ad v8 v0) .e)) rfl (aE h1))
theorem P5(h1:n0<=6000):((n0+1)+64)<9900:=nB (aj (leaf (n0:Int)) (.c 1 v0 (nm 6000) (.c 1 (nm 9900) (ad (ad v0 v8) (nm 64)) .e)) rfl (aE h1))
theorem P6:((0+1)+((n0+1)-1))<=(n0+1):=Yh (ZH 1 n0)
theorem P7(h1:¬((63:Int)<(n0:Int))):n0<=63:=nA (aj (leaf (n0:Int)) (.c 1 v0 (nm 63) (.c 1 (ad (nm 63) v8) v0 .e)) rfl (kt h1))
theorem P8(h1:n0<n1):¬(n0=(n1+1)):=fun g=>aj (xB n0 n1) (.c 1 (ad v0 v8) v1 (.c 1 (ad v1 v8) v0 .e)) rfl (ft h1) (fV g)
theorem P9(h1:n1=n0)(h2:n1<2):n0<2:=h1▸bL h2 (by decide)
theorem Qa(h1:¬(n1<n0)):n0<=(n1+1):=nA (aj (xB n0 n1) (.c 1 v0 v1 (.c 1 (ad (ad v1 v8) v8) v0 .e)) rfl (aE (pH h1)))
theorem Qb(h1:(n0:Int)<(17:Int)):(0+n0)<=100:=nA (aj (leaf (n0:Int)) (.c 1 (ad v0 v8) (nm 17) (.c 1 (ad (nm 100) v8) (ad v7 v0) .e)) rfl h1)
theorem Qc(h1:(n0:Int)<(4:Int)):(6*n0)<=1000:=nA (aj (leaf (n0:Int)) (.c 6 (ad v0 v8) (nm 4) (.c 1 (ad (nm 1000) v8) (ml 6 v0) .e)) rfl h1)
theorem MM:(((n0+1):Int)-(1:Int))=(n0:Int):=acf _ _
theorem Qd(h1:(n0+1)<(n1+1)):n0<n1:=ZB h1
theorem Qe(h1:n0<=n1)(h2:n1<64):n0<64:=fc h1 h2
theorem Qf(h1:n1<60)(h2:n0<=n1):n0<60:=fc h2 h1
theorem Qg(h1:n1<=n0)(h2:n0<=n1):n0=n1:=Yq h2 h1
theorem Qh:4<=((((((0+1)+1)+1)+1)+1)+n0):=bL (by decide) (ef _ _)
theorem Qi:(n0+2)<=((n0+1)+(n1+1)):=js fun g=>aj (xB n0 n1) (.c 1 (ad (ad (ad v0 v8) (ad v1 v8)) v8) (ad v0 (nm 2)) (.c 1 v7 v1 .e)) rfl (ft g) (cu n1)
theorem Qj(h1:(n0+80)<n1):(n0+64)<n1:=nB (aj (xB n0 n1) (.c 1 (ad (ad v0 (nm 80)) v8) v1 (.c 1 v1 (ad v0 (nm 64)) .e)) rfl (ft h1))
theorem Qk(h1:n0=n1)(h2:¬(n1<2)):0<n0:=nB (aj (xB n0 n1) (.c 1 v1 v0 (.c 1 (nm 2) v1 (.c 1 v0 v7 .e))) rfl (fV h1) (aE (pH h2)))
theorem Ql(h1:n1=n0)(h2:¬(n1<2)):2<=n0:=nA (aj (xB n0 n1) (.c 1 v1 v0 (.c 1 (nm 2) v1 (.c 1 (ad v0 v8) (nm 2) .e))) rfl (ia h1) (aE (pH h2)))
theorem Qm(h1:(48<=n0/\n0<=57)):(44<=n0/\n0<123):=⟨nA (aj (leaf (n0:Int)) (.c 1 (nm 48) v0 (.c 1 (ad v0 v8) (nm 44) .e)) rfl (aE h1.1)),nB (aj (leaf (n0:Int)) (.c 1 v0 (nm 57) (.c 1 (nm 123) v0 .e)) rfl (aE h1.2))⟩
theorem Qn(h1:(n0=92\/n0=34)):(32<=n0/\n0<128):=h1.elim (fun e=>e▸by decide) fun e=>e▸by decide
theorem Qo(h1:((n0+1)+n1)<=100):n0<=100:=js fun g=>aj (xB n0 n1) (.c 1 (ad (ad v0 v8) v1) (nm 100) (.c 1 (ad (nm 100) v8) v0 (.c 1 v7 v1 .e))) rfl (aE h1) (ft g) (cu n1)
theorem Qp(h1:(n0+(2*n1))<=600):n0<=600:=abh h1
theorem Qq(h1:n0=n1)(h2:n1<2):n0<=100000:=h1▸YG (e9 h2 (by decide))
theorem MN(h1:n1<=100)(h2:n0<=n1):n0<=1000:=nA (aj (xB n0 n1) (.c 1 v1 (nm 100) (.c 1 v0 v1 (.c 1 (ad (nm 1000) v8) v0 .e))) rfl (aE h1) (aE h2))
theorem Qr(h1:(44<=n0/\n0<123)):(32<=n0/\n0<128):=⟨nA (aj (leaf (n0:Int)) (.c 1 (nm 44) v0 (.c 1 (ad v0 v8) (nm 32) .e)) rfl (aE h1.1)),nB (aj (leaf (n0:Int)) (.c 1 (ad v0 v8) (nm 123) (.c 1 (nm 128) v0 .e)) rfl (aE (aeg h1.2)))⟩
theorem Qs(h1:(n0:Int)<(4:Int)):(0+(14*n0))<=63:=nA (aj (leaf (n0:Int)) (.c 14 (ad v0 v8) (nm 4) (.c 1 (ad (nm 63) v8) (ad v7 (ml 14 v0)) .e)) rfl h1)
theorem Qt(h1:(0+n1)=(0+n0)):¬(n0<n1):=fun g=>aj (xB n0 n1) (.c 1 (ad v7 v1) (ad v7 v0) (.c 1 (ad v0 v8) v1 .e)) rfl (ia h1) (ft g)
theorem Qu(h1:n0<n1)(h2:(n1+0)=n0):False:=aj (xB n0 n1) (.c 1 (ad v0 v8) v1 (.c 1 (ad v1 v7) v0 .e)) rfl (ft h1) (ia h2)
theorem Qv(h1:n0<n1)(h2:(n1+2)=n0):False:=aj (xB n0 n1) (.c 1 (ad v0 v8) v1 (.c 1 (ad v1 (nm 2)) v0 .e)) rfl (ft h1) (ia h2)
theorem Qw(h1:n0<n1)(h2:(n1+3)=n0):False:=aj (xB n0 n1) (.c 1 (ad v0 v8) v1 (.c 1 (ad v1 (nm 3)) v0 .e)) rfl (ft h1) (ia h2)
theorem Qx(h1:n0<n1)(h2:(n1+4)=n0):False:=aj (xB n0 n1) (.c 1 (ad v0 v8) v1 (.c 1 (ad v1 (nm 4)) v0 .e)) rfl (ft h1) (ia h2)
theorem MP(h1:n0=n1)(h2:n1<60):n0<=100000:=h1▸YG (e9 h2 (by decide))
theorem Qy(h1:n0<=1000)(h2:1000<=n1):n0<=n1:=bL h1 h2
theorem Qz(h1:n1=100000)(h2:n0<=16):n0<=n1:=h1▸bL h2 (by decide)
theorem QA(h1:n0<=(3*n1)):n0<=(3*(n1+1)):=Nat.le_add_right_of_le h1
theorem QB(h1:n1<=1000)(h2:n1=n0):n0<=100000:=h2▸bL h1 (by decide)
theorem QC(h1:(n0+(200*n1))<=6000):n0<=6000:=abh h1
theorem MQ(h1:n1=100000)(h2:n0<=30100):n0<=n1:=h1▸bL h2 (by decide)
theorem QD(h1:n1<=3)(h2:n0<=(6*n1)):n0<=1000:=nA (aj (xB n0 n1) (.c 6 v1 (nm 3) (.c 1 v0 (ml 6 v1) (.c 1 (ad (nm 1000) v8) v0 .e))) rfl (aE h1) (aE h2))
theorem QE(h1:(n0+80)<n1):((n0+9)+66)<n1:=nB (aj (xB n0 n1) (.c 1 (ad (ad v0 (nm 80)) v8) v1 (.c 1 v1 (ad (ad v0 (nm 9)) (nm 66)) .e)) rfl (ft h1))
theorem QF(h1:n0<=900)(h2:n1<=1):(n0+n1)<=1000:=bL (Yo h1 h2) (by decide)
theorem QG(h1:n1<=100)(h2:n0<=(3*n1)):n0<=1000:=nA (aj (xB n0 n1) (.c 3 v1 (nm 100) (.c 1 v0 (ml 3 v1) (.c 1 (ad (nm 1000) v8) v0 .e))) rfl (aE h1) (aE h2))
theorem QH(h1:n1<=3)(h2:n0<=(6*n1)):n0<=100000:=nA (aj (xB n0 n1) (.c 6 v1 (nm 3) (.c 1 v0 (ml 6 v1) (.c 1 (ad (nm 100000) v8) v0 .e))) rfl (aE h1) (aE h2))
theorem QI(h1:n2<n0):¬((n0+n1)=n2):=fun g=>aj (xC n0 n1 n2) (.c 1 (ad v2 v8) v0 (.c 1 (ad v0 v1) v2 (.c 1 v7 v1 .e))) rfl (ft h1) (ia g) (cu n1)
theorem QJ(h1:(n0+(2*(n1+1)))<=600):n0<1000:=Zk fun g=>aj (xB n0 n1) (.c 1 (ad v0 (ml 2 (ad v1 v8))) (nm 600) (.c 1 (nm 1000) v0 (.c 2 v7 v1 .e))) rfl (aE h1) (aE g) (cu n1)
theorem QK(h1:(n0+(2*n1))<=600):(n0+1)<1000:=Zk fun g=>aj (xB n0 n1) (.c 1 (ad v0 (ml 2 v1)) (nm 600) (.c 1 (nm 1000) (ad v0 v8) (.c 2 v7 v1 .e))) rfl (aE h1) (aE g) (cu n1)
theorem HE(h1:n0=n2)(h2:n2<=n1):n0<=n1:=bL (Yh h1) h2
theorem MR(h1:n0<=n2)(h2:n2<=n1):n0<=n1:=bL h1 h2
theorem QL(h1:n2=n0)(h2:n1=n2):n0<=n1:=nA (aj (xC n0 n1 n2) (.c 1 v0 v2 (.c 1 v2 v1 (.c 1 (ad v1 v8) v0 .e))) rfl (fV h1) (fV h2))
theorem QM(h1:n2=n1)(h2:n0<n2):n0<n1:=bL h2 (Yh h1)
theorem QN(h1:n2=n1)(h2:n0=n2):n0=n1:=h1▸h2
theorem QO(h1:(n1-n2)=n0):n0<=(n1-0):=h1▸aak n1 n2
theorem QP(h1:(n1:Int)<(4:Int))(h2:n0=n1):n0<=3:=nA (aj (xB n0 n1) (.c 1 (ad v1 v8) (nm 4) (.c 1 v0 v1 (.c 1 (ad (nm 3) v8) v0 .e))) rfl h1 (ia h2))
theorem QQ(h1:n0<4096)(h2:n1=100000):(0+n0)<=n1:=nA (aj (xB n0 n1) (.c 1 (ad v0 v8) (nm 4096) (.c 1 (nm 100000) v1 (.c 1 (ad v1 v8) (ad v7 v0) .e))) rfl (ft h1) (fV h2))
theorem QR(h1:n0<=(n2+n1)):(n0-n1)<=n2:=adH h1
theorem QS:((i0+(1:Int))+i1)=(i0+(i1+(1:Int))):=acQ (kt (aj (xB i0 i1) (.c 1 (ad (ad v0 (ad v1 v8)) v8) (ad (ad v0 v8) v1) .e) rfl)) (kt (aj (xB i0 i1) (.c 1 (ad (ad (ad v0 v8) v1) v8) (ad v0 (ad v1 v8)) .e) rfl))
theorem MS(h1:n1<n0):(n0-n1)=((n0-(n1+1))+1):=(Nat.succ_pred_eq_of_pos (Nat.sub_pos_of_lt h1)).symm
theorem QT(h1:n2=n0)(h2:¬(n1<n2)):n0<=n1:=nA (aj (xC n0 n1 n2) (.c 1 v0 v2 (.c 1 v2 v1 (.c 1 (ad v1 v8) v0 .e))) rfl (fV h1) (aE (pH h2)))
theorem QU(h1:n0<=(3*16))(h2:n1<=2):(n0+n1)<=10000:=bL (Yo h1 h2) (by decide)
theorem MT(h1:n0<=n2)(h2:n2<=n1):n0<=(n1+1):=nA (aj (xC n0 n1 n2) (.c 1 v0 v2 (.c 1 v2 v1 (.c 1 (ad (ad v1 v8) v8) v0 .e))) rfl (aE h1) (aE h2))
theorem QV(h1:n2<=n1)(h2:(n0+1)<=n2):n0<=n1:=bL (YG h2) h1
theorem QW(h1:n2<=n1)(h2:(n0-n2)=0):n0<=n1:=bL (Nat.le_of_sub_eq_zero h2) h1
theorem QX(h1:(n1:Int)<(4:Int))(h2:n0=n1):n0<=100000:=nA (aj (xB n0 n1) (.c 1 (ad v1 v8) (nm 4) (.c 1 v0 v1 (.c 1 (ad (nm 100000) v8) v0 .e))) rfl h1 (ia h2))
theorem Aa(h1:(n1:Int)<(5:Int))(h2:n0=n1):n0<=100000:=nA (aj (xB n0 n1) (.c 1 (ad v1 v8) (nm 5) (.c 1 v0 v1 (.c 1 (ad (nm 100000) v8) v0 .e))) rfl h1 (ia h2))
theorem QY(h1:(0+n1)=((n2+1)+n0)):n0<n1:=Zk fun g=>aj (xC n0 n1 n2) (.c 1 (ad (ad v2 v8) v0) (ad v7 v1) (.c 1 v1 v0 (.c 1 v7 v2 .e))) rfl (fV h1) (aE g) (cu n2)
theorem QZ(h1:n1=((n0+1)+n2)):(n0+1)<=n1:=js fun g=>aj (xC n0 n1 n2) (.c 1 (ad (ad v0 v8) v2) v1 (.c 1 (ad v1 v8) (ad v0 v8) (.c 1 v7 v2 .e))) rfl (fV h1) (ft g) (cu n2)
theorem Q0(h1:(n0+(n1+1))<=1000):((n0+1)+n1)<=1000:=nA (aj (xB n0 n1) (.c 1 (ad v0 (ad v1 v8)) (nm 1000) (.c 1 (ad (nm 1000) v8) (ad (ad v0 v8) v1) .e)) rfl (aE h1))
theorem Q2(h1:¬(n0<n1)):((n0+1)-n1)=((n0-n1)+1):=Nat.succ_sub (pH h1)
theorem MU(h1:(n0=110\/(n0=111\/(n0=110\/n0=101)))):(44<=n0/\n0<123):=h1.elim (fun e=>e▸by decide) fun h1=>h1.elim (fun e=>e▸by decide) fun h1=>h1.elim (fun e=>e▸by decide) fun e=>e▸by decide
theorem MV(h1:(n0=110\/(n0=111\/(n0=110\/n0=101)))):n0<128:=afy (MU h1).2 (by decide)
theorem Q3(h1:n0<=(3*16))(h2:n1<=3):(n0+(n1+1))<=100:=fc (Yo h1 h2) (by decide)
theorem Q4(h1:(n1:Int)<(17:Int))(h2:n0<=(0+n1)):n0<=16:=nA (aj (xB n0 n1) (.c 1 (ad v1 v8) (nm 17) (.c 1 v0 (ad v7 v1) (.c 1 (ad (nm 16) v8) v0 .e))) rfl h1 (aE h2))
theorem Q5(h1:n1=100000)(h2:n0<=1):((n0+(0+1))+1)<=n1:=nA (aj (xB n0 n1) (.c 1 (nm 100000) v1 (.c 1 v0 v8 (.c 1 (ad v1 v8) (ad (ad v0 (ad v7 v8)) v8) .e))) rfl (fV h1) (aE h2))
theorem Q6(h1:((n2+1)+n1)=(0+n0)):¬(n0<n1):=fun g=>aj (xC n0 n1 n2) (.c 1 (ad (ad v2 v8) v1) (ad v7 v0) (.c 1 (ad v0 v8) v1 (.c 1 v7 v2 .e))) rfl (ia h1) (ft g) (cu n2)
theorem Q7(h1:(n0+(2*(n1+1)))<=600):(n0+(2*n1))<=600:=nA (aj (xB n0 n1) (.c 1 (ad v0 (ml 2 (ad v1 v8))) (nm 600) (.c 1 (ad (nm 600) v8) (ad v0 (ml 2 v1)) .e)) rfl (aE h1))
theorem Q8(h1:n2=n1)(h2:(n0-n2)=0):(n0-n1)=0:=h1▸h2
theorem Q9(h1:((n0+1)+(n2+1))<=n1):(n0+1)<n1:=fc (ef _ _) h1
theorem MW(h1:(n0+(n1+1))<=n2):((n0+1)+n1)<=n2:=nA (aj (xC n0 n1 n2) (.c 1 (ad v0 (ad v1 v8)) v2 (.c 1 (ad v2 v8) (ad (ad v0 v8) v1) .e)) rfl (aE h1))
theorem Rf(h1:(n0+n1)<=n2):((n0+1)+n1)<=(n2+1):=nA (aj (xC n0 n1 n2) (.c 1 (ad v0 v1) v2 (.c 1 (ad (ad v2 v8) v8) (ad (ad v0 v8) v1) .e)) rfl (aE h1))
theorem Rg(h1:n0<((n1+1)+n2)):n0<(n1+(n2+1)):=nB (aj (xC n0 n1 n2) (.c 1 (ad v0 v8) (ad (ad v1 v8) v2) (.c 1 (ad v1 (ad v2 v8)) v0 .e)) rfl (ft h1))
theorem Rh:(((n0+(0+1))+n1)+1)=(n0+((n1+(0+1))+1)):=Yq (nA (aj (xB n0 n1) (.c 1 (ad (ad v0 (ad (ad v1 (ad v7 v8)) v8)) v8) (ad (ad (ad v0 (ad v7 v8)) v1) v8) .e) rfl)) (nA (aj (xB n0 n1) (.c 1 (ad (ad (ad (ad v0 (ad v7 v8)) v1) v8) v8) (ad v0 (ad (ad v1 (ad v7 v8)) v8)) .e) rfl))
theorem Ri(h1:(32<=n1/\n1<=126))(h2:n0=n1):(32<=n0/\n0<128):=⟨nA (aj (xB n0 n1) (.c 1 (nm 32) v1 (.c 1 v1 v0 (.c 1 (ad v0 v8) (nm 32) .e))) rfl (aE h1.1) (fV h2)),nB (aj (xB n0 n1) (.c 1 v1 (nm 126) (.c 1 v0 v1 (.c 1 (nm 128) v0 .e))) rfl (aE h1.2) (ia h2))⟩
theorem Rj(h1:((0:Int)<i0/\i0<(64:Int))):((1:Int)<=i0/\i0<=(4094:Int)):=⟨kt (aj (leaf (i0:Int)) (.c 1 (ad v7 v8) v0 (.c 1 (ad v0 v8) v8 .e)) rfl h1.1),kt (aj (leaf (i0:Int)) (.c 1 (ad v0 v8) (nm 64) (.c 1 (ad (nm 4094) v8) v0 .e)) rfl h1.2)⟩
theorem Rk(h1:1000<=n1)(h2:n2<=1000)(h3:n2=n0):n0<=n1:=nA (aj (xC n0 n1 n2) (.c 1 (nm 1000) v1 (.c 1 v2 (nm 1000) (.c 1 v0 v2 (.c 1 (ad v1 v8) v0 .e)))) rfl (aE h1) (aE h2) (fV h3))
theorem Rl(h1:(n0+(2*(n1+1)))<=600):((n0+1)+(2*n1))<=600:=nA (aj (xB n0 n1) (.c 1 (ad v0 (ml 2 (ad v1 v8))) (nm 600) (.c 1 (ad (nm 600) v8) (ad (ad v0 v8) (ml 2 v1)) .e)) rfl (aE h1))
theorem Rm(h1:(n0+(200*(n1+1)))<=6000):(n0+(200*n1))<=6000:=nA (aj (xB n0 n1) (.c 1 (ad v0 (ml 200 (ad v1 v8))) (nm 6000) (.c 1 (ad (nm 6000) v8) (ad v0 (ml 200 v1)) .e)) rfl (aE h1))
theorem Rn(h1:n0<=n1)(h2:(n2-n0)=n1)(h3:n2<=n1):n0=0:=adw fun p=>Yl n1 (e9 (h2▸agr (e9 p (bL h1 (h2▸aak n2 n0))) p) h3)
theorem Ro(h1:i1=i0):(i0=(i1+(0:Int))/\0<(n2+1)):=⟨acQ (kt (aj (xB i0 i1) (.c 1 v0 v1 (.c 1 (ad (ad v1 v7) v8) v0 .e)) rfl (abk h1.symm))) (kt (aj (xB i0 i1) (.c 1 v1 v0 (.c 1 (ad v0 v8) (ad v1 v7) .e)) rfl (abk h1))),Zk fun g=>aj (leaf (n2:Int)) (.c 1 (ad v0 v8) v7 (.c 1 v7 v0 .e)) rfl (aE g) (cu n2)⟩
theorem Rp(h1:((ac2 n0)+n1)<=(n2+1)):(n0+n1)<=n2:=adv (afv n0 n1▸h1)
theorem Rq(h1:(n1:Int)<(17:Int))(h2:n0<=(3*(0+n1))):n0<=(3*16):=nA (aj (xB n0 n1) (.c 3 (ad v1 v8) (nm 17) (.c 1 v0 (ml 3 (ad v7 v1)) (.c 1 (ad (ml 3 (nm 16)) v8) v0 .e))) rfl h1 (aE h2))
theorem Rr(h1:(n0:Int)<(5:Int)):(n0=0\/(n0=1\/(n0=2\/(n0=3\/n0=4)))):=(by decide:∀ n,n<5->(n=0\/(n=1\/(n=2\/(n=3\/n=4))))) n0 (Int.ofNat_lt.mp h1)
theorem Rs(h1:(n0+(200*(n1+1)))<=6000):((n0+2)+(200*n1))<=6000:=nA (aj (xB n0 n1) (.c 1 (ad v0 (ml 200 (ad v1 v8))) (nm 6000) (.c 1 (ad (nm 6000) v8) (ad (ad v0 (nm 2)) (ml 200 v1)) .e)) rfl (aE h1))
theorem Ru(h1:n0<=n2)(h2:(n1-n2)=(n3+1)):n0<n1:=fc h1 (Nat.lt_of_sub_pos (h2▸adu _))
theorem MX(h1:n0<=n3)(h2:n1<=n2):(n0+n1)<=(n2+n3):=nA (aj (branch 2 (xB n0 n1) (branch 3 (leaf (n2:Int)) (leaf n3))) (.c 1 v0 v3 (.c 1 v1 v2 (.c 1 (ad (ad v2 v3) v8) (ad v0 v1) .e))) rfl (aE h1) (aE h2))
theorem Rw(h1:n1<=1)(h2:n2<=100)(h3:n0<=(3*n2)):(n0+n1)<=900:=nA (aj (xC n0 n1 n2) (.c 1 v1 v8 (.c 3 v2 (nm 100) (.c 1 v0 (ml 3 v2) (.c 1 (ad (nm 900) v8) (ad v0 v1) .e)))) rfl (aE h1) (aE h2) (aE h3))
theorem Rx(h1:n0<=(n1+14))(h2:(n1+(14*(n2+1)))<=63):n0<64:=Zk fun g=>aj (xC n0 n1 n2) (.c 1 v0 (ad v1 (nm 14)) (.c 1 (ad v1 (ml 14 (ad v2 v8))) (nm 63) (.c 1 (nm 64) v0 (.c 14 v7 v2 .e)))) rfl (aE h1) (aE h2) (aE g) (cu n2)
theorem Ry(h1:((n0+(n1+1))+66)<n2):(((n0+1)+n1)+66)<n2:=nB (aj (xC n0 n1 n2) (.c 1 (ad (ad (ad v0 (ad v1 v8)) (nm 66)) v8) v2 (.c 1 v2 (ad (ad (ad v0 v8) v1) (nm 66)) .e)) rfl (ft h1))
theorem Rz(h1:n2=100000)(h2:n0<=(3*16))(h3:n1<=3):((n0+1)+n1)<=n2:=nA (aj (xC n0 n1 n2) (.c 1 (nm 100000) v2 (.c 1 v0 (ml 3 (nm 16)) (.c 1 v1 (nm 3) (.c 1 (ad v2 v8) (ad (ad v0 v8) v1) .e)))) rfl (fV h1) (aE h2) (aE h3))
theorem RA(h1:(n1:Int)<(4:Int))(h2:n2=n1)(h3:n0<=(6*n2)):n0<=100000:=nA (aj (xC n0 n1 n2) (.c 6 (ad v1 v8) (nm 4) (.c 6 v2 v1 (.c 1 v0 (ml 6 v2) (.c 1 (ad (nm 100000) v8) v0 .e)))) rfl h1 (ia h2) (aE h3))
theorem RB(h1:n2<=n1)(h2:n2=((n0+1)+n3)):(n0+1)<=(n1+n1):=js fun g=>aj (branch 2 (xB n0 n1) (branch 3 (leaf (n2:Int)) (leaf n3))) (.c 2 v2 v1 (.c 1 (ad (ad v0 v8) v3) v2 (.c 1 (ad (ad v1 v1) v8) (ad v0 v8) (.c 1 v7 v2 (.c 1 v7 v3 .e))))) rfl (aE h1) (fV h2) (ft g) (cu n2) (cu n3)
theorem RC(h1:n2<=n1)(h2:n2=((n0+1)+n3)):(n0+2)<=(n1+n1):=js fun g=>aj (branch 2 (xB n0 n1) (branch 3 (leaf (n2:Int)) (leaf n3))) (.c 2 v2 v1 (.c 2 (ad (ad v0 v8) v3) v2 (.c 1 (ad (ad v1 v1) v8) (ad v0 (nm 2)) (.c 1 v7 v0 (.c 2 v7 v3 .e))))) rfl (aE h1) (fV h2) (ft g) (cu n0) (cu n3)
theorem RD(h1:(n2+(14*(n1+1)))<=63)(h2:n0<=(n2+14)):(n0+(14*n1))<=63:=nA (aj (xC n0 n1 n2) (.c 1 (ad v2 (ml 14 (ad v1 v8))) (nm 63) (.c 1 v0 (ad v2 (nm 14)) (.c 1 (ad (nm 63) v8) (ad v0 (ml 14 v1)) .e))) rfl (aE h1) (aE h2))
theorem RE(h1:n1=n3)(h2:(n3+(n2-(n2-(n0-n3))))=n0):n0<=(n1+n2):=bL (Yh h2.symm) (h1▸lP (aak _ _) _)
theorem RF(h1:(n1:Int)<(5:Int))(h2:n2=n1)(h3:n0<=(2*n2)):((0+1)+n0)<=100000:=nA (aj (xC n0 n1 n2) (.c 2 (ad v1 v8) (nm 5) (.c 2 v2 v1 (.c 1 v0 (ml 2 v2) (.c 1 (ad (nm 100000) v8) (ad (ad v7 v8) v0) .e)))) rfl h1 (ia h2) (aE h3))
theorem RG(h1:n0<=(n1+5))(h2:n2<=(6*n3)):(((n0+1)-n1)+n2)<=(6*(n3+1)):=bL (Yo (s6 h1) h2) (Yh (ZH 6 (6*n3)))
theorem RH(h1:(n0:Int)<(8:Int)):(n0=0\/(n0=1\/(n0=2\/(n0=3\/(n0=4\/(n0=5\/(n0=6\/n0=7))))))):=(by decide:∀ n,n<8->(n=0\/(n=1\/(n=2\/(n=3\/(n=4\/(n=5\/(n=6\/n=7)))))))) n0 (Int.ofNat_lt.mp h1)
theorem RI(h1:(i0=((i1+(1:Int))+(n2:Int))/\n2<n3)):(i0=(i1+((n2+1):Int))/\(n2+1)<(n3+1)):=⟨acQ (kt (aj (xC i0 i1 n2) (.c 1 v0 (ad (ad v1 v8) v2) (.c 1 (ad (ad v1 (ad v2 v8)) v8) v0 .e)) rfl (abk h1.1))) (kt (aj (xC i0 i1 n2) (.c 1 (ad (ad v1 v8) v2) v0 (.c 1 (ad v0 v8) (ad v1 (ad v2 v8)) .e)) rfl (abk h1.1.symm))),nB (aj (xB n2 n3) (.c 1 (ad v0 v8) v1 (.c 1 (ad v1 v8) (ad v0 v8) .e)) rfl (aE (aeg h1.2)))⟩
theorem RJ(h1:n1<=9)(h2:n2<=4)(h3:n3<=(40*n2))(h4:n0<=(n3+n4))(h5:n4<=(2*4)):(n0+n1)<=250:=nA (aj (branch 2 (xB n0 n1) (branch 3 (leaf (n2:Int)) (branch 4 (leaf (n3:Int)) (leaf n4)))) (.c 1 v1 (nm 9) (.c 40 v2 (nm 4) (.c 1 v3 (ml 40 v2) (.c 1 v0 (ad v3 (.var 4)) (.c 1 (.var 4) (ml 2 (nm 4)) (.c 1 (ad (nm 250) v8) (ad v0 v1) .e)))))) rfl (aE h1) (aE h2) (aE h3) (aE h4) (aE h5))
theorem RK{n5:Nat}(h1:n2<=((n3+n4)+(n5+n1))):((n0+n1)+n2)<=((n0+(n3+n4))+((n5+n1)+n1)):=nA (aj (branch 3 (xC n0 n1 n2) (branch 4 (leaf (n3:Int)) (branch 5 (leaf (n4:Int)) (leaf n5)))) (.c 1 v2 (ad (ad v3 (.var 4)) (ad (.var 5) v1)) (.c 1 (ad (ad (ad v0 (ad v3 (.var 4))) (ad (ad (.var 5) v1) v1)) v8) (ad (ad v0 v1) v2) .e)) rfl (aE h1))
theorem MY(h1:n1=100000)(h2:(n0+1)<=10):((n0+(0+1))+1)<=n1:=nA (aj (xB n0 n1) (.c 1 (nm 100000) v1 (.c 1 (ad v0 v8) (nm 10) (.c 1 (ad v1 v8) (ad (ad v0 (ad v7 v8)) v8) .e))) rfl (fV h1) (aE h2))
theorem RL:(0:Int)<=(n0:Int):=kt fun g=>aj (leaf (n0:Int)) (.c 1 (ad v0 v8) v7 (.c 1 v7 v0 .e)) rfl g (cu n0)
theorem MZ(h1:n0<=10):(n0+1)<=100000:=nA (aj (leaf (n0:Int)) (.c 1 v0 (nm 10) (.c 1 (ad (nm 100000) v8) (ad v0 v8) .e)) rfl (aE h1))
theorem RM(h1:0<n0):(0:Int)<(n0:Int):=qT (aj (leaf (n0:Int)) (.c 1 (ad v7 v8) v0 (.c 1 v0 v7 .e)) rfl (ft h1))
theorem RN(h1:¬(i0<(0:Int))):(0:Int)<=i0:=kt (aj (leaf (i0:Int)) (.c 1 v7 v0 (.c 1 (ad v0 v8) v7 .e)) rfl (kt h1))
theorem RO(h1:(n0:Int)<(17:Int)):n0<1000:=nB (aj (leaf (n0:Int)) (.c 1 (ad v0 v8) (nm 17) (.c 1 (nm 1000) v0 .e)) rfl h1)
theorem RP(h1:((n0+1)+64)<9900):n0<9900:=nB (aj (leaf (n0:Int)) (.c 1 (ad (ad (ad v0 v8) (nm 64)) v8) (nm 9900) (.c 1 (nm 9900) v0 .e)) rfl (ft h1))
theorem RQ(h1:i0<((2:Int) ^ 29)):i0<((2:Int) ^ 64):=qT (aj (leaf (i0:Int)) (.c 1 (ad v0 v8) (nm 536870912) (.c 1 (nm 18446744073709551616) v0 .e)) rfl h1)
theorem M0(h1:i0<((2:Int) ^ 62)):i0<((2:Int) ^ 63):=qT (aj (leaf (i0:Int)) (.c 1 (ad v0 v8) (nm 4611686018427387904) (.c 1 (nm 9223372036854775808) v0 .e)) rfl h1)
theorem RS(h1:n0<=4)(h2:n1=100000):n0<=n1:=nA (aj (xB n0 n1) (.c 1 v0 (nm 4) (.c 1 (nm 100000) v1 (.c 1 (ad v1 v8) v0 .e))) rfl (aE h1) (fV h2))
theorem RT(h1:n1=100000)(h2:n0<=2):n0<=n1:=nA (aj (xB n0 n1) (.c 1 (nm 100000) v1 (.c 1 v0 (nm 2) (.c 1 (ad v1 v8) v0 .e))) rfl (fV h1) (aE h2))
theorem RU(h1:n0<n1):(n0:Int)<(n1:Int):=qT (aj (xB n0 n1) (.c 1 (ad v0 v8) v1 (.c 1 v1 v0 .e)) rfl (ft h1))
theorem M1(h1:n0<=100)(h2:n1=100000):n0<=n1:=nA (aj (xB n0 n1) (.c 1 v0 (nm 100) (.c 1 (nm 100000) v1 (.c 1 (ad v1 v8) v0 .e))) rfl (aE h1) (fV h2))
theorem M2(h1:(-((2:Int) ^ 62))<i0):(-((2:Int) ^ 63))<=i0:=kt (aj (leaf (i0:Int)) (.c 1 (ad (.num (-4611686018427387904)) v8) v0 (.c 1 (ad v0 v8) (.num (-9223372036854775808)) .e)) rfl h1)
theorem RV(h1:¬(i1<(0:Int))):(-(n0:Int))<=i1:=kt fun g=>aj (xB i1 n0) (.c 1 v7 v0 (.c 1 (ad v0 v8) (.neg v1) (.c 1 v7 v1 .e))) rfl (kt h1) g (cu n0)
theorem RW(h1:n0<=2)(h2:n1<=2):(n0+(n1+1))<=5:=nA (aj (xB n0 n1) (.c 1 v0 (nm 2) (.c 1 v1 (nm 2) (.c 1 (ad (nm 5) v8) (ad v0 (ad v1 v8)) .e))) rfl (aE h1) (aE h2))
theorem RX(h1:n1=100000)(h2:n0<=(3*16)):n0<=n1:=nA (aj (xB n0 n1) (.c 1 (nm 100000) v1 (.c 1 v0 (ml 3 (nm 16)) (.c 1 (ad v1 v8) v0 .e))) rfl (fV h1) (aE h2))
theorem RY(h1:(n0+(n1+1))<=1000):(n0+1)<=1000:=js fun g=>aj (xB n0 n1) (.c 1 (ad v0 (ad v1 v8)) (nm 1000) (.c 1 (ad (nm 1000) v8) (ad v0 v8) (.c 1 v7 v1 .e))) rfl (aE h1) (ft g) (cu n1)
theorem RZ(h1:(n0+(n2+1))<=n1):n0<=n1:=js fun g=>aj (xC n0 n1 n2) (.c 1 (ad v0 (ad v2 v8)) v1 (.c 1 (ad v1 v8) v0 (.c 1 v7 v2 .e))) rfl (aE h1) (ft g) (cu n2)
theorem R5(h1:(n0+(14*(n1+1)))<=63):(n0+14)<=63:=js fun g=>aj (xB n0 n1) (.c 1 (ad v0 (ml 14 (ad v1 v8))) (nm 63) (.c 1 (ad (nm 63) v8) (ad v0 (nm 14)) (.c 14 v7 v1 .e))) rfl (aE h1) (ft g) (cu n1)
theorem R6(h1:n1=100000)(h2:n0<=(3*16)):(n0+1)<=n1:=nA (aj (xB n0 n1) (.c 1 (nm 100000) v1 (.c 1 v0 (ml 3 (nm 16)) (.c 1 (ad v1 v8) (ad v0 v8) .e))) rfl (fV h1) (aE h2))
theorem R7(h1:(n0+(6*(n1+1)))<=1000):(n0+6)<=1000:=js fun g=>aj (xB n0 n1) (.c 1 (ad v0 (ml 6 (ad v1 v8))) (nm 1000) (.c 1 (ad (nm 1000) v8) (ad v0 (nm 6)) (.c 6 v7 v1 .e))) rfl (aE h1) (ft g) (cu n1)
theorem R8:(n0:Int)<((n0:Int)+((n1:Int)+(1:Int))):=qT fun g=>aj (xB n0 n1) (.c 1 (ad v0 (ad v1 v8)) v0 (.c 1 v7 v1 .e)) rfl g (cu n1)
theorem R9(h1:((0:Int)<=i0/\i0<(n1:Int))):i0<(n1:Int):=qT (aj (xB i0 n1) (.c 1 (ad v0 v8) v1 (.c 1 v1 v0 .e)) rfl h1.2)
theorem Sa(h1:n1=((n0+n2)+n3)):n0<=n1:=js fun g=>aj (branch 2 (xB n0 n1) (branch 3 (leaf (n2:Int)) (leaf n3))) (.c 1 (ad (ad v0 v2) v3) v1 (.c 1 (ad v1 v8) v0 (.c 1 v7 v2 (.c 1 v7 v3 .e)))) rfl (fV h1) (ft g) (cu n2) (cu n3)
theorem Sb(h1:(n0+(n2+1))<=n1):(n0+1)<=(n1+1):=js fun g=>aj (xC n0 n1 n2) (.c 1 (ad v0 (ad v2 v8)) v1 (.c 1 (ad (ad v1 v8) v8) (ad v0 v8) (.c 1 v7 v2 .e))) rfl (aE h1) (ft g) (cu n2)
theorem Sc(h1:n0<=n1)(h2:n1=100000):(n0:Int)<((2:Int) ^ 29):=qT (aj (xB n0 n1) (.c 1 v0 v1 (.c 1 v1 (nm 100000) (.c 1 (nm 536870912) v0 .e))) rfl (aE h1) (ia h2))
theorem HF(h1:(n0+(n1+1))<=n2):((n0+1)+n1)<=n2:=nA (aj (xC n0 n1 n2) (.c 1 (ad v0 (ad v1 v8)) v2 (.c 1 (ad v2 v8) (ad (ad v0 v8) v1) .e)) rfl (aE h1))
theorem Sd(h1:n1<=1000)(h2:n1=n2)(h3:n0=n2):n0<=100000:=nA (aj (xC n0 n1 n2) (.c 1 v1 (nm 1000) (.c 1 v2 v1 (.c 1 v0 v2 (.c 1 (ad (nm 100000) v8) v0 .e)))) rfl (aE h1) (fV h2) (ia h3))
theorem Se(h1:n2=((n0+n1)+n3)):(n0+n1)<=n2:=js fun g=>aj (branch 2 (xB n0 n1) (branch 3 (leaf (n2:Int)) (leaf n3))) (.c 1 (ad (ad v0 v1) v3) v2 (.c 1 (ad v2 v8) (ad v0 v1) (.c 1 v7 v3 .e))) rfl (fV h1) (ft g) (cu n3)
theorem Sf(h1:((n0+2)+(200*n1))<=6000):(((n0+1)+1)+80)<9900:=Zk fun g=>aj (xB n0 n1) (.c 1 (ad (ad v0 (nm 2)) (ml 200 v1)) (nm 6000) (.c 1 (nm 9900) (ad (ad (ad v0 v8) v8) (nm 80)) (.c 200 v7 v1 .e))) rfl (aE h1) (aE g) (cu n1)
theorem Sg(h1:(0:Int)<=i0):(-((2:Int) ^ 64))<(((i0+(0:Int))+(0:Int))+(17:Int)):=qT (aj (leaf (i0:Int)) (.c 1 v7 v0 (.c 1 (ad (ad (ad v0 v7) v7) (nm 17)) (.num (-18446744073709551616)) .e)) rfl h1)
theorem Sh(h1:(n0+(200*(n1+1)))<=6000):((n0+3)+(200*n1))<=6000:=nA (aj (xB n0 n1) (.c 1 (ad v0 (ml 200 (ad v1 v8))) (nm 6000) (.c 1 (ad (nm 6000) v8) (ad (ad v0 (nm 3)) (ml 200 v1)) .e)) rfl (aE h1))
theorem Si(h1:n1<=n2)(h2:(n0+(2*n2))<=600):(n0+(2*n1))<=600:=nA (aj (xC n0 n1 n2) (.c 2 v1 v2 (.c 1 (ad v0 (ml 2 v2)) (nm 600) (.c 1 (ad (nm 600) v8) (ad v0 (ml 2 v1)) .e))) rfl (aE h1) (aE h2))
theorem Sj(h1:n1<=n2)(h2:(n0+(200*n2))<=6000):(n0+(200*n1))<=6000:=nA (aj (xC n0 n1 n2) (.c 200 v1 v2 (.c 1 (ad v0 (ml 200 v2)) (nm 6000) (.c 1 (ad (nm 6000) v8) (ad v0 (ml 200 v1)) .e))) rfl (aE h1) (aE h2))
theorem Sk(h1:n2=100000)(h2:n0<=(3*16))(h3:n1<=3):(n0+(n1+1))<=n2:=nA (aj (xC n0 n1 n2) (.c 1 (nm 100000) v2 (.c 1 v0 (ml 3 (nm 16)) (.c 1 v1 (nm 3) (.c 1 (ad v2 v8) (ad v0 (ad v1 v8)) .e)))) rfl (fV h1) (aE h2) (aE h3))
theorem Sl(h1:0<n3)(h2:n0<((n1+1)+n2)):n0<(n1+(n2+n3)):=nB (aj (branch 2 (xB n0 n1) (branch 3 (leaf (n2:Int)) (leaf n3))) (.c 1 (ad v7 v8) v3 (.c 1 (ad v0 v8) (ad (ad v1 v8) v2) (.c 1 (ad v1 (ad v2 v3)) v0 .e))) rfl (ft h1) (ft h2))
theorem Sm(h1:n2<=n1)(h2:n3<n2)(h3:i0<=(n3:Int)):i0<=(n1:Int):=kt (aj (branch 2 (xB i0 n1) (branch 3 (leaf (n2:Int)) (leaf n3))) (.c 1 v2 v1 (.c 1 (ad v3 v8) v2 (.c 1 v0 v3 (.c 1 (ad v1 v8) v0 .e)))) rfl (aE h1) (ft h2) h3)
theorem Sn(h1:((n0+1)+n1)=((n2+1)+n3)):(n0+n1)=(n2+n3):=Yq (nA (aj (branch 2 (xB n0 n1) (branch 3 (leaf (n2:Int)) (leaf n3))) (.c 1 (ad (ad v0 v8) v1) (ad (ad v2 v8) v3) (.c 1 (ad (ad v2 v3) v8) (ad v0 v1) .e)) rfl (ia h1))) (nA (aj (branch 2 (xB n0 n1) (branch 3 (leaf (n2:Int)) (leaf n3))) (.c 1 (ad (ad v2 v8) v3) (ad (ad v0 v8) v1) (.c 1 (ad (ad v0 v1) v8) (ad v2 v3) .e)) rfl (fV h1)))
theorem So(h1:1000<=n1)(h2:n2<=1000)(h3:n2=n3)(h4:n0=n3):n0<=n1:=nA (aj (branch 2 (xB n0 n1) (branch 3 (leaf (n2:Int)) (leaf n3))) (.c 1 (nm 1000) v1 (.c 1 v2 (nm 1000) (.c 1 v3 v2 (.c 1 v0 v3 (.c 1 (ad v1 v8) v0 .e))))) rfl (aE h1) (aE h2) (fV h3) (ia h4))
theorem Sp(h1:((0:Int)<=(i0+(n1:Int))/\(i0+(n1:Int))<(n1:Int))):i0<(n1:Int):=qT (aj (xB i0 n1) (.c 1 v7 (ad v0 v1) (.c 2 (ad (ad v0 v1) v8) v1 (.c 1 v1 v0 .e))) rfl h1.1 h1.2)
theorem Sq(h1:((0:Int)<=i0/\(i0<((2:Int) ^ 62)/\(acz i0)<n1))):i0<((2:Int) ^ 63):=YR h1.2.1 (by decide)
theorem Sr(h1:((0:Int)<=(i1+(n0:Int))/\(i1+(n0:Int))<(n0:Int))):(-(n0:Int))<=i1:=kt (aj (xB i1 n0) (.c 1 v7 (ad v0 v1) (.c 1 (ad v0 v8) (.neg v1) .e)) rfl h1.1)
theorem Ss(h1:n3=n2)(h2:n0<=(n1+n4))(h3:n4=n3):n0<=(n1+n2):=nA (aj (branch 2 (xB n0 n1) (branch 3 (leaf (n2:Int)) (branch 4 (leaf (n3:Int)) (leaf n4)))) (.c 1 v3 v2 (.c 1 v0 (ad v1 (.var 4)) (.c 1 (.var 4) v3 (.c 1 (ad (ad v1 v2) v8) v0 .e)))) rfl (ia h1) (aE h2) (ia h3))
theorem Su(h1:(-((2:Int) ^ 62))<i0)(h2:i0<((2:Int) ^ 62)):(¬(i0<(-((2:Int) ^ 63)))/\¬(((2:Int) ^ 63)<=i0)):=⟨fun g=>aj (leaf (i0:Int)) (.c 1 (ad (.num (-4611686018427387904)) v8) v0 (.c 1 (ad v0 v8) (.num (-9223372036854775808)) .e)) rfl h1 g,fun g=>aj (leaf (i0:Int)) (.c 1 (ad v0 v8) (nm 4611686018427387904) (.c 1 (nm 9223372036854775808) v0 .e)) rfl h2 g⟩
theorem Sv(h1:n0<=(3*n3))(h2:n1<=1)(h3:n2<=2):((n0+n1)+n2)<=(3*(n3+1)):=nA (aj (branch 2 (xB n0 n1) (branch 3 (leaf (n2:Int)) (leaf n3))) (.c 1 v0 (ml 3 v3) (.c 1 v1 v8 (.c 1 v2 (nm 2) (.c 1 (ad (ml 3 (ad v3 v8)) v8) (ad (ad v0 v1) v2) .e)))) rfl (aE h1) (aE h2) (aE h3))
theorem Sw(h1:(n1:Int)<(5:Int))(h2:n2=n1)(h3:n0<=(2*n2)):((n0+1)+(0+1))<=100000:=nA (aj (xC n0 n1 n2) (.c 2 (ad v1 v8) (nm 5) (.c 2 v2 v1 (.c 1 v0 (ml 2 v2) (.c 1 (ad (nm 100000) v8) (ad (ad v0 v8) (ad v7 v8)) .e)))) rfl h1 (ia h2) (aE h3))
theorem HG(h1:(i0=((n2:Int)+(n3:Int))/\n3<((n1+1)-n2))):i0<=(n1:Int):=h1.1▸aE (m:=n2+n3) (ZB (ZH n3 n2▸Nat.add_lt_of_lt_sub h1.2))
theorem sa{l a b i:Nat}{n:Int}(h1:l<a)(h3:b<64)(h:n=a+i/\i<(b+1)-a):(l:Int)<n/\n<64:=⟨by rw[h.1];exact Int.ofNat_lt.mpr (e9 h1 (ef a i)),Zp (HG h) (Int.ofNat_lt.mpr h3)⟩
theorem Sx(h1:n0<=(n1+n1))(h2:n1=100000):((-((2:Int) ^ 62))<(n0:Int)/\(n0:Int)<((2:Int) ^ 62)):=⟨qT fun g=>aj (leaf (n0:Int)) (.c 1 v0 (.num (-4611686018427387904)) (.c 1 v7 v0 .e)) rfl g (cu n0),qT (aj (xB n0 n1) (.c 1 v0 (ad v1 v1) (.c 2 v1 (nm 100000) (.c 1 (nm 4611686018427387904) v0 .e))) rfl (aE h1) (ia h2))⟩
theorem Sy(h1:n2=100000)(h2:n1<=(4*2))(h3:n3<=4)(h4:n0<=(40*n3)):(n0+n1)<=n2:=nA (aj (branch 2 (xB n0 n1) (branch 3 (leaf (n2:Int)) (leaf n3))) (.c 1 (nm 100000) v2 (.c 1 v1 (ml 4 (nm 2)) (.c 40 v3 (nm 4) (.c 1 v0 (ml 40 v3) (.c 1 (ad v2 v8) (ad v0 v1) .e))))) rfl (fV h1) (aE h2) (aE h3) (aE h4))
theorem Sz{i3 i4:Int}(h1:(n2+1)<=n1)(h2:(n0+(acz (i3-i4)))<=n2):(n0+1)<=n1:=bL (j5 (bL (ef _ _) h2)) h1
theorem SA(h1:((n2:Int)<i1/\i1<(64:Int)))(h2:(i0=((n3:Int)+(n4:Int))/\n4<((n2+1)-n3))):i0<i1:=Zp (HG h2) h1.1
theorem SD{n5:Nat}(h1:n2=100000)(h2:n1<=9)(h3:n3<=4)(h4:n4<=(40*n3))(h5:n0<=(n4+n5))(h6:n5<=(2*4)):(n0+n1)<=n2:=nA (aj (branch 3 (xC n0 n1 n2) (branch 4 (leaf (n3:Int)) (branch 5 (leaf (n4:Int)) (leaf n5)))) (.c 1 (nm 100000) v2 (.c 1 v1 (nm 9) (.c 40 v3 (nm 4) (.c 1 (.var 4) (ml 40 v3) (.c 1 v0 (ad (.var 4) (.var 5)) (.c 1 (.var 5) (ml 2 (nm 4)) (.c 1 (ad v2 v8) (ad v0 v1) .e))))))) rfl (fV h1) (aE h2) (aE h3) (aE h4) (aE h5) (aE h6))
theorem SE(h1:(i0=((n2:Int)+(n3:Int))/\n3<((n4+1)-n2)))(h2:(i1=((n2:Int)+((n3+1:Nat):Int))/\(n3+1)<((n4+1)-n2))):i0<i1:=h1.1▸h2.1▸Int.add_lt_add_left (Int.ofNat_lt.mpr (ZG n3)) n2
end
variable{E Q:am->aO->Prop}{I I0 L a d it:bQ}{M:Model}{N b c ch i j k ke last line m n n0 n1 n2 n3 n4 q tk:Nat}{P P' X X' Y' Z fp wr μ bV ν:List bQ}{Pp:Nat->am->ir->ir->Prop}{St:Nat->ir->Prop}{args elts es ts:List Expr}{body:List lI}{cd:aay}{ds us:List am}{e fu u y:am}{e0 env:YY}{elt iter o t target:Expr}{envs rest:List YY}{fd:Zf}{g x:fw}{h' h0 h₀ aF:ir}{hh i0 i1 row:Int}{items xs ys:Array am}{lr pre raw sep suf tl:List Nat}{ls:List (List Nat)}{ns:List Int}{ok:fw->Bool}{op:BoolOp}{ou:Option am}{p:YZ}{prog:aci}{s s':aO}{scope:gK}{sl:Array (Option am)}{w:aaZ}{α β γ:Type}
section
set_option genCtorIdx true
inductive Atom where
 | int (i:Int)
 | str (l:List Nat)
 deriving DecidableEq
theorem nn{a:α}{P:Prop}(h:none=some a):P:=by cases h
theorem oQ{a:α}{P:Prop}(h:some a=none):P:=by cases h
theorem si{a b:α}(h:some a=some b):a=b:=kH h
theorem ifs{c:Prop}[Decidable c]{a b:α}(h:(if c then some a else none)=some b):c/\a=b:=by
 by_cases q:c
 ·rw[if_pos q]at h;exact⟨q,si h⟩
 ·rw[if_neg q]at h;exact nn h
theorem NG{c:Prop}[Decidable c]{x:Option α}{b:α}(h:(if c then x else none)=some b):c/\x=some b:=by
 by_cases q:c
 ·rw[if_pos q]at h;exact⟨q,h⟩
 ·rw[if_neg q]at h;exact nn h
theorem ib{x:Option α}{f:α->Option β}{b:β}(h:x.bind f=some b):∃ a,x=some a/\f a=some b:=Option.bind_eq_some_iff.mp h
theorem mD{x:Option α}{f:α->β}{b:β}(h:x.map f=some b):∃ a,x=some a/\f a=b:=Option.map_eq_some_iff.mp h
theorem Ac{A:bY}{c:Prop}[Decidable c]{a b:Xm α}{Q:α->aO->Prop}(h:c)(k:wpAny M A a Q E s):wpAny M A (if c then a else b) Q E s:=by rw[if_pos h];exact k
theorem EM{A:bY}{c:Prop}[Decidable c]{a b:Xm α}{Q:α->aO->Prop}(h:¬c)(k:wpAny M A b Q E s):wpAny M A (if c then a else b) Q E s:=by rw[if_neg h];exact k
theorem mF(y z:fw)(b:α)(l:List (fw×α)):((z,b)::l).lookup y=if y=z then some b else l.lookup y:=by
 rw[dR];by_cases e:y=z
 ·rw[if_pos e,beq_iff_eq.mpr e]
 ·rw[if_neg e,beq_eq_false_iff_ne.mpr e]
theorem ab{T:Prop}(k:∀ G:Prop,(T->G)->G):T:=k T id
noncomputable abbrev aB(l:List Nat):fw:=⟨l.toArray⟩
theorem pI{a b:List Nat}(h:aB a=aB b):a=b:=by
 have:=congrArg (fun x:fw=>x.cps.toList) h;simpa using this
noncomputable def Atom.isOf:Atom->am->Bool
 | .int i,v=>adt i v
 | .str l,v=>abQ (aB l) v
theorem Atom.shape_int{i:Int}{v:am}(h:Atom.isOf (.int i) v=true):∃ t,v= .int i t:=Value.isInt_shape h
theorem Atom.shape_str{l:List Nat}{v:am}(h:Atom.isOf (.str l) v=true):∃ t,v= .str (aB l) t:=Value.isStrOf_shape h
section
variable{A:bY}
theorem tg{a:Int}{t:BY}{b:fw}{u:BY}{Q:Bool->aO->Prop}(h:Q false s) :
  wpAny (cr prog w) A (eqBool (.int a t) (.str b u)) Q E s:=by
 unfold eqBool;refine eG ?_;rw[if_neg (by simp)];exact aa (EqMixed.eq_int_str (ae7 h))
theorem th{a:fw}{t:BY}{b:Int}{u:BY}{Q:Bool->aO->Prop}(h:Q false s) :
  wpAny (cr prog w) A (eqBool (.str a t) (.int b u)) Q E s:=by
 unfold eqBool;refine eG ?_;rw[if_neg (by simp)];exact aa (EqMixed.eq_str_int (ae7 h))
end
noncomputable def Fy(w:aaZ):Atom->Int
 | .int i=>hashInt i
 | .str l=>hashStr w (aB l)
noncomputable def gE(prog:aci)(w:aaZ):KeyKind prog w Atom where
 is:=Atom.isOf
 hash:=Fy w
 inj:=fun v a b ha hb=>by
  cases a with
  | int i =>
   obtain⟨t,rfl⟩:=Atom.shape_int ha;cases b with
   | int j=>obtain⟨u,e⟩:=Atom.shape_int hb;injection e with e _;rw[e]
   | str l=>obtain⟨u,e⟩:=Atom.shape_str hb;cases e
  | str l =>
   obtain⟨t,rfl⟩:=Atom.shape_str ha;cases b with
   | int j=>obtain⟨u,e⟩:=Atom.shape_int hb;cases e
   | str m=>obtain⟨u,e⟩:=Atom.shape_str hb;injection e with e _;rw[pI e]
 byValue:=fun k v h=>by
  cases k with
  | int i=>obtain⟨t,rfl⟩:=Atom.shape_int h;rfl
  | str l=>obtain⟨t,rfl⟩:=Atom.shape_str h;rfl
 pyHash:=fun{A E s k v Q} hv h=>by
  cases k with
  | int i=>obtain⟨t,rfl⟩:=Atom.shape_int hv;exact wpAny_pyHash_int h
  | str l=>obtain⟨t,rfl⟩:=Atom.shape_str hv;exact wpAny_pyHash_str h
 eqBool:=fun{A E s a b u v Q} hu hv h=>by
  cases a with
  | int i =>
   obtain⟨t,rfl⟩:=Atom.shape_int hu;cases b with
   | int j =>
    obtain⟨u,rfl⟩:=Atom.shape_int hv;refine wpAny_eqBool_int ?_;have e:decide (Atom.int i=Atom.int j)=(i==j):=by by_cases q:i=j<;>simp[q]
    rw[<- e];exact h
   | str l =>
    obtain⟨u,rfl⟩:=Atom.shape_str hv;exact tg (by simpa using h)
  | str l =>
   obtain⟨t,rfl⟩:=Atom.shape_str hu;cases b with
   | int j=>obtain⟨u,rfl⟩:=Atom.shape_int hv;exact th (by simpa using h)
   | str m =>
    obtain⟨u,rfl⟩:=Atom.shape_str hv;refine wpAny_eqBool_str ?_;have e:decide (Atom.str l=Atom.str m)=decide (aB l=aB m):=by
     by_cases q:l=m
     ·simp[q]
     ·have:¬aB l=aB m:=fun z=>q (pI z)
      simp[q,this]
    rw[<- e];exact h
 «strs»:=fun k x t v h=>by
  cases k with
  | int i=>obtain⟨u,e⟩:=Atom.shape_int h;cases e
  | str l =>
   obtain⟨u,e⟩:=Atom.shape_str h;injection e with e _
   subst e;cases v<;>rfl
noncomputable abbrev bt(prog:aci)(w:aaZ):HeapKind prog w (List Atom):=tupleKind (gE prog w)
set_option genCtorIdx false in
inductive V where
 | none
 | bool (b:Bool)
 | int (i:Int)
 | str (l:List Nat)
 | tup (l:List V)
 | lst (l:List V)
 | dct (ks:List (List Atom)) (vs:List V)
 | ref (n:Nat)
 | sett (n:Nat)
 | typ (t:String)
 | bnd
noncomputable def V.ctorIdx(x:V):Nat:=V.casesOn x 0 (fun _=>1) (fun _=>2) (fun _=>3) (fun _=>4) (fun _=>5) (fun _ _=>6) (fun _=>7) (fun _=>8) (fun _=>9) 10
structure bw where
 prog:aci
 w:aaZ
 H:ir
 mg:fw->Option am
 mb:fw->Option am
 os:acj
 /-- the class Settings -/
 cS:bQ
 /-- the class SettingError -/
 cE:bQ
 /-- the table INDEX_BOUNDS -/
 cB:bQ
variable(B:bw)
noncomputable def Ad(h:ir)(a:bQ):Prop:=∃ o,h.get? a=some o/\o.dict=none
noncomputable def DictRep(h:ir)(X:List bQ)(d:bQ)(ks:List (List Atom))(us:List am):Prop :=
 ∃ xs:List (List Atom×bQ×am),h.DictOfH (bt B.prog B.w) d xs/\xs.map (·.1)=ks/\(∀ x∈xs,x.2.1∉X/\Ad h x.2.1)/\xs.map (·.2.2)=us
noncomputable def PlainT(h:ir)(a:bQ)(ti:Array am):Prop:=∃ o n,h.get? a=some o/\o.cls= .type "tuple"/\o.dict=none/\o.data= .seq ti n
theorem PlainT.isTuple{h:ir}{ti:Array am}(x:PlainT h a ti):h.IsTuple a ti:=let⟨o,n,e,c,_,d⟩:=x;⟨o,e,c,n,d⟩
mutual
noncomputable def Rep(h:ir)(μ X:List bQ):V->am->Prop
 | .none,u=>u= .none
 | .bool b,u=>u= .bool b
 | .int i,u=>∃ t,u= .int i t
 | .str l,u=>∃ t,u= .str (aB l) t
 | .tup l,u=>∃ a xs,u= .ref a/\a∉X/\PlainT h a xs/\Reps h μ X l xs.toList
 | .lst l,u=>∃ a xs,u= .ref a/\a∉X/\h.IsList a xs/\Reps h μ X l xs.toList
 | .dct ks vs,u=>∃ a us,u= .ref a/\a∉X/\DictRep B h X a ks us/\Reps h μ X vs us
 | .ref n,u=>∃ a,u= .ref a/\μ[n]?=some a
 | .sett n,u=>∃ a d r hh t,u= .ref a/\a∉X/\d∉X/\h.get? a=some (Y2 B.cS d)/\h.get? d=some (YM [⟨hh,.str (ac "rows") t,.ref r⟩] 1)/\μ[n]?=some r
 | .typ t,u=>u= .type t
 | .bnd,u=>u= .ref B.cB
noncomputable def Reps(h:ir)(μ X:List bQ):List V->List am->Prop
 | [],us=>us=[]
 | v::vs,us=>∃ u r,us=u::r/\Rep h μ X v u/\Reps h μ X vs r
end
noncomputable def Kp(X:List bQ)(h h':ir):Prop:=∀ a o,h.get? a=some o->a∉X->h'.get? a=some o
theorem Kp.refl(X:List bQ)(h:ir):Kp X h h:=fun _ _ e _=>e
theorem Kp.trans{bi eJ:ir}(x:Kp X aF bi)(y:Kp X bi eJ):Kp X aF eJ:=fun a o e n=>y a o (x a o e n) n
theorem Kp.mono{Y:List bQ}{h:ir}(x:Kp X h h')(k:∀ a∈X,a∈Y):Kp Y h h':=fun a o e n=>x a o e fun m=>n (k a m)
theorem Kp.of_keeps{h:ir}(k:∀ b o,h.get? b=some o->h'.get? b=some o):Kp X h h':=fun a o e _=>k a o e
theorem Kp.of_same{h:ir}(hs:fq a h h')(ha:a∈X):Kp X h h' :=
 fun b o e n=>(hs.2 b fun q=>n (q▸ha)).trans e
theorem Kp.push{h:ir}(x:Kp X h h')(o:Obj):Kp X h (h'.push o):=fun a o' e n=>ag _ (x a o' e n)
variable{B}{h:ir}
theorem DictRep.move{ks:List (List Atom)}(x:DictRep B h X d ks us)(k:Kp X h h')(hd:∀ o,h.get? d=some o->h'.get? d=some o)(hX:∀ a∈X',a∈X\/h.get? a=none):DictRep B h' X' d ks us:=by
 obtain⟨xs,⟨o,es,ep,ho,hx,eK,he,hk,hn⟩,h1,h2,h3⟩:=x;refine⟨xs,⟨o,es,ep,hd o ho,hx,eK,he,fun x hx=>?_,hn⟩,h1,fun x hx=>⟨fun hm=>?_,?_⟩,h3⟩
 ·obtain⟨o',items,n,fe,r⟩:=hk x hx;exact⟨o',items,n,k _ _ fe (h2 x hx).1,r⟩
 ·rcases hX _ hm with q|q
  ·exact(h2 x hx).1 q
  ·obtain⟨o',items,n,fe,r⟩:=hk x hx;rw[fe]at q;cases q
 ·obtain⟨ob,hb,hbd⟩:=(h2 x hx).2;exact⟨ob,k _ _ hb (h2 x hx).1,hbd⟩
theorem Cy(x:PlainT h a xs)(k:Kp X h h')(n:a∉X):PlainT h' a xs :=
 let⟨o,m,ho,r⟩:=x;⟨o,m,k _ _ ho n,r⟩
theorem Cz(x:h.IsList a xs)(k:Kp X h h')(n:a∉X):h'.IsList a xs :=
 let⟨o,ho,r⟩:=x;⟨o,k _ _ ho n,r⟩
theorem kI{o:Obj}(n:a∉X)(ho:h.get? a=some o)(hX:∀ a∈X',a∈X\/h.get? a=none):a∉X':=fun m=>by
 rcases hX _ m with q|q
 ·exact n q
 ·rw[ho]at q;cases q
section
variable{B:bw}{h:ir}
section
variable{l:List V}
theorem iR(r:Rep B h μ X (.tup l) u):∃ a xs,u= .ref a/\a∉X/\PlainT h a xs/\Reps B h μ X l xs.toList:=r
theorem ez(r:Rep B h μ X (.lst l) u):∃ a xs,u= .ref a/\a∉X/\h.IsList a xs/\Reps B h μ X l xs.toList:=r
theorem yh{ks:List (List Atom)}(r:Rep B h μ X (.dct ks l) u):∃ a us,u= .ref a/\a∉X/\DictRep B h X a ks us/\Reps B h μ X l us:=r
theorem dS{i:Int}(r:Rep B h μ X (.int i) u):∃ t,u= .int i t:=r
theorem c8{l:List Nat}(r:Rep B h μ X (.str l) u):∃ t,u= .str (aB l) t:=r
theorem dU(r:Rep B h μ X (.ref n) u):∃ a,u= .ref a/\μ[n]?=some a:=r
theorem w7(r:Rep B h μ X (.sett n) u):∃ a d r hh t,u= .ref a/\a∉X/\d∉X/\h.get? a=some (Y2 B.cS d)/\h.get? d=some (YM [⟨hh,.str (ac "rows") t,.ref r⟩] 1)/\μ[n]?=some r:=r
theorem iS(r:Rep B h μ X .none u):u= .none:=r
theorem pJ{b:Bool}(r:Rep B h μ X (.bool b) u):u= .bool b:=r
theorem EN{b:String}(r:Rep B h μ X (.typ b) u):u= .type b:=r
theorem EO(r:Rep B h μ X .bnd u):u= .ref B.cB:=r
theorem b8(r:Reps B h μ X [] us):us=[]:=r
theorem ba{v:V}(r:Reps B h μ X (v::l) us):∃ u r,us=u::r/\Rep B h μ X v u/\Reps B h μ X l r:=r
theorem eA(r:Rep B h μ X (.tup l) u):∃ a xs,u= .ref a/\a∉X/\h.IsTuple a xs/\Reps B h μ X l xs.toList :=
 (iR r).imp fun _ r=>r.imp fun _ r=>⟨r.1,r.2.1,r.2.2.1.isTuple,r.2.2.2⟩
theorem zN:Rep B h μ X .none .none:=rfl
theorem zB{b:Bool} : Rep B h μ X (.bool b) (.bool b):=rfl
theorem zT{b:String} : Rep B h μ X (.typ b) (.type b):=rfl
theorem zI{i:Int}{t:BY} : Rep B h μ X (.int i) (.int i t):=Exists.intro (p:=fun t'=>Value.int i t= .int i t') t rfl
theorem zS{l:List Nat}{t:BY} : Rep B h μ X (.str l) (.str (aB l) t):=Exists.intro (p:=fun t'=>ad6 (aB l) t= .str (aB l) t') t rfl
theorem z0:Reps B h μ X [] []:=rfl
theorem zC{v:V}(a:Rep B h μ X v u)(b:Reps B h μ X l us):Reps B h μ X (v::l) (u::us):=show ∃ u' r,u::us=u'::r/\_/\_ from⟨u,us,rfl,a,b⟩
theorem z1{v:V}(a:Rep B h μ X v u):Reps B h μ X [v] [u]:=zC a z0
theorem CA(n:a∉X)(p:PlainT h a xs)(q:Reps B h μ X l xs.toList):Rep B h μ X (.tup l) (.ref a):=show ∃ a' xs,gH a= .ref a'/\_ from⟨a,xs,rfl,n,p,q⟩
theorem zL(n:a∉X)(p:h.IsList a xs)(q:Reps B h μ X l xs.toList):Rep B h μ X (.lst l) (.ref a):=show ∃ a' xs,gH a= .ref a'/\_ from⟨a,xs,rfl,n,p,q⟩
theorem zD{ks:List (List Atom)}(n:a∉X)(p:DictRep B h X a ks us)(q:Reps B h μ X l us):Rep B h μ X (.dct ks l) (.ref a):=show ∃ a' xs,gH a= .ref a'/\_ from⟨a,us,rfl,n,p,q⟩
theorem zR(e:μ[n]?=some a):Rep B h μ X (.ref n) (.ref a):=show ∃ a',gH a= .ref a'/\_ from⟨a,rfl,e⟩
theorem SG{r:bQ}{t:BY}(na:a∉X)(nd:d∉X)(h1:h.get? a=some (Y2 B.cS d))(h2:h.get? d=some (YM [⟨hh,.str (ac "rows") t,.ref r⟩] 1))(e:μ[n]?=some r) :
  Rep B h μ X (.sett n) (.ref a):=show ∃ a' d r hh t,gH a= .ref a'/\_ from⟨a,d,r,hh,t,rfl,na,nd,h1,h2,e⟩
end
noncomputable def SH(B:bw)(h h':ir)(μ bV X X':List bQ)(v:V):Prop:=∀ u,Rep B h μ X v u->Rep B h' bV X' v u
noncomputable def SI(B:bw)(h h':ir)(μ bV X X':List bQ)(v:List V):Prop:=∀ u,Reps B h μ X v u->Reps B h' bV X' v u
theorem Rep.mv(k:Kp X h h')(hm:∀ (n:Nat) (a:bQ),μ[n]?=some a->bV[n]?=some a)(hX:∀ a∈X',a∈X\/h.get? a=none):∀ v,SH B h h' μ bV X X' v:=by
 refine V.rec (motive_1:=SH B h h' μ bV X X') (motive_2:=SI B h h' μ bV X X') (fun _ r=>r) (fun _ _ r=>r) (fun _ _ r=>r) (fun _ _ r=>r) (fun l ih u r=>?_) (fun l ih u r=>?_) (fun ks l ih u r=>?_) (fun n u r=>?_) (fun n u r=>?_) (fun _ _ r=>r) (fun _ r=>r) (fun _ r=>r) fun v vs i1 i2 us r=>?_
 ·obtain⟨a,xs,rfl,n,ht,hr⟩:=iR r;have⟨o,_,ho,_⟩:=ht;exact CA (kI n ho hX) (Cy ht k n) (ih _ hr)
 ·obtain⟨a,xs,rfl,n,ht,hr⟩:=ez r;have⟨o,ho,_⟩:=ht;exact zL (kI n ho hX) (Cz ht k n) (ih _ hr)
 ·obtain⟨a,us,rfl,n,hd,hr⟩:=yh r;have⟨_,⟨o,_,_,ho,_⟩,_⟩:=hd;exact zD (kI n ho hX) (hd.move k (fun o e=>k a o e n) hX) (ih _ hr)
 ·obtain⟨a,rfl,e⟩:=dU r;exact zR (hm _ _ e)
 ·obtain⟨a,d,q,hh,t,rfl,na,nd,h1,h2,e⟩:=w7 r;exact SG (kI na h1 hX) (kI nd h2 hX) (k _ _ h1 na) (k _ _ h2 nd) (hm _ _ e)
 ·obtain⟨u,q,rfl,r1,r2⟩:=ba r;exact zC (i1 _ r1) (i2 _ r2)
theorem Rep.move(v:V)(r:Rep B h μ X v u)(k:Kp X h h')(hm:∀ (n:Nat) (a:bQ),μ[n]?=some a->bV[n]?=some a)(hX:∀ a∈X',a∈X\/h.get? a=none):Rep B h' bV X' v u:=Rep.mv k hm hX v u r
theorem Reps.move(vs:List V)(r:Reps B h μ X vs us)(k:Kp X h h')(hm:∀ (n:Nat) (a:bQ),μ[n]?=some a->bV[n]?=some a)(hX:∀ a∈X',a∈X\/h.get? a=none):Reps B h' bV X' vs us:=by
 induction vs generalizing us with
 | nil=>exact r
 | cons v vs ih =>
  obtain⟨u,q,rfl,r1,r2⟩:=ba r;exact zC (Rep.mv k hm hX v u r1) (ih r2)
end
end
local macro_rules
  | `(tactic| rfl') => `(tactic| kernel_rfl)
variable{B:bw}{acc l vs dA ws:List V}{f:V->V->Option Bool}{kind out v:V}{kk:List Atom}{ks:List (List Atom)}{o1 o2 o3 ov:Option V}
section
set_option genInjectivity false
inductive R(α:Type) where
 | ok (a:α)
 | exc (row:Int)
 | stuck
noncomputable def R.ctorIdx{α:Type}(x:R α):Nat:=R.casesOn x (fun _=>0) (fun _=>1) 2
noncomputable def R.bind{α β:Type}(x:R α)(f:α->R β):R β:=match x with
 | .ok a=>f a
 | .exc row=>.exc row
 | .stuck=>.stuck
inductive Cell where
 | list (l:List V)
 | dict (ks:List (List Atom)) (vs:List V)
noncomputable def Cell.ctorIdx(x:Cell):Nat:=Cell.casesOn x (fun _=>0) (fun _ _=>1)
noncomputable abbrev U:=List Cell
noncomputable abbrev af:=List (fw×Option V)
noncomputable abbrev aG:=List V->U->R (V×U)
mutual
noncomputable def V.toPy:V->Option ae3
 | .none=>some .none
 | .bool b=>some (.bool b)
 | .int i=>some (.int i)
 | .str l=>some (.str (aB l))
 | .tup l=>(V.toPys l).map .tuple
 | .lst l=>(V.toPys l).map .list
 | .dct _ _=>YO
 | .ref _=>YO
 | .sett _=>YO
 | .typ _=>YO
 | .bnd=>YO
noncomputable def V.toPys:List V->Option (List ae3)
 | []=>some []
 | v::vs=>(V.toPy v).bind fun d=>(V.toPys vs).map fun ds=>d::ds
end
noncomputable abbrev ai:Nat:=100000
noncomputable def ah{α:Type}(x:Option α):R α:=match x with
 | some a=>.ok a
 | none=>.stuck
noncomputable def V.truth:V->Option Bool
 | .none=>some false
 | .bool b=>some b
 | .int i=>some (!(decide (i=0)))
 | _=>YO
noncomputable def pK:V->Option Atom
 | .int i=>some (.int i)
 | .str l=>some (.str l)
 | _=>none
noncomputable def dC:List V->Option (List Atom)
 | []=>some []
 | v::vs=>(pK v).bind fun a=>(dC vs).map fun r=>a::r
noncomputable def fg:V->Option (List Atom)
 | .tup l=>dC l
 | _=>none
noncomputable def Atom.toV:Atom->V
 | .int i=>.int i
 | .str l=>.str l
noncomputable def dO:V->Option Int
 | .int i=>some i
 | _=>none
noncomputable def j9:V->Option (List Nat)
 | .str i=>some i
 | _=>none
noncomputable def M3:V->Option (List V)
 | .lst l=>some l
 | _=>none
noncomputable def vInt(op:acd)(x y:Int):Option V:=match op with
 | .Add=>some (.int (x+y))
 | .Sub=>some (.int (x-y))
 | .Mult=>if -(2 ^ 64)<x/\x<2 ^ 64 then some (.int (x*y))else none
 | .Mod=>if 0<y/\y<2 ^ 64 then some (.int (x.fmod y))else none
 | .Pow=>if x=10/\y=18 then some (.int (10 ^ 18))else none
 | .FloorDiv=>if 0<y/\y<2 ^ 29 then some (.int (x.fdiv y))else none
 | _=>none
noncomputable def b9(op:acd)(a b:V):Option V:=match a with
 | .int x=>(dO b).bind (vInt op x)
 | .str x=>match op with
  | .Add=>(j9 b).bind fun y=>if x.length+y.length<=ai then some (.str (x++y))else none
  | _=>none
 | .lst x=>match op with
  | .Add=>(M3 b).bind fun y=>if x.length+y.length<=ai then some (.lst (x++y))else none
  | _=>none
 | _=>none
noncomputable def NH(op:UnaryOp)(a:V):Option V:=match op,a with
 | .USub,.int x=>some (.int (-x))
 | .Not,v=>v.truth.map fun b=>.bool (!b)
 | _,_=>none
noncomputable def fM(a b:V):Option Bool:=a.toPy.bind fun da=>b.toPy.bind fun db =>
 if iI da=true/\iI db=true then some (Yz da db)else none
noncomputable def pL:List Nat->List Nat->Bool
 | [],_=>true
 | _::_,[]=>false
 | a::x,b::y=>if a<b then true else if a=b then pL x y else false
noncomputable def ij:List Nat->List Nat->Bool
 | [],_=>true
 | _::_,[]=>false
 | a::x,b::y=>a==b&&ij x y
noncomputable def lJ(x:List Nat):List Nat->Bool
 | []=>ij x []
 | b::y=>ij x (b::y)||lJ x y
noncomputable def t4(x:V)(l:List V):Option Bool:=x.toPy.bind fun d=>(V.toPys l).bind fun ds =>
 if d.canLay0=true/\Zr ds=true/\d.depth<=64 then some (ds.any fun y=>Yz y d)else none
noncomputable def Fz(x c:V)(O:U):Option Bool:=match c with
 | .str y=>match x with
  | .str z=>some (lJ z y)
  | _=>none
 | .tup l=>t4 x l
 | .lst l=>t4 x l
 | .ref n=>match O[n]? with
  | some (.dict ks _)=>(fg x).map fun k=>ks.contains k
  | _=>none
 | _=>none
noncomputable def jB(ks:List (List Atom))(vs:List V)(d1:List (List Atom))(gv:List V):Option Bool:=match ks,vs with
 | [],[]=>some true
 | k::ks,v::vs=>match(d1.zip gv).lookup k with
  | none=>some false
  | some v'=>(fM v v').bind fun b=>if b=true then jB ks vs d1 gv else some false
 | _,_=>none
noncomputable def lK(ks:List (List Atom))(vs:List V)(d1:List (List Atom))(gv:List V):Option Bool :=
 if ks.length=d1.length then jB ks vs d1 gv else some false
noncomputable def c6(v:V)(O:U):Option (List (List Atom)×List V):=match v with
 | .dct ks vs=>some (ks,vs)
 | .ref n=>match O[n]? with
  | some (.dict ks vs)=>some (ks,vs)
  | _=>none
 | _=>none
noncomputable def CB:V->Bool
 | .lst l=>l.isEmpty
 | _=>false
noncomputable def cv(v:V)(O:U):Option (List V):=match v with
 | .lst l=>some l
 | .ref n=>match O[n]? with
  | some (.list l)=>some l
  | _=>none
 | _=>none
noncomputable def isNone:V->Bool
 | .none=>true
 | _=>false
noncomputable def t5:V->Bool
 | .ref _=>true
 | .lst _=>true
 | _=>false
noncomputable def nM(a b:V)(O:U):Option Bool:=match c6 a O with
 | some p=>(c6 b O).bind fun q=>lK p.1 p.2 q.1 q.2
 | none=>match c6 b O with
  | some _=>none
  | none=>if(CB b&&t5 a)=true then(cv a O).map List.isEmpty else fM a b
noncomputable def Ae(f:Int->Int->Bool)(a b:V):Option Bool:=(dO a).bind fun x=>(dO b).map fun y=>f x y
noncomputable def av(op:acR)(a b:V)(O:U):Option Bool:=match op with
 | .Eq=>nM a b O
 | .NotEq=>(nM a b O).map fun x=>!x
 | .Lt=>Ae (fun x y=>decide (x<y)) a b
 | .LtE=>match j9 a with
  | none=>Ae (fun x y=>decide (x<=y)) a b
  | some x=>(j9 b).map fun y=>pL x y
 | .Gt=>Ae (fun x y=>decide (x>y)) a b
 | .GtE=>Ae (fun x y=>decide (x>=y)) a b
 | .Is=>if isNone b=true then some (isNone a)else none
 | .IsNot=>if isNone b=true then some (!(isNone a))else none
 | .In=>Fz a b O
 | .NotIn=>(Fz a b O).map fun x=>!x
noncomputable def mx{α:Type}(l:List α)(i:Int):Option α:=if -(2 ^ 62)<i/\i<2 ^ 62 then(ZO i l.length).bind fun k=>l[k]? else none
noncomputable def bounds:List (List Nat×Int×Int) :=
 [("<vlan>".toList.map abd,1,4094),("<port>".toList.map abd,1,512),("<row>".toList.map abd,1,9999),("<queue>".toList.map abd,0,7),("<mirror>".toList.map abd,1,8)]
noncomputable def bC(o i:V)(O:U):Option V:=match o with
 | .str l=>(dO i).bind fun k=>(mx l k).map fun c=>.str [c]
 | .tup l=>(dO i).bind fun k=>mx l k
 | .lst l=>(dO i).bind fun k=>mx l k
 | .bnd=>(j9 i).bind fun l=>(bounds.lookup l).map fun b=>.tup [.int b.1,.int b.2]
 | .ref n=>match O[n]? with
  | some (.list l)=>(dO i).bind fun k=>mx l k
  | some (.dict ks vs)=>(fg i).bind fun k=>(ks.zip vs).lookup k
  | none=>none
 | _=>none
noncomputable def cf(n:Nat)(i:Int):Nat:=(max 0 (min (if i<0 then i+n else i) n)).toNat
noncomputable def cut{α:Type}(l:List α)(lo hi:Option Int):List α :=
 let a:=match lo with|some i=>cf l.length i|none=>0
 let b:=match hi with|some i=>cf l.length i|none=>l.length
 (l.drop a).take (b-a)
noncomputable def bg(o:V)(lo hi:Option Int):Option V:=match o with
 | .str l=>if l.length<=ai then some (.str (cut l lo hi))else none
 | .tup l=>if l.length<=ai then some (.tup (cut l lo hi))else none
 | .lst l=>if l.length<=ai then some (.lst (cut l lo hi))else none
 | _=>none
noncomputable def aI:V->Option (Option Int)
 | .none=>some none
 | .int i=>if -(2 ^ 62)<i/\i<2 ^ 62 then some (some i)else none
 | _=>none
noncomputable def fx(v:V)(t:String):Option Bool:=match v with
 | .none=>if t="int"\/t="bool"\/t="str"\/t="tuple" then some false else none
 | .bool _=>if t="int"\/t="bool" then some true else if t="str"\/t="tuple" then some false else none
 | .int _=>if t="int" then some true else if t="bool"\/t="str"\/t="tuple" then some false else none
 | .str _=>if t="str" then some true else if t="bool"\/t="int"\/t="tuple" then some false else none
 | .tup _=>if t="tuple" then some true else if t="bool"\/t="int"\/t="str" then some false else none
 | _=>none
noncomputable def mi(v:V)(O:U):Option V:=match v with
 | .str l=>if l.length<=ai then some (.int l.length)else none
 | .tup l=>if l.length<=ai then some (.int l.length)else none
 | .lst l=>if l.length<=ai then some (.int l.length)else none
 | .ref n=>match O[n]? with
  | some (.list l)=>if l.length<=ai then some (.int l.length)else none
  | _=>none
 | _=>none
noncomputable def fN(c:Nat):Bool:=decide (48<=c)&&decide (c<=57)
noncomputable def qU:List Nat->Nat->Nat
 | [],a=>a
 | c::r,a=>qU r (a*10+(c-48))
noncomputable def eZ:List V->Option (List (List Nat))
 | []=>some []
 | .str l::r=>(eZ r).map fun q=>l::q
 | _::_=>none
noncomputable def an(sep:List Nat):List (List Nat)->List Nat
 | []=>[]
 | [x]=>x
 | x::r=>x++sep++an sep r
noncomputable def cT:List (List Nat)->Nat
 | []=>0
 | x::r=>x.length+cT r
noncomputable def ao(c:Nat):List Nat->List (List Nat)
 | []=>[[]]
 | a::r=>if a=c then[]::ao c r else match ao c r with
  | []=>[[a]]
  | p::ps=>(a::p)::ps
noncomputable def cU:List V->Option (List (List Atom)×List V)
 | []=>some ([],[])
 | .tup [k,v]::r=>(fg k).bind fun k=>(cU r).map fun q=>(k::q.1,v::q.2)
 | _::_=>none
noncomputable def aH(i:Int):List Nat:=(toString i).toList.map abd
noncomputable def gI(f:fw)(vs:List V)(O:U):Option V :=
 if f=ac "len" then match vs with
  | [v]=>mi v O
  | _=>none
 else if f=ac "isinstance" then match vs with
  | [v,.typ t]=>(fx v t).map .bool
  | _=>none
 else if f=ac "int" then match vs with
  | [.str l]=>if l≠[]/\l.length<=10/\l.all fN=true then some (.int (qU l 0))else none
  | _=>none
 else if f=ac "str" then match vs with
  | [.int i]=>if -(10 ^ 18)<i/\i<10 ^ 18 then some (.str (aH i))else none
  | _=>none
 else if f=ac "tuple" then match vs with
  | [v]=>match cv v O with
   | some l=>if l.length<=ai then some (.tup l)else none
   | none=>none
  | _=>none
 else if f=ac "list" then match vs with
  | [.lst l]=>if l.length<=ai then some (.lst l)else none
  | _=>none
 else if f=ac "dict" then match vs with
  | [.tup l]=>match cU l with
   | some (ks,us)=>if ks.Nodup/\l.length<=ai then some (.dct ks us)else none
   | none=>none
  | _=>none
 else none
noncomputable def cV(o:V)(m:fw)(vs:List V)(O:U):Option V:=match o with
 | .str s =>
  if m=ac "join" then match vs with
   | [v]=>match(cv v O).bind eZ with
    | some q=>if cT q+q.length*s.length<=ai/\q.length<=ai then some (.str (an s q))else none
    | none=>none
   | _=>none
  else if m=ac "split" then match vs with
   | [.str [c]]=>if s.length<=ai then some (.lst ((ao c s).map .str))else none
   | _=>none
  else none
 | .ref n =>
  if m=ac "get" then match vs,O[n]? with
   | [k,d],some (.dict ks us)=>(fg k).map fun k=>match(ks.zip us).lookup k with
    | some v=>v
    | none=>d
   | _,_=>none
  else none
 | _=>none
structure bJ where
 glob:fw->Option V
 fns:List (fw×aG)
 meths:List (fw×aG)
noncomputable def yi:Const->Option V
 | .none=>some .none
 | .bool b=>some (.bool b)
 | .int i=>some (.int i)
 | .str s=>some (.str s.cps.toList)
 | _=>none
noncomputable def tH(T:bJ)(sc:gK)(x:fw)(ρ:af):Option V:=if(x==ac "__debug__")=true then none else match ρ.lookup x with
 | some ov=>ov
 | none=>match sc.names.lookup x with
  | some .globalImplicit=>T.glob x
  | _=>none
noncomputable def tst(x:R (V×U)):R (Bool×U):=x.bind fun c=>(ah c.1.truth).bind fun b=>.ok (b,c.2)
noncomputable def a9(f:Expr->U->R (V×U)):List Expr->U->R (List V×U)
 | [],O=>.ok ([],O)
 | e::es,O=>(f e O).bind fun a=>(a9 f es a.2).bind fun r=>.ok (a.1::r.1,r.2)
noncomputable def jt(f:Expr->U->R (V×U))(op:BoolOp):List Expr->U->R (V×U)
 | [],_=>.stuck
 | [e],O=>f e O
 | e::es,O=>(f e O).bind fun a=>(ah a.1.truth).bind fun t=>match op,t with
   | .And,true=>jt f op es a.2
   | .Or,false=>jt f op es a.2
   | _,_=>.ok (a.1,a.2)
noncomputable def fW(f:Expr->U->R (V×U))(left:V):List acR->List Expr->U->R (V×U)
 | [op],[e],O=>(f e O).bind fun a=>(ah (av op left a.1 a.2)).bind fun b=>.ok (.bool b,a.2)
 | op::op2::cA,e::e2::es,O=>(f e O).bind fun a=>(ah (av op left a.1 a.2)).bind fun b=>if b=true then fW f a.1 (op2::cA) (e2::es) a.2 else .ok (.bool false,a.2)
 | _,_,_=>.stuck
noncomputable def aV(x:fw)(v:V):af->Option af
 | []=>none
 | (y,ov)::r=>if y=x then some ((y,some v)::r)else(aV x v r).map fun q=>(y,ov)::q
noncomputable def gU(sc:gK)(x:fw):Bool:=sc.names.lookup x==some .local
noncomputable def cL(sc:gK)(x:fw):Bool:=(sc.names.lookup x==some .local)||(sc.names.lookup x==some .cell)
mutual
noncomputable def bx(ok:fw->Bool):Expr->V->af->Option af
 | .Name x _,v,ρ=>if ok x=true then aV x v ρ else none
 | .Tuple ts _ _,.tup vs,ρ=>dB ok ts vs ρ
 | _,_,_=>none
noncomputable def dB(ok:fw->Bool):List Expr->List V->af->Option af
 | [],[],ρ=>some ρ
 | t::ts,v::vs,ρ=>(bx ok t v ρ).bind fun aU=>dB ok ts vs aU
 | _,_,_=>none
end
noncomputable def jf:Nat->List V->List V
 | _,[]=>[]
 | i,v::vs=>.tup [.int i,v]::jf (i+1) vs
noncomputable def w8:List V->List V->List V
 | a::as,b::bs=>.tup [a,b]::w8 as bs
 | _,_=>[]
noncomputable def bc(lo:Int):Nat->List V
 | 0=>[]
 | n+1=>.int lo::bc (lo+1) n
noncomputable def qV(v:V):Option (List V):=match v with
 | .tup l=>some l
 | .lst l=>some l
 | .str l=>some (l.map fun c=>.str [c])
 | _=>none
noncomputable def eB:Expr->Bool
 | .Tuple _ _ _=>true
 | _=>false
noncomputable def noStar:List Expr->Bool
 | []=>true
 | .Starred _ _::_=>false
 | _::es=>noStar es
noncomputable def bW(args:List Expr):Bool:=noStar args&&decide (args.length<30)
noncomputable def fX{α:Type} : List α->Option α
 | []=>none
 | x::xs=>match xs with
  | []=>some x
  | _::_=>none
noncomputable def pM{α:Type} : List α->Option (α×α)
 | []=>none
 | x::xs=>(fX xs).map fun y=>(x,y)
noncomputable def M4:V->Option (List V)
 | .tup l=>some l
 | _=>none
noncomputable def HH:V->Option (List V)
 | .tup l=>some l
 | .lst l=>some l
 | _=>none
noncomputable def nN(x:V×V):Option (List V):=(dO x.1).bind fun lo=>(dO x.2).bind fun hi=>if lo<2 ^ 31/\-(2 ^ 31)<lo/\hi<2 ^ 31/\-(2 ^ 31)<hi then some (bc lo (hi-lo).toNat)else none
noncomputable def kJ(vs:List V):Option (List V):=match fX vs with
 | some v=>(dO v).bind fun hi=>if hi<2 ^ 31/\-(2 ^ 31)<hi then some (bc 0 hi.toNat)else none
 | none=>(pM vs).bind nN
noncomputable def iF(vs:List V)(O:U):R (List V×U):=(ah (kJ vs)).bind fun l=>.ok (l,O)
noncomputable def yj(vs:List V)(O:U):R (List V×U):=(ah ((fX vs).bind HH)).bind fun l=>.ok (jf 0 l,O)
noncomputable def M5(vs:List V)(O:U):R (List V×U):=(ah ((pM vs).bind fun x=>(M4 x.1).bind fun l=>(HH x.2).map fun m=>w8 l m)).bind fun l=>.ok (l,O)
noncomputable def ik:Expr->Option fw
 | .Name x _=>some x
 | _=>none
noncomputable def im:Expr->Option (Expr×List Expr×YZ)
 | .Call f args pN q=>match pN with
  | []=>some (f,args,q)
  | _::_=>none
 | _=>none
noncomputable def pO(f:Expr->U->R (V×U))(pP:fw->Bool)(kK:Bool)(e:Expr)(O:U)(x:Option (fw×List Expr)):R (List V×U):=match x with
 | some a =>
  if a.1=ac "range"/\pP a.1=true then if bW a.2=true then(a9 f a.2 O).bind fun a=>iF a.1 a.2 else .stuck
  else if a.1=ac "enumerate"/\pP a.1=true then if(bW a.2&&kK)=true then(a9 f a.2 O).bind fun a=>yj a.1 a.2 else .stuck
  else if a.1=ac "zip"/\pP a.1=true then if(bW a.2&&kK)=true then(a9 f a.2 O).bind fun a=>M5 a.1 a.2 else .stuck
  else(f e O).bind fun a=>(ah (qV a.1)).bind fun l=>.ok (l,a.2)
 | none=>(f e O).bind fun a=>(ah (qV a.1)).bind fun l=>.ok (l,a.2)
noncomputable def lL(e:Expr):Option (fw×List Expr):=(im e).bind fun a=>(ik a.1).map fun g=>(g,a.2.1)
noncomputable def dX(f:Expr->U->R (V×U))(pP:fw->Bool)(kK:Bool)(e:Expr)(O:U):R (List V×U):=pO f pP kK e O (lL e)
noncomputable def bK(scope sc:gK):gK :=
 { scope with names:=scope.names.map fun(n,k)=>if(k==.free&&sc.kind==.function&&sc.names.lookup n==some .cell)then(n,.cell)else(n,k) }
noncomputable def jC(sc:gK)(ρ:af):List (fw×YB)->Option af
 | []=>some []
 | (x,k)::r=>(jC sc ρ r).bind fun q=>match k with
  | .local=>some ((x,none)::q)
  | .free=>if(sc.names.lookup x==some .cell||sc.names.lookup x==some .free)=true then(ρ.lookup x).map fun ov=>(x,ov)::q else none
  | .globalImplicit=>some q
  | _=>none
noncomputable def io(scope sc:gK)(ρ:af):Option af:=jC sc ρ scope.names
noncomputable def iT(f:gK->Expr->af->U->R (V×U))(sc:gK)(ifs:List Expr)(ρ:af)(O:U):R (Bool×U):=match ifs with
 | []=>.ok (true,O)
 | t::ts=>match ts with
  | []=>tst (f sc t ρ O)
  | _::_=>.stuck
noncomputable def dY(f:gK->Expr->af->U->R (V×U))(sc:gK)(elt target:Expr)(ifs:List Expr)(fO:af):List V->U->R (List V×U)
 | [],O=>.ok ([],O)
 | v::vs,O=>(ah (bx (gU sc) target v fO)).bind fun bj=>(iT f sc ifs bj O).bind fun c=>match c.1 with
   | false=>dY f sc elt target ifs bj vs c.2
   | true=>(f sc elt bj c.2).bind fun a=>(dY f sc elt target ifs bj vs a.2).bind fun r=>.ok (a.1::r.1,r.2)
noncomputable def bd(sc:gK)(ρ:af)(x:fw):Bool:=(ρ.lookup x).isNone&&(sc.names.lookup x==some .globalImplicit)&&!(x==ac "__debug__")
noncomputable def cM:Expr->Bool
 | .Name _ _=>true
 | .Tuple _ _ _=>true
 | _=>false
noncomputable def lM(scope:gK):Bool:=decide (scope.kind= .function)&&decide (scope.names.map (·.1)).Nodup&&scope.names.all fun x=>decide (x.2≠.cell)&&(decide (x.2≠.local)||decide (scope.names.lookup x.1=some .local))&&!(x.1==ac "__classdict__")
noncomputable def kL(f:Expr->U->R (V×U)):Option Expr->U->R (V×U)
 | none,O=>.ok (.none,O)
 | some e,O=>f e O
noncomputable def eS(g:fw):Bool:=(g==ac "len")||(g==ac "isinstance")||(g==ac "int")||(g==ac "str")||(g==ac "tuple")||(g==ac "list")||(g==ac "dict")
noncomputable def jD(T:bJ)(o:V)(m:fw)(O:U):Bool:=match o with
 | .str _=>(m==ac "join")||(m==ac "split")
 | .ref n=>match O[n]? with
  | some (.dict _ _)=>m==ac "get"
  | _=>false
 | .sett _=>(T.meths.lookup m).isSome
 | _=>false
noncomputable def ahu:V->Option Nat
 | .sett k=>some k
 | _=>none
noncomputable def jg(T:bJ)(m:fw)(o:V)(vs:List V)(O:U):R (V×U):=match ahu o with
 | some k=>match T.meths.lookup m with
  | some F=>F (.sett k::vs) O
  | none=>.stuck
 | none=>(ah (cV o m vs O)).bind fun v=>.ok (v,O)
noncomputable def ju:Expr->Option (Option Expr×Option Expr)
 | .Slice lo hi st _=>match st with
  | none=>some (lo,hi)
  | some _=>none
 | _=>none
noncomputable def HI:Expr->Option (Expr×fw×YZ)
 | .Attribute o m p=>some (o,m,p)
 | _=>none
noncomputable def mG(gens:List aaA):Option (Expr×Expr×List Expr):=(fX gens).bind fun g=>if g.is_async=0 then some (g.target,g.iter,g.ifs)else none
noncomputable def mH(ks:List (Option Expr))(vs:List Expr):Option (Expr×Expr):=(fX ks).bind fun k=>k.bind fun k=>(fX vs).map fun v=>(k,v)
noncomputable def yk(T:bJ)(sc:gK)(ρ:af)(f:Expr->U->R (V×U))(args:List Expr)(pos:YZ)(O:U)(x:Option fw)(y:Option (Expr×fw×YZ)):R (V×U):=match x with
 | some g=>if(bd sc ρ g&&bW args)=true then match T.fns.lookup g with
   | some F=>(a9 f args O).bind fun a=>F a.1 a.2
   | none=>if eS g=true then(a9 f args O).bind fun a=>(ah (gI g a.1 a.2)).bind fun v=>.ok (v,a.2)else .stuck
   else .stuck
 | none=>match y with
  | some x=>if(bW args&&(x.2.2.endLine==pos.line))=true then
    (f x.1 O).bind fun a=>if jD T a.1 x.2.1 a.2=true then(a9 f args a.2).bind fun b=>jg T x.2.1 a.1 b.1 b.2
    else .stuck
    else .stuck
  | none=>.stuck
noncomputable def ev(T:bJ):Nat->gK->Expr->af->U->R (V×U)
 | 0,_,_,_,_=>.stuck
 | n+1,sc,e,ρ,O=>match e with
  | .Constant c _ _=>(ah (yi c)).bind fun v=>.ok (v,O)
  | .Name x _=>(ah (tH T sc x ρ)).bind fun v=>.ok (v,O)
  | .BoolOp op es _=>jt (fun e O=>ev T n sc e ρ O) op es O
  | .BinOp l op r _=>(ev T n sc l ρ O).bind fun a=>(ev T n sc r ρ a.2).bind fun b=>(ah (b9 op a.1 b.1)).bind fun v=>.ok (v,b.2)
  | .UnaryOp op x _=>(ev T n sc x ρ O).bind fun a=>(ah (NH op a.1)).bind fun v=>.ok (v,a.2)
  | .IfExp t a b _=>(tst (ev T n sc t ρ O)).bind fun c=>match c.1 with
   | true=>ev T n sc a ρ c.2
   | false=>ev T n sc b ρ c.2
  | .Compare l cA rs _=>if aat cA rs=true then .stuck else(ev T n sc l ρ O).bind fun a=>fW (fun e O=>ev T n sc e ρ O) a.1 cA rs a.2
  | .Tuple es _ _=>(a9 (fun e O=>ev T n sc e ρ O) es O).bind fun a=>if a.1.length<=ai then .ok (.tup a.1,a.2)else .stuck
  | .List es _=>(a9 (fun e O=>ev T n sc e ρ O) es O).bind fun a=>if a.1.length<=ai then .ok (.lst a.1,a.2)else .stuck
  | .Subscript o i _=>match ju i with
   | some x=>(ev T n sc o ρ O).bind fun a=>(kL (fun e O=>ev T n sc e ρ O) x.1 a.2).bind fun b =>
    (kL (fun e O=>ev T n sc e ρ O) x.2 b.2).bind fun c=>(ah (aI b.1)).bind fun i=>(ah (aI c.1)).bind fun j=>(ah (bg a.1 i j)).bind fun v=>.ok (v,c.2)
   | none=>(ev T n sc o ρ O).bind fun a=>(ev T n sc i ρ a.2).bind fun b=>(ah (bC a.1 b.1 b.2)).bind fun v=>.ok (v,b.2)
  | .Attribute o x _=>(ev T n sc o ρ O).bind fun a=>match ahu a.1 with
   | some k=>if x=ac "rows" then .ok (.ref k,a.2)else .stuck
   | none=>.stuck
  | .Call f args pN pos=>match pN with
   | []=>yk T sc ρ (fun e O=>ev T n sc e ρ O) args pos O (ik f) (HI f)
   | _::_=>.stuck
  | .ListComp elt gens scope _=>match mG gens with
   | some x=>if(cM x.1&&lM scope)=true then(ah (io scope sc ρ)).bind fun fO=>((dX (fun e O=>ev T n sc e ρ O) (bd sc ρ) (eB x.1) x.2.1 O).bind fun a =>
    if a.1.length<=ai then dY (ev T n) (bK scope sc) elt x.1 x.2.2 fO a.1 a.2 else .stuck).bind fun r=>.ok (.lst r.1,r.2)
    else .stuck
   | none=>.stuck
  | .Dict ks vs _=>match mH ks vs with
   | some x=>(ev T n sc x.1 ρ O).bind fun a=>(ev T n sc x.2 ρ a.2).bind fun b=>(ah (fg a.1)).bind fun k=>.ok (.dct [k] [b.1],b.2)
   | none=>.stuck
  | _=>.stuck
mutual
noncomputable def V.clean:V->Bool
 | .none=>true
 | .bool _=>true
 | .int _=>true
 | .str _=>true
 | .tup l=>V.cleans l
 | .lst l=>V.cleans l
 | .dct _ vs=>V.cleans vs
 | .ref _=>false
 | .sett _=>false
 | .typ _=>true
 | .bnd=>true
noncomputable def V.cleans:List V->Bool
 | []=>true
 | v::vs=>V.clean v&&V.cleans vs
end
noncomputable def bT(T:bJ):Nat->gK->Expr->af->U->R (V×U)
 | 0,_,_,_,_=>.stuck
 | n+1,sc,e,ρ,O=>match e with
  | .List es _=>(a9 (fun e O=>ev T n sc e ρ O) es O).bind fun a=>if a.1.length<=ai/\V.cleans a.1=true then .ok (.ref a.2.length,a.2++[.list a.1])else .stuck
  | .Dict [] [] _=>.ok (.ref O.length,O++[.dict [] []])
  | .Tuple es _ _=>(a9 (fun e O=>bT T n sc e ρ O) es O).bind fun a=>if a.1.length<=ai then .ok (.tup a.1,a.2)else .stuck
  | e=>ev T n sc e ρ O
noncomputable def EP(t e:Expr):Bool:=match t,e with
 | .Tuple _ _ _,.Tuple vs _ _=>!(vs.all (aca 8))
 | _,_=>true
inductive Fl where
 | next|cont|brk
 | ret (v:V)
noncomputable def Fl.ctorIdx(x:Fl):Nat:=Fl.casesOn x 0 1 2 fun _=>3
noncomputable def fY(O:U)(n:Nat)(c:Cell):U:=O.set n c
noncomputable def gq(ks:List (List Atom))(vs:List V)(k:List Atom)(v:V):List (List Atom)×List V:=match ks,vs with
 | [],_=>([k],[v])
 | q::ks,u::vs=>if q=k then(q::ks,v::vs)else let r:=gq ks vs k v;(q::r.1,u::r.2)
 | q::ks,[]=>(q::ks,[])
noncomputable def cW(o i v:V)(O:U):Option U:=if V.clean v=true then match o,i with
 | .ref n,.int k=>match O[n]? with
  | some (.list l)=>if 0<=k/\k<2 ^ 62/\k.toNat<l.length then some (fY O n (.list (l.set k.toNat v)))else none
  | _=>none
 | .ref n,.tup p=>match O[n]?,dC p with
  | some (.dict ks vs),some k=>if ks.length<=ai then some (fY O n (.dict (gq ks vs k v).1 (gq ks vs k v).2))else none
  | _,_=>none
 | _,_=>none
 else none
noncomputable def bX(v:V)(O:U):Bool:=match v with
 | .ref n=>match O[n]? with
  | some (.list _)=>true
  | _=>false
 | _=>false
noncomputable abbrev b7:=R ((Fl×af)×U)
noncomputable def ay(f:lI->af->U->b7):List lI->af->U->b7
 | [],ρ,O=>.ok ((.next,ρ),O)
 | s::r,ρ,O=>(f s ρ O).bind fun a=>match a.1.1 with
  | .next=>ay f r a.1.2 a.2
  | _=>.ok a
noncomputable def yl(again:af->U->b7)(a:(Fl×af)×U):b7:=match a.1.1 with
 | .next=>again a.1.2 a.2
 | .cont=>again a.1.2 a.2
 | .brk=>.stuck
 | .ret v=>.ok ((.ret v,a.1.2),a.2)
noncomputable def oq(sc:gK)(target:Expr)(body:af->U->b7):List V->af->U->b7
 | [],ρ,O=>.ok ((.next,ρ),O)
 | v::vs,ρ,O=>(ah (bx (cL sc) target v ρ)).bind fun bj=>(body bj O).bind (yl (oq sc target body vs))
noncomputable def pQ(M6:af->U->R (V×U))(body:af->U->b7):Nat->af->U->b7
 | 0,_,_=>.stuck
 | n+1,ρ,O=>(tst (M6 ρ O)).bind fun c=>match c.1 with
  | false=>.ok ((.next,ρ),c.2)
  | true=>(body ρ c.2).bind (yl (pQ M6 body n))
noncomputable def lN:Nat:=4096
noncomputable def kx(o v:V)(O:U):Option U:=match o with
 | .ref k=>match O[k]? with
  | some (.list l)=>if l.length<=ai/\V.clean v=true then some (fY O k (.list (l++[v])))else none
  | _=>none
 | _=>none
noncomputable def gW(o:V)(vs:List V)(O:U):Option U:=match o with
 | .ref k=>match O[k]? with
  | some (.list l)=>if l.length+vs.length<=ai/\V.cleans vs=true then some (fY O k (.list (l++vs)))else none
  | _=>none
 | _=>none
noncomputable def methP(f:Expr)(args:List Expr):Option (Expr×fw×YZ×Expr):=match f with
 | .Attribute o m p=>(fX args).map fun a=>(o,m,p,a)
 | _=>none
noncomputable def pR:Expr->Option (Expr×Expr)
 | .Subscript o i _=>some (o,i)
 | _=>none
noncomputable def pS(e c:Option Expr):Option (fw×Expr×Expr):=match c with
 | some _=>none
 | none=>e.bind fun e=>(im e).bind fun a=>(ik a.1).bind fun x=>(pM a.2.1).map fun mr=>(x,mr)
noncomputable def kM(sc:gK)(ρ:af)(e:Expr):Bool:=match im e with
 | none=>false
 | some a=>match ik a.1 with
  | none=>false
  | some g=>(pM a.2.1).isSome&&(g==ac "range")&&bd sc ρ g
noncomputable def kN(T:bJ)(n:Nat)(sc:gK)(t e:Expr)(x:Option (Expr×Expr))(ρ:af)(O:U):b7:=match x with
 | some a=>(ev T n sc e ρ O).bind fun v=>(ev T n sc a.1 ρ v.2).bind fun o=>(ev T n sc a.2 ρ o.2).bind fun b=>(ah (cW o.1 b.1 v.1 b.2)).bind fun ar=>.ok ((.next,ρ),ar)
 | none=>if(cM t&&EP t e)=true then(bT T n sc e ρ O).bind fun a=>(ah (bx (cL sc) t a.1 ρ)).bind fun aU=>.ok ((.next,aU),a.2)else .stuck
noncomputable def ym(T:bJ)(n:Nat)(sc:gK)(f:Expr)(args:List Expr)(q:YZ)(ρ:af)(O:U):b7:=(ev T n sc (.Call f args [] q) ρ O).bind fun a=>match a.1 with
 | .none=>.ok ((.next,ρ),a.2)
 | _=>.stuck
noncomputable def tI(T:bJ)(n:Nat)(sc:gK)(f:Expr)(args:List Expr)(q:YZ)(x:Option (Expr×fw×YZ×Expr))(ρ:af)(O:U):b7:=match x with
 | none=>ym T n sc f args q ρ O
 | some a =>
   if a.2.1=ac "append" then if(bW [a.2.2.2]&&(a.2.2.1.endLine==q.line))=true then(ev T n sc a.1 ρ O).bind fun b=>if bX b.1 b.2=true then(ev T n sc a.2.2.2 ρ b.2).bind fun v =>
     (ah (kx b.1 v.1 v.2)).bind fun ar=>.ok ((.next,ρ),ar)
    else .stuck
    else .stuck
   else if a.2.1=ac "extend" then if(kM sc ρ a.2.2.2&&(a.2.2.1.endLine==q.line))=true then(ev T n sc a.1 ρ O).bind fun b=>if bX b.1 b.2=true then(dX (fun e O=>ev T n sc e ρ O) (bd sc ρ) false a.2.2.2 b.2).bind fun v =>
     (ah (gW b.1 v.1 v.2)).bind fun ar=>.ok ((.next,ρ),ar)
    else .stuck
    else .stuck
   else ym T n sc f args q ρ O
noncomputable def yn(T:bJ)(n:Nat)(sc:gK)(x:Option (Expr×List Expr×YZ))(ρ:af)(O:U):b7:=match x with
 | some a=>tI T n sc a.1 a.2.1 a.2.2 (methP a.1 a.2.1) ρ O
 | none=>.stuck
noncomputable def t6(T:bJ)(n:Nat)(sc:gK)(x:Option (fw×Expr×Expr))(ρ:af)(O:U):b7:=match x with
 | some q=>if(q.1==ac "SettingError"&&bd sc ρ q.1&&bW [q.2.1,q.2.2])=true then(ev T n sc q.2.1 ρ O).bind fun a=>(ev T n sc q.2.2 ρ a.2).bind fun b=>(ah (j9 a.1)).bind fun _=>(ah (dO b.1)).bind fun row=>.exc row
   else .stuck
 | none=>.stuck
noncomputable def ex(T:bJ):Nat->gK->lI->af->U->b7
 | 0,_,_,_,_=>.stuck
 | n+1,sc,s,ρ,O=>match s with
  | .Return v _=>match v with
   | some e=>(bT T n sc e ρ O).bind fun a=>.ok ((.ret a.1,ρ),a.2)
   | none=>.stuck
  | .Continue _=>.ok ((.cont,ρ),O)
  | .If t a b _=>(tst (ev T n sc t ρ O)).bind fun c=>match c.1 with
   | true=>ay (ex T n sc) a ρ c.2
   | false=>ay (ex T n sc) b ρ c.2
  | .Assign ts e _=>match fX ts with
   | some t=>kN T n sc t e (pR t) ρ O
   | none=>.stuck
  | .Expr e _=>yn T n sc (im e) ρ O
  | .For t it body t7 _=>match t7 with
   | []=>if cM t=true then(dX (fun e O=>ev T n sc e ρ O) (bd sc ρ) (eB t) it O).bind fun a=>oq sc t (ay (ex T n sc) body) a.1 ρ a.2 else .stuck
   | _::_=>.stuck
  | .While t body t7 _=>match t7 with
   | []=>pQ (fun ρ O=>ev T n sc t ρ O) (ay (ex T n sc) body) lN ρ O
   | _::_=>.stuck
  | .Raise e c _=>t6 T n sc (pS e c) ρ O
  | _=>.stuck
noncomputable def UI(T:bJ)(n:Nat)(sc:gK)(ss:List lI)(ρ:af)(O:U):b7:=ay (ex T n sc) ss ρ O
noncomputable def dh(names:List (fw×YB))(eX:List (fw×V)):af :=
 names.filterMap fun(x,k)=>match k with
  | .local=>some (x,eX.lookup x)
  | .cell=>some (x,eX.lookup x)
  | _=>none
structure Fn where
 params:List fw
 dflts:List V
 body:List lI
 scope:gK
noncomputable def bh(T:bJ)(n:Nat)(F:Fn):aG:=fun vs O =>
 let given:=vs++F.dflts.drop (F.dflts.length-(F.params.length-vs.length))
 if vs.length<=F.params.length/\given.length=F.params.length then
  (UI T n F.scope F.body (dh F.scope.names (F.params.zip given)) O).bind fun a=>match a.1.1 with
   | .ret v=>.ok (v,a.2)
   | .next=>.ok (.none,a.2)
   | _=>.stuck
 else .stuck
noncomputable def Cell.toV:Cell->V
 | .list l=>.lst l
 | .dict ks vs=>.dct ks vs
noncomputable def rR(n:Nat)(O:U)(v:V):Option V:=match v with
 | .ref k=>if k<n then some (.ref k)else(O[k]?).map Cell.toV
 | v=>if v.clean=true then some v else YO
noncomputable def ip(n:Nat)(O:U):List V->Option (List V)
 | []=>some []
 | v::vs=>(rR n O v).bind fun u=>(ip n O vs).map fun us=>u::us
noncomputable def ot(n:Nat)(O:U)(v:V):Option V:=match v with
 | .tup l=>(ip n O l).map .tup
 | v=>rR n O v
noncomputable def M7(n:Nat)(r:R (V×U)):R (V×U):=r.bind fun a=>(ah (ot n a.2 a.1)).bind fun v=>.ok (v,a.2.take n)
noncomputable def t8(F:aG):aG:=fun vs O=>M7 O.length (F vs O)
end
variable{F:aG}{T:bJ}{ρ aU:af}{O ar τ:U}
section
set_option genInjectivity false
variable(B:bw)
noncomputable def CellAt(h:ir)(μ X:List bQ):Cell->bQ->Prop
 | .list l,a=>V.cleans l=true/\∃ xs,aav h a xs/\Reps B h μ X l xs.toList
 | .dict ks vs,a=>V.cleans vs=true/\∃ us,DictRep B h X a ks us/\Reps B h μ X vs us
noncomputable def FrAt(h:ir)(P:List bQ)(e:YY):Prop :=
 e.scope.kind≠.module/\∃ L,e.frame=some L/\L∈P/\∃ o es n,h.get? L=some o/\o.data= .dict es n
structure Inv(envs:List YY)(P μ:List bQ)(O:U)(s:aO):Prop where
 stays:B.H.StaysIn s.heap
 gens:s.gens=#[]
 os:s.os=B.os
 new:∀ a∈μ++P,B.H.get? a=none
 dom:∀ a∈μ++P,∃ o,s.heap.get? a=some o
 nodup:μ.Nodup
 apart:∀ a∈μ,a∉P
 len:μ.length=O.length
 cells:∀ (i:Nat) (c:Cell) (a:bQ),O[i]?=some c->μ[i]?=some a->CellAt B s.heap μ (μ++P) c a
 frs:∀ e∈envs,FrAt s.heap P e
structure Go(μ Y:List bQ)(h h':ir):Prop where
 kp:∀ a o,h.get? a=some o->a∉μ->a∉Y->h'.get? a=some o
 dm:∀ a o,h.get? a=some o->∃ o',h'.get? a=some o'
theorem Go.refl(μ Y:List bQ)(h:ir):Go μ Y h h:=⟨fun _ _ e _ _=>e,fun _ o e=>⟨o,e⟩⟩
theorem Go.trans{Y:List bQ}{bi eJ:ir}(x:Go μ Y aF bi)(y:Go μ Y bi eJ):Go μ Y aF eJ :=
 ⟨fun a o e n m=>y.kp a o (x.kp a o e n m) n m,fun a o e=>let⟨o',e'⟩:=x.dm a o e;y.dm a o' e'⟩
theorem Go.wide{Y:List bQ}{h:ir}(x:Go μ Y h h')(k:∀ a∈Y,a∈Z):Go μ Z h h':=⟨fun a o e n m=>x.kp a o e n fun q=>m (k a q),x.dm⟩
theorem Go.of_nil{h:ir}(x:Go μ [] h h'):Go μ Z h h':=x.wide nofun
theorem Go.of_keeps{Y:List bQ}{h:ir}(k:∀ b o,h.get? b=some o->h'.get? b=some o):Go μ Y h h':=⟨fun a o e _ _=>k a o e,fun a o e=>⟨o,k a o e⟩⟩
theorem Go.push(μ Y:List bQ)(h:ir)(o:Obj):Go μ Y h (h.push o):=Go.of_keeps fun _ _ e=>ag _ e
theorem Go.trans_new{Y:List bQ}{bi eJ:ir}(x:Go μ Y aF bi)(hν:∀ a∈ν,aF.get? a=none)(y:Go (μ++ν) Y bi eJ):Go μ Y aF eJ :=
 ⟨fun a o e n k=>y.kp a o (x.kp a o e n k) (fun m=>(bU m).elim n fun q=>by rw[hν a q]at e;exact nn e) k,fun a o e=>let⟨o',e'⟩:=x.dm a o e;y.dm a o' e'⟩
theorem Go.none{Y:List bQ}{h:ir}(x:Go μ Y h h')(e:h'.get? a=YO):h.get? a=YO:=by
 induction q:h.get? a using aL with
 | none=>rfl
 | some o=>obtain⟨o',e'⟩:=x.dm a o q;rw[e]at e';exact nn e'
variable{B}
theorem iq{h:ir}(hν:∀ a∈ν,h.get? a=none):∀ a∈(μ++ν)++P,a∈μ++P\/h.get? a=none:=fun a m=>by
 rcases bU m with q|q
 ·rcases bU q with q|q
  ·exact .inl (bo _ q)
  ·exact .inr (hν a q)
 ·exact .inl (aq _ q)
theorem mI:∀ (n:Nat) (a:bQ),μ[n]?=some a->(μ++ν)[n]?=some a:=fun n a e=>by
 generalize((iQ e)).1=hn;rw[eQ hn];exact e
theorem Go.kpX{Y:List bQ}{h:ir}(g:Go μ Y h h')(hY:∀ a∈Y,a∈P):Kp (μ++P) h h':=fun a o e n =>
 g.kp a o e (fun m=>n (bo _ m)) fun m=>n (aq _ (hY a m))
theorem Rep.go{h:ir}{Y:List bQ}(r:Rep B h μ (μ++P) v u)(g:Go μ Y h h')(hν:∀ a∈ν,h.get? a=none)(hY:∀ a∈Y,a∈P):Rep B h' (μ++ν) ((μ++ν)++P) v u :=
 Rep.move v r (g.kpX hY) mI (iq hν)
theorem Reps.go{h:ir}{Y:List bQ}(r:Reps B h μ (μ++P) vs us)(g:Go μ Y h h')(hν:∀ a∈ν,h.get? a=none)(hY:∀ a∈Y,a∈P):Reps B h' (μ++ν) ((μ++ν)++P) vs us :=
 Reps.move vs r (g.kpX hY) mI (iq hν)
theorem Rep.go0{h:ir}(r:Rep B h μ (μ++P) v u)(g:Go μ [] h h'):Rep B h' μ (μ++P) v u :=
 Rep.move v r (g.kpX nofun) (fun _ _ e=>e) fun _ m=>.inl m
theorem Reps.go0{h:ir}(r:Reps B h μ (μ++P) vs us)(g:Go μ [] h h'):Reps B h' μ (μ++P) vs us :=
 Reps.move vs r (g.kpX nofun) (fun _ _ e=>e) fun _ m=>.inl m
theorem FrAt.go{h:ir}{e:YY}(x:FrAt h P e)(g:Go μ [] h h')(ap:∀ a∈μ,a∉P):FrAt h' P e:=by
 refine ab fun _ gG=>?_;obtain⟨a,L,b,c,o,es,n,ho,hd⟩:=x;refine gG ?_;clear gG
 exact⟨a,L,b,c,o,es,n,g.kp L o ho (fun m=>ap L m c) nofun,hd⟩
theorem CellAt.move{h:ir}{c:Cell}(x:CellAt B h μ X c a)(k:Kp X h h')(ka:∀ o,h.get? a=some o->h'.get? a=some o)
  (hm:∀ (n:Nat) (a:bQ),μ[n]?=some a->bV[n]?=some a) (hX:∀ a∈X',a∈X\/h.get? a=none):CellAt B h' bV X' c a:=by
 induction c using Cell.casesOn with
 | list l =>
  refine ab fun _ gG=>?_;obtain⟨hc,xs,⟨o,n,ho,r⟩,hr⟩:=x;refine gG ?_;clear gG
  exact⟨hc,xs,⟨o,n,ka o ho,r⟩,Reps.move l hr k hm hX⟩
 | dict ks vs =>
  refine ab fun _ gG=>?_;obtain⟨hc,us,hd,hr⟩:=x;refine gG ?_;clear gG
  exact⟨hc,us,hd.move k ka hX,Reps.move vs hr k hm hX⟩
theorem Inv.grow(x:Inv B envs P μ O s)(k:∀ b o,s.heap.get? b=some o->h'.get? b=some o) :
  Inv B envs P μ O { s with heap:=h',toks:=tk } where
 stays:=fun b o e=>k b o (x.stays b o e)
 gens:=x.gens
 os:=x.os
 new:=x.new
 dom:=fun a m=>let⟨o,e⟩:=x.dom a m;⟨o,k a o e⟩
 nodup:=x.nodup
 apart:=x.apart
 len:=x.len
 cells:=fun i c a h1 h2=>(x.cells i c a h1 h2).move (Kp.of_keeps k) (fun o e=>k a o e) (fun _ _ e=>e) fun _ m=>.inl m
 frs:=fun e he=>(x.frs e he).go (Go.of_keeps k) x.apart
theorem Inv.cell(x:Inv B envs P μ O s){o:Obj}{c:Cell}(hf:o.isFreed=false)
  (hc:CellAt B (s.heap.push o) (μ++[s.heap.objs.size]) ((μ++[s.heap.objs.size])++P) c s.heap.objs.size) :
  Inv B envs P (μ++[s.heap.objs.size]) (O++[c]) { s with heap:=s.heap.push o }:=by
 have acL:s.heap.get? s.heap.objs.size=none:=by
  induction q:s.heap.get? s.heap.objs.size using aL with
  | none=>rfl
  | some o'=>exact absurd (cR q) (Yl _)
 have k:∀ b o',s.heap.get? b=some o'->(s.heap.push o).get? b=some o':=fun _ _ e=>ag _ e
 have hν:∀ a∈[s.heap.objs.size],s.heap.get? a=none:=fun a m=>by rw[a8 m];exact acL
 have nP:∀ a∈μ++P,a≠s.heap.objs.size:=fun a m q=>by obtain⟨o',e⟩:=x.dom a m;rw[q,acL]at e;exact nn e
 refine⟨fun b o' e=>k b o' (x.stays b o' e),x.gens,x.os,fun a m=>?_,fun a m=>?_,?_,fun a m=>?_,by simp[x.len],fun i c' a h1 h2=>?_,fun e he=>(x.frs e he).go (Go.push μ [] _ o) x.apart⟩
 ·rcases iq hν a m with q|q
  ·exact x.new a q
  ·induction q':B.H.get? a using aL with
   | none=>rfl
   | some o'=>have:=x.stays a o' q';rw[q]at this;exact nn this
 ·rcases bU m with q|q
  ·rcases bU q with q|q
   ·obtain⟨o',e⟩:=x.dom a (bo _ q);exact⟨o',k a o' e⟩
   ·rw[a8 q];exact⟨o,ct _ hf⟩
  ·obtain⟨o',e⟩:=x.dom a (aq _ q);exact⟨o',k a o' e⟩
 ·rw[aaU];refine⟨x.nodup,by simp,fun a ha b hb=>?_⟩;rw[a8 hb];exact nP a (bo _ ha)
 ·rcases bU m with q|q
  ·exact x.apart a q
  ·rw[a8 q];exact fun hp=>nP _ (aq _ hp) rfl
 ·by_cases hi:i<O.length
  ·rw[eQ hi]at h1;rw[eQ (by rw[x.len];exact hi)]at h2;exact(x.cells i c' a h1 h2).move (Kp.of_keeps k) (fun o e=>k a o e) mI (iq hν)
  ·have CC:i=O.length:=by
    have:=(iQ h1).1;rw[bv,aac]at this;exact PJ ‹_› ‹_›
   subst CC;rw[eM (kG _),Z5]at h1;rw[<- x.len,eM (kG _),Z5]at h2;obtain rfl:=si h1;obtain rfl:=si h2
   exact hc
noncomputable def NF(envs:List YY)(a:bQ):Prop:=∀ e∈envs,e.frame≠some a
variable(B)
structure EW where
 ea:bQ
 oe:Obj
 vs:Array am
 d:bQ
 hm:Int
 tm:BY
 m:am
 hr:Int
 tr:BY
 t:BY
structure TW where
 T:bQ
 o:Obj
 ts:Array am
structure Priv(envs:List YY)(h₀:ir)(a:bQ):Prop where
 new:h₀.get? a=none
 base:B.H.get? a=none
 nf:NF envs a
structure HJ(h:ir)(w:EW)(t:TW):Prop where
 v1:w.vs[1]?=some (.ref t.T)
 ne:t.T≠w.ea
 obj:h.get? t.T=some t.o
 data:t.o.data= .fields t.ts
 size:4<=t.ts.size
structure ExcAt(envs:List YY)(h₀ h:ir)(e:am)(row:Int)(w:EW):Prop where
 v:e= .ref w.ea
 own:Priv B envs h₀ w.ea
 obj:h.get? w.ea=some w.oe
 cls:w.oe.cls= .ref B.cE
 dict:w.oe.dict=some w.d
 data:w.oe.data= .fields w.vs
 size:5<=w.vs.size
 dwn:Priv B envs h₀ w.d
 dobj:h.get? w.d=some (YM [⟨w.hm,.str (ac "message") w.tm,w.m⟩,⟨w.hr,.str (ac "row") w.tr,.int row w.t⟩] 2)
 tb:w.vs[1]?=some .none\/∃ t,HJ h w t/\Priv B envs h₀ t.T
structure Exc(B:bw)(envs:List YY)(P μ Y:List bQ)(h₀:ir)(e:am)(row:Int)(s:aO):Prop where
 stays:B.H.StaysIn s.heap
 gens:s.gens=#[]
 os:s.os=B.os
 /-- of the frames only the slots Xn SJ -/
 kept:∀ a o,h₀.get? a=some o->a∉μ->a∉Y->∃ sl,s.heap.get? a=some { o with slots:=sl }/\(NF envs a->sl=o.slots)
 dm:∀ a o,h₀.get? a=some o->∃ o',s.heap.get? a=some o'
 frs:∀ e∈envs,FrAt s.heap P e
 base:∀ a∈P,B.H.get? a=none
 at_:∃ w,ExcAt B envs h₀ s.heap e row w
variable{B}
theorem Exc.same{Y:List bQ}(x:Exc B envs P μ Y h₀ e row s):∀ a o,h₀.get? a=some o->a∉μ->a∉Y->NF envs a->s.heap.get? a=some o:=fun a o h n m nf=>by
 obtain⟨sl,h1,h2⟩:=x.kept a o h n m;rw[h1,h2 nf]
theorem Priv.via{jE:List YY}(x:Priv B jE aF a)(n:∀ a,aF.get? a=none->h₀.get? a=none)(f:NF jE a->NF envs a):Priv B envs h₀ a:=⟨n a x.new,x.base,f x.nf⟩
theorem ExcAt.via{jE:List YY}{h:ir}{w:EW}(x:ExcAt B jE aF h e row w)(n:∀ a,aF.get? a=none->h₀.get? a=none)(f:∀ a,NF jE a->NF envs a)
  (k:∀ a o,Priv B jE aF a->h.get? a=some o->∃ sl,h'.get? a=some { o with slots:=sl }/\sl=o.slots):ExcAt B envs h₀ h' e row w :=
 have k':∀ a o,Priv B jE aF a->h.get? a=some o->h'.get? a=some o:=fun a o p e=>by obtain⟨sl,h1,h2⟩:=k a o p e;rw[h1,h2]
 { x with own:=x.own.via n (f _),obj:=k' _ _ x.own x.obj,dwn:=x.dwn.via n (f _),dobj:=k' _ _ x.dwn x.dobj,tb:=x.tb.imp id fun⟨t,a,b⟩=>⟨t,{ a with obj:=k' _ _ b a.obj },b.via n (f _)⟩ }
theorem Exc.via{Y:List bQ}(x:Exc B envs P' bV Y' aF e row s)(m:∀ a o,h₀.get? a=some o->a∉μ->a∉Y->aF.get? a=some o/\a∉bV/\a∉Y')
  (dm:∀ a o,h₀.get? a=some o->∃ o',aF.get? a=some o') (f:∀ e∈envs,FrAt s.heap P e) (b:∀ a∈P,B.H.get? a=none):Exc B envs P μ Y h₀ e row s :=
 ⟨x.stays,x.gens,x.os,fun a o e h1 h2=>let⟨p,q,r⟩:=m a o e h1 h2;x.kept a o p q r,fun a o e=>let⟨o',e'⟩:=dm a o e;x.dm a o' e',f,b,let⟨w,z⟩:=x.at_;⟨w,z.via (fun a e=>by
   induction q:h₀.get? a using aL with
   | none=>rfl
   | some o=>obtain⟨o',e'⟩:=dm a o q;rw[e]at e';exact nn e') (fun _ h=>h) fun _ o _ e=>⟨o.slots,e,rfl⟩⟩⟩
theorem Af{h:ir}{o:Obj}(hν:∀ a∈ν,h.get? a=none)(e:h.get? a=some o)(n:a∉μ):a∉μ++ν:=fun m =>
 (bU m).elim n fun q=>by rw[hν a q]at e;exact nn e
theorem Exc.back{Y:List bQ}(x:Exc B envs P (μ++ν) Y aF e row s)(g:Go μ Y h₀ aF)(hν:∀ a∈ν,h₀.get? a=none):Exc B envs P μ Y h₀ e row s :=
 x.via (fun a o e n m=>⟨g.kp a o e n m,Af hν e n,m⟩) g.dm x.frs x.base
theorem Exc.wide{Y:List bQ}(x:Exc B envs P μ Y h₀ e row s)(k:∀ a∈Y,a∈Z):Exc B envs P μ Z h₀ e row s :=
 { x with kept:=fun a o e n m=>x.kept a o e n fun q=>m (k a q) }
noncomputable def Aft{β:Type}(B:bw)(envs:List YY)(P μ Y:List bQ)(h:ir)(r:R (β×U))(K:β->List bQ->aO->Prop)(E:am->aO->Prop):Prop :=
 match r with
 | .ok a=>∀ ν s',(∀ a∈ν,h.get? a=none)->Inv B envs P (μ++ν) a.2 s'->Go μ Y h s'.heap->K a.1 (μ++ν) s'
 | .exc row=>∀ e s',Exc B envs P μ Y h e row s'->E e s'
 | .stuck=>False
theorem Aft.shift{Y:List bQ}{h:ir}{r:R (β×U)}{K:β->List bQ->aO->Prop}(x:Aft B envs P μ Y h r K E)(g:Go μ Y h aF)(hν:∀ a∈ν,h.get? a=none) :
  Aft B envs P (μ++ν) Y aF r K E:=by
 induction r using R.casesOn with
 | ok a =>
  intro jF s' h1 h2 h3;have:=x (ν++jF) s' (fun a m=>(bU m).elim (hν a) fun q=>g.none (h1 a q)) (by rw[<- cJ];exact h2) (g.trans_new hν h3);rw[<- cJ]at this;exact this
 | exc row=>exact fun e s' h1=>x e s' (h1.back g hν)
 | stuck=>exact x.elim
theorem Aft.bind{Y:List bQ}{h:ir}{r:R (β×U)}{g:β×U->R (γ×U)}{K:γ->List bQ->aO->Prop}{K':β->List bQ->aO->Prop}
  (x:Aft B envs P μ Y h (r.bind g) K E) (k:∀ b ar ν s',r= .ok (b,ar)->(∀ a∈ν,h.get? a=none)->Inv B envs P (μ++ν) ar s'->Go μ Y h s'.heap->Aft B envs P (μ++ν) Y s'.heap (g (b,ar)) K E->K' b (μ++ν) s') :
  Aft B envs P μ Y h r K' E:=by
 induction r using R.casesOn with
 | ok a=>exact fun ν s' h1 h2 h3=>k a.1 a.2 ν s' rfl h1 h2 h3 (Aft.shift x h3 h1)
 | exc row=>exact x
 | stuck=>exact x
theorem Aft.mono{Y:List bQ}{h:ir}{r:R (β×U)}{K K':β->List bQ->aO->Prop}
  (x:Aft B envs P μ Y h r K E) (k:∀ b bV s',K b bV s'->K' b bV s'):Aft B envs P μ Y h r K' E:=by
 induction r using R.casesOn with
 | ok a=>exact fun ν s' h1 h2 h3=>k _ _ _ (x ν s' h1 h2 h3)
 | exc row=>exact x
 | stuck=>exact x
theorem Aft.narrow{Y:List bQ}{h:ir}{r:R (β×U)}{K:β->List bQ->aO->Prop}(x:Aft B envs P μ Y h r K E):Aft B envs P μ [] h r K E:=by
 induction r using R.casesOn with
 | ok a=>exact fun ν s' h1 h2 h3=>x ν s' h1 h2 h3.of_nil
 | exc row=>exact fun e s' h1=>x e s' (h1.wide nofun)
 | stuck=>exact x
theorem Aft.here{Y:List bQ}{b:β}{K:β->List bQ->aO->Prop}(x:Aft B envs P μ Y s.heap (.ok (b,O)) K E)(I:Inv B envs P μ O s):K b μ s:=by
 have:=x [] s nofun (by rw[bP];exact I) (Go.refl _ _ _)
 rw[bP]at this;exact this
theorem Aft.at0{Y:List bQ}{h:ir}{b:β}{K:β->List bQ->aO->Prop}(x:Aft B envs P μ Y h (.ok (b,O)) K E)(I:Inv B envs P μ O s)(g:Go μ Y h s.heap):K b μ s:=by
 have:=x [] s nofun (by rw[bP];exact I) g
 rw[bP]at this;exact this
end
noncomputable abbrev S(s:String):fw:=ac s
noncomputable def Ag:V:=.int 32
noncomputable def Ah:V:=.int 120
noncomputable def yo:V:=.str [97,98,99,100,101,102,103,104,105,106,107,108,109,110,111,112,113,114,115,116,117,118,119,120,121,122,65,66,67,68,69,70,71,72,73,74,75,76,77,78,79,80,81,82,83,84,85,86,87,88,89,90,48,49,50,51,52,53,54,55,56,57,45,95]
noncomputable def HK:V:=.tup [.tup [.tup [.str [104,111,115,116]],.tup [.str [110,97,109,101]]],.tup [.tup [.str [98,114,105,100,103,101],.str [112,114,105,111,114,105,116,121]],.tup [.str [110,117,109,98,101,114],.int 0,.int 61440,.int 4096]],.tup [.tup [.str [115,112,97,110,110,105,110,103],.str [109,111,100,101]],.tup [.str [119,111,114,100],.tup [.str [111,102,102],.str [111,108,100],.str [114,97,112,105,100],.str [109,115,116]]]],.tup [.tup [.str [115,112,97,110,110,105,110,103],.str [104,101,108,108,111]],.tup [.str [110,117,109,98,101,114],.int 1,.int 10,.int 1]],.tup [.tup [.str [115,112,97,110,110,105,110,103],.str [97,103,101]],.tup [.str [110,117,109,98,101,114],.int 6,.int 40,.int 1]],.tup [.tup [.str [115,112,97,110,110,105,110,103],.str [100,101,108,97,121]],.tup [.str [110,117,109,98,101,114],.int 4,.int 30,.int 1]],.tup [.tup [.str [115,112,97,110,110,105,110,103],.str [104,111,108,100]],.tup [.str [110,117,109,98,101,114],.int 1,.int 10,.int 1]],.tup [.tup [.str [114,101,103,105,111,110],.str [110,97,109,101]],.tup [.str [110,97,109,101]]],.tup [.tup [.str [114,101,103,105,111,110],.str [114,101,118,105,115,105,111,110]],.tup [.str [110,117,109,98,101,114],.int 0,.int 65535,.int 1]],.tup [.tup [.str [109,97,112],.str [60,118,108,97,110,62],.str [105,110,115,116,97,110,99,101]],.tup [.str [110,117,109,98,101,114],.int 0,.int 64,.int 1]],.tup [.tup [.str [116,97,98,108,101],.str [97,103,101]],.tup [.str [110,117,109,98,101,114],.int 10,.int 1000000,.int 1]],.tup [.tup [.str [116,97,98,108,101],.str [109,111,115,116]],.tup [.str [110,117,109,98,101,114],.int 1,.int 65536,.int 1]],.tup [.tup [.str [118,108,97,110],.str [60,118,108,97,110,62],.str [107,105,110,100]],.tup [.str [119,111,114,100],.tup [.str [112,108,97,105,110],.str [112,114,105,109,97,114,121],.str [105,115,111,108,97,116,101,100],.str [99,111,109,109,117,110,105,116,121]]]],.tup [.tup [.str [118,108,97,110],.str [60,118,108,97,110,62],.str [110,97,109,101]],.tup [.str [116,101,120,116]]],.tup [.tup [.str [118,108,97,110],.str [60,118,108,97,110,62],.str [102,105,100]],.tup [.str [110,117,109,98,101,114],.int 1,.int 4094,.int 1]],.tup [.tup [.str [118,108,97,110],.str [60,118,108,97,110,62],.str [112,114,105,109,97,114,121]],.tup [.str [110,117,109,98,101,114],.int 1,.int 4094,.int 1]],.tup [.tup [.str [112,111,114,116],.str [60,112,111,114,116,62],.str [117,112]],.tup [.str [116,114,117,116,104]]],.tup [.tup [.str [112,111,114,116],.str [60,112,111,114,116,62],.str [115,112,101,101,100]],.tup [.str [110,117,109,98,101,114],.int 10,.int 400000,.int 1]],.tup [.tup [.str [112,111,114,116],.str [60,112,111,114,116,62],.str [110,97,109,101]],.tup [.str [116,101,120,116]]],.tup [.tup [.str [112,111,114,116],.str [60,112,111,114,116,62],.str [110,97,116,105,118,101]],.tup [.str [110,117,109,98,101,114],.int 0,.int 4094,.int 1]],.tup [.tup [.str [112,111,114,116],.str [60,112,111,114,116,62],.str [116,97,103,103,101,100]],.tup [.str [110,117,109,98,101,114,115],.int 1,.int 4094]],.tup [.tup [.str [112,111,114,116],.str [60,112,111,114,116,62],.str [117,110,116,97,103,103,101,100]],.tup [.str [110,117,109,98,101,114,115],.int 1,.int 4094]],.tup [.tup [.str [112,111,114,116],.str [60,112,111,114,116,62],.str [97,100,109,105,116]],.tup [.str [119,111,114,100],.tup [.str [97,108,108],.str [116,97,103,103,101,100],.str [117,110,116,97,103,103,101,100]]]],.tup [.tup [.str [112,111,114,116],.str [60,112,111,114,116,62],.str [102,105,108,116,101,114]],.tup [.str [116,114,117,116,104]]],.tup [.tup [.str [112,111,114,116],.str [60,112,111,114,116,62],.str [99,111,115,116]],.tup [.str [110,117,109,98,101,114],.int 1,.int 200000000,.int 1]],.tup [.tup [.str [112,111,114,116],.str [60,112,111,114,116,62],.str [112,114,105,111,114,105,116,121]],.tup [.str [110,117,109,98,101,114],.int 0,.int 240,.int 16]],.tup [.tup [.str [112,111,114,116],.str [60,112,111,114,116,62],.str [101,100,103,101]],.tup [.str [116,114,117,116,104]]],.tup [.tup [.str [112,111,114,116],.str [60,112,111,114,116,62],.str [103,117,97,114,100]],.tup [.str [119,111,114,100],.tup [.str [110,111,110,101],.str [114,111,111,116],.str [98,112,100,117],.str [108,111,111,112]]]],.tup [.tup [.str [112,111,114,116],.str [60,112,111,114,116,62],.str [108,105,109,105,116]],.tup [.str [110,117,109,98,101,114],.int 0,.int 65536,.int 1]],.tup [.tup [.str [112,111,114,116],.str [60,112,111,114,116,62],.str [115,116,111,114,109]],.tup [.str [110,117,109,98,101,114],.int 0,.int 1000000000,.int 1]],.tup [.tup [.str [112,111,114,116],.str [60,112,111,114,116,62],.str [98,117,110,100,108,101]],.tup [.str [110,117,109,98,101,114],.int 0,.int 128,.int 1]],.tup [.tup [.str [112,111,114,116],.str [60,112,111,114,116,62],.str [108,105,115,116]],.tup [.str [110,97,109,101]]],.tup [.tup [.str [112,111,114,116],.str [60,112,111,114,116,62],.str [116,117,110,110,101,108]],.tup [.str [110,117,109,98,101,114],.int 0,.int 4094,.int 1]],.tup [.tup [.str [112,111,114,116],.str [60,112,111,114,116,62],.str [104,111,115,116]],.tup [.str [110,117,109,98,101,114],.int 1,.int 4094,.int 1]],.tup [.tup [.str [112,111,114,116],.str [60,112,111,114,116,62],.str [112,114,111,109,105,115,99,117,111,117,115]],.tup [.str [110,117,109,98,101,114],.int 1,.int 4094,.int 1]],.tup [.tup [.str [108,105,115,116],.str [60,110,97,109,101,62],.str [60,114,111,119,62]],.tup [.str [116,101,120,116]]],.tup [.tup [.str [109,105,114,114,111,114],.str [60,109,105,114,114,111,114,62],.str [103,111,97,108]],.tup [.str [110,117,109,98,101,114],.int 1,.int 512,.int 1]],.tup [.tup [.str [109,105,114,114,111,114],.str [60,109,105,114,114,111,114,62],.str [114,101,99,101,105,118,101,100]],.tup [.str [110,117,109,98,101,114,115],.int 1,.int 512]],.tup [.tup [.str [109,105,114,114,111,114],.str [60,109,105,114,114,111,114,62],.str [115,101,110,116]],.tup [.str [110,117,109,98,101,114,115],.int 1,.int 512]],.tup [.tup [.str [113,117,101,117,101],.str [60,113,117,101,117,101,62],.str [119,101,105,103,104,116]],.tup [.str [110,117,109,98,101,114],.int 0,.int 255,.int 1]],.tup [.tup [.str [108,108,100,112],.str [111,110]],.tup [.str [116,114,117,116,104]]],.tup [.tup [.str [108,108,100,112],.str [104,111,108,100]],.tup [.str [110,117,109,98,101,114],.int 2,.int 10,.int 1]],.tup [.tup [.str [115,110,111,111,112,105,110,103],.str [111,110]],.tup [.str [116,114,117,116,104]]]]
noncomputable def di:V:=.tup [.str [109,97,112],.str [118,108,97,110],.str [112,111,114,116],.str [108,105,115,116],.str [109,105,114,114,111,114],.str [113,117,101,117,101]]
noncomputable def FC:V:=.str [48,49,50,51,52,53,54,55,56,57]
noncomputable def uc:V:=.int 10
noncomputable def Ai:V:=.int 20000
noncomputable def globsL:List (fw×V):=[(S "MOST_WORD",Ag),(S "MOST_TEXT",Ah),(S "NAME_SIGNS",yo),(S "SHAPES",HK),(S "BLOCK_WORDS",di),(S "FIGURES",FC),(S "MOST_FIGURES",uc),(S "MOST_ROWS",Ai),(S "INDEX_BOUNDS",.bnd)]
noncomputable abbrev pV:=abB
noncomputable def EQ:aab×List lI×gK:=(⟨[],[],none,[],[],none,[]⟩,[],⟨.function,[],false,false,[]⟩)
noncomputable def tJ(m:fw):List lI->aab×List lI×gK
 | []=>EQ
 | .FunctionDef n a b _ _ _ sc _ _ _::r=>if n=m then(a,b,sc)else tJ m r
 | _::r=>tJ m r
noncomputable def qW(c m:fw):List lI->aab×List lI×gK
 | []=>EQ
 | .ClassDef n _ _ b _ _ _ _ _ _ _::r=>if n=c then tJ m b else qW c m r
 | _::r=>qW c m r
noncomputable def cg(c m:fw):=qW c m pV.main.body
noncomputable def oU(x:aab×List lI×gK)(name HL:fw)(df pm cd:am):Data :=
 .func { name,qualname:=HL,params:=x.1,body:=.stmts x.2.1,scope:=x.2.2,globals:=3,closure:=[],defaults:=df,kwdefaults:=.none,pyModule:=pm,code:=cd,builtins:=0 }
noncomputable def kW(w:aaZ):adO:=[
 (1,⟨.type "dict",none,.dict #[⟨hashStr w (S "builtins"),.str (S "builtins") 162,.ref 4⟩,⟨hashStr w (S "__main__"),.str (S "__main__") 163,.ref 5⟩] 2,#[]⟩),(35,⟨.type "function",none,oU (cg (S "SwitchError") (S "__init__")) (S "__init__") (S "SwitchError.__init__") (.none) (.str (S "switchloom.errors") 194) (.ref 34),#[]⟩),(37,⟨.type "dict",none,.dict #[⟨hashStr w (S "__module__"),.str (S "__module__") 203,.str (S "switchloom.errors") 194⟩,⟨hashStr w (S "__firstlineno__"),.str (S "__firstlineno__") 207,.int 5 206⟩,⟨hashStr w (S "__init__"),.str (S "__init__") 215,.ref 35⟩,⟨hashStr w (S "__static_attributes__"),.str (S "__static_attributes__") 217,.ref 36⟩,⟨hashStr w (S "__weakref__"),.str (S "__weakref__") 219,.ref 39⟩,⟨hashStr w (S "__doc__"),.str (S "__doc__") 220,.none⟩] 3,#[]⟩),(38,⟨.type "type",none,.cls { name:=(S "SwitchError"),bases:=[.type "Exception"],mro:=[.ref 38,.type "Exception",.type "BaseException",.type "object"],ns:=37,qualname:=(S "SwitchError"),subclasses:=[.ref 59] },#[some (.ref 22),none,some (.str (S "SwitchError") 196),some (.str (S "SwitchError") 204),some (.builtin "Exception.__new__"),some (.bool true)]⟩),(49,⟨.type "tuple",none,.seq #[.int 0 237] 0,#[]⟩),(56,⟨.type "function",none,oU (cg (S "SettingError") (S "__init__")) (S "__init__") (S "SettingError.__init__") (.ref 49) (.str (S "switchloom.errors") 194) (.ref 55),#[]⟩),(58,⟨.type "dict",none,.dict #[⟨hashStr w (S "__module__"),.str (S "__module__") 232,.str (S "switchloom.errors") 194⟩,⟨hashStr w (S "__firstlineno__"),.str (S "__firstlineno__") 236,.int 10 235⟩,⟨hashStr w (S "__init__"),.str (S "__init__") 246,.ref 56⟩,⟨hashStr w (S "__static_attributes__"),.str (S "__static_attributes__") 248,.ref 57⟩,⟨hashStr w (S "__doc__"),.str (S "__doc__") 249,.none⟩] 2,#[]⟩),(59,⟨.type "type",none,.cls { name:=(S "SettingError"),bases:=[.ref 38],mro:=[.ref 59,.ref 38,.type "Exception",.type "BaseException",.type "object"],ns:=58,qualname:=(S "SettingError"),subclasses:=[] },#[some (.ref 42),none,some (.str (S "SettingError") 225),some (.str (S "SettingError") 233),some (.builtin "Exception.__new__"),some (.bool true)]⟩),(62,⟨.type "dict",none,.dict #[⟨hashStr w (S "<vlan>"),.str (S "<vlan>") 269,.ref 63⟩,⟨hashStr w (S "<port>"),.str (S "<port>") 272,.ref 64⟩,⟨hashStr w (S "<row>"),.str (S "<row>") 275,.ref 65⟩,⟨hashStr w (S "<queue>"),.str (S "<queue>") 278,.ref 66⟩,⟨hashStr w (S "<mirror>"),.str (S "<mirror>") 281,.ref 67⟩] 5,#[]⟩),(63,⟨.type "tuple",none,.seq #[.int 1 270,.int 4094 271] 0,#[]⟩),(64,⟨.type "tuple",none,.seq #[.int 1 273,.int 512 274] 0,#[]⟩),(65,⟨.type "tuple",none,.seq #[.int 1 276,.int 9999 277] 0,#[]⟩),(66,⟨.type "tuple",none,.seq #[.int 0 279,.int 7 280] 0,#[]⟩),(67,⟨.type "tuple",none,.seq #[.int 1 282,.int 8 283] 0,#[]⟩),(275,⟨.type "function",none,oU (cg (S "Settings") (S "__init__")) (S "__init__") (S "Settings.__init__") (.none) (.str (S "switchloom.settings") 252) (.ref 274),#[]⟩),(282,⟨.type "function",none,oU (cg (S "Settings") (S "put")) (S "put") (S "Settings.put") (.none) (.str (S "switchloom.settings") 252) (.ref 281),#[]⟩),(283,⟨.type "tuple",none,.seq #[.none] 0,#[]⟩),(290,⟨.type "function",none,oU (cg (S "Settings") (S "get")) (S "get") (S "Settings.get") (.ref 283) (.str (S "switchloom.settings") 252) (.ref 289),#[]⟩),(304,⟨.type "function",none,oU (cg (S "Settings") (S "paths")) (S "paths") (S "Settings.paths") (.none) (.str (S "switchloom.settings") 252) (.ref 303),#[]⟩),(323,⟨.type "function",none,oU (cg (S "Settings") (S "told")) (S "told") (S "Settings.told") (.none) (.str (S "switchloom.settings") 252) (.ref 322),#[]⟩),(325,⟨.type "dict",none,.dict #[⟨hashStr w (S "__module__"),.str (S "__module__") 622,.str (S "switchloom.settings") 252⟩,⟨hashStr w (S "__firstlineno__"),.str (S "__firstlineno__") 626,.int 77 625⟩,⟨hashStr w (S "__init__"),.str (S "__init__") 633,.ref 275⟩,⟨hashStr w (S "put"),.str (S "put") 642,.ref 282⟩,⟨hashStr w (S "get"),.str (S "get") 651,.ref 290⟩,⟨hashStr w (S "remove"),.str (S "remove") 659,.ref 297⟩,⟨hashStr w (S "paths"),.str (S "paths") 666,.ref 304⟩,⟨hashStr w (S "indexes"),.str (S "indexes") 674,.ref 311⟩,⟨hashStr w (S "copy"),.str (S "copy") 681,.ref 318⟩,⟨hashStr w (S "told"),.str (S "told") 687,.ref 323⟩,⟨hashStr w (S "__static_attributes__"),.str (S "__static_attributes__") 689,.ref 324⟩,⟨hashStr w (S "__dict__"),.str (S "__dict__") 691,.ref 327⟩,⟨hashStr w (S "__weakref__"),.str (S "__weakref__") 693,.ref 328⟩,⟨hashStr w (S "__doc__"),.str (S "__doc__") 694,.none⟩] 4,#[]⟩),(326,⟨.type "type",none,.cls { name:=(S "Settings"),bases:=[.type "object"],mro:=[.ref 326,.type "object"],ns:=325,qualname:=(S "Settings"),subclasses:=[] },#[none,none,some (.str (S "Settings") 615),some (.str (S "Settings") 623),some (.builtin "object.__new__"),some (.bool true)]⟩)]
noncomputable def kAddrs:List bQ:=[1,35,37,38,49,56,58,59,62,63,64,65,66,67,275,282,283,290,304,323,325,326]
noncomputable def HM(d:Data):Option (Array am):=match d with
 | .fields vs=>some vs
 | _=>none
noncomputable def ER(v:am):Option fw:=match v with
 | .str q _=>some q
 | _=>none
noncomputable def HN(h:ir)(x:bQ×fw):Bool:=((h.get? x.1).bind fun o=>(HM o.data).bind fun vs=>(vs[1]?).bind ER)==some x.2
noncomputable def codesL:List (bQ×fw):=[(34,S "SwitchError.__init__"),(55,S "SettingError.__init__"),(274,S "Settings.__init__"),(281,S "Settings.put"),(289,S "Settings.get"),(303,S "Settings.paths"),(322,S "Settings.told")]
noncomputable def ES(v:am):BY:=match v with
 | .int _ t=>t
 | .str _ t=>t
 | _=>0
noncomputable def ET(v:am):bQ:=match v with
 | .ref a=>a
 | _=>0
noncomputable def M8(d:Data):Option (Array am):=match d with
 | .seq ti _=>some ti
 | _=>none
noncomputable def CD(h:ir)(a:bQ)(f:List am->Bool):Bool:=((h.get? a).bind fun o=>(M8 o.data).map fun xs=>decide (o.cls= .type "tuple")&&(decide (o.dict=none)&&f xs.toList))==some true
noncomputable def EU(f:am->Bool)(g:List am->Bool)(us:List am):Bool:=us.casesOn false fun u us=>f u&&g us
noncomputable def CE(h:ir)(v:V):am->Bool:=V.rec (motive_1:=fun _=>am->Bool) (motive_2:=fun _=>List am->Bool) (fun u=>decide (u= .none)) (fun b u=>decide (u= .bool b)) (fun i u=>decide (u= .int i (ES u)))
 (fun l u=>decide (u= .str (aB l) (ES u))) (fun _ f u=>decide (u= .ref (ET u))&&CD h (ET u) f) (fun _ _ _=>false) (fun _ _ _ _=>false) (fun _ _=>false) (fun _ _=>false) (fun _ _=>false)
 (fun u=>decide (u= .ref 62)) (fun us=>us.isEmpty) (fun _ _ f g us=>EU f g us) v
noncomputable def KY(h:ir)(l:List V):List am->Bool:=V.rec_1 (motive_1:=fun _=>am->Bool) (motive_2:=fun _=>List am->Bool) (fun u=>decide (u= .none)) (fun b u=>decide (u= .bool b)) (fun i u=>decide (u= .int i (ES u)))
 (fun l u=>decide (u= .str (aB l) (ES u))) (fun _ f u=>decide (u= .ref (ET u))&&CD h (ET u) f) (fun _ _ _=>false) (fun _ _ _ _=>false) (fun _ _=>false) (fun _ _=>false) (fun _ _=>false)
 (fun u=>decide (u= .ref 62)) (fun us=>us.isEmpty) (fun _ _ f g us=>EU f g us) l
noncomputable def CF(h:ir)(x:fw×V):Bool:=match h.nsMap Yi x.1 with
 | some u=>CE h x.2 u
 | none=>false
noncomputable def clsL:List (fw×bQ):=[(S "SwitchError",38),(S "SettingError",59),(S "Settings",326)]
noncomputable def M9(h:ir)(x:fw×bQ):Bool:=match h.nsMap Yi x.1 with
 | some (.ref a)=>decide (a=x.2)
 | _=>false
noncomputable def CG(h:ir):Bool:=h.isNs ads&&(h.nsMap ads (S "thirdparty.any")).isNone
noncomputable def EV(s:aO):List (Option Obj)×Bool:=(kAddrs.map s.heap.get?,codesL.all (HN s.heap)&&globsL.all (CF s.heap)&&s.heap.isNs Yi&&clsL.all (M9 s.heap)&&CG s.heap)
noncomputable def w9(w:aaZ):List (Option Obj)×Bool:=((kW w).map fun p=>some p.2,true)
theorem HO{d:Data}{vs:Array am}(h:HM d=some vs):d= .fields vs:=by
 cases d with
 | fields=>exact congrArg _ (si h)
 | _=>exact nn h
theorem HP{d:Data}(h:M8 d=some xs):∃ n,d= .seq xs n:=by
 cases d with
 | seq ti n=>exact⟨n,congrArg (agC · n) (si h)⟩
 | _=>exact nn h
theorem FD{v:am}{q:fw}(h:ER v=some q):∃ t,v= .str q t:=by
 cases v with
 | str s t=>exact⟨t,congrArg (ad6 · t) (si h)⟩
 | _=>exact nn h
theorem HQ{h:ir}{x:bQ×fw}(e:HN h x=true):h.CodeRec (.ref x.1) x.2:=by
 obtain⟨o,ho,e⟩:=ib (eq_of_beq e);obtain⟨vs,hv,e⟩:=ib e;obtain⟨u,hu,e⟩:=ib e;obtain⟨t,ht⟩:=FD e;exact⟨x.1,o,vs,t,rfl,ho,HO hv,hu.trans (congrArg some ht)⟩
section
variable{h:ir}
noncomputable def SK(B:bw)(h:ir)(μ X:List bQ)(v:V):Prop:=∀ u,CE h v u=true->Rep B h μ X v u
noncomputable def SM(B:bw)(h:ir)(μ X:List bQ)(vs:List V):Prop:=∀ us,KY h vs us=true->Reps B h μ X vs us
theorem CH{f:List am->Bool}(e:CD h a f=true):∃ xs,PlainT h a xs/\f xs.toList=true:=by
 obtain⟨o,ho,e⟩:=ib (eq_of_beq e);obtain⟨xs,hx,e⟩:=mD e;obtain⟨n,hn⟩:=HP hx;obtain⟨e1,e2⟩:=bM e;obtain⟨e2,e3⟩:=bM e2;exact⟨xs,⟨o,n,ho,of_decide_eq_true e1,of_decide_eq_true e2,hn⟩,e3⟩
theorem ud{x:am}(e:decide (u=x)=true):u=x:=of_decide_eq_true e
theorem FE(hB:B.cB=62)(v:V):SK B h μ [] v:=by
 refine V.rec (motive_1:=SK B h μ []) (motive_2:=SM B h μ []) (fun u e=>ud e) (fun b u e=>ud e) (fun i u e=>⟨_,ud e⟩) (fun l u e=>⟨_,ud e⟩) (fun l ih u e=>?_)
  (fun _ _ _ e=>j4 e) (fun _ _ _ _ e=>j4 e) (fun _ _ e=>j4 e) (fun _ _ e=>j4 e) (fun _ _ e=>j4 e) (fun u e=>(ud e).trans (congrArg gH hB.symm)) (fun us e=>List.isEmpty_iff.mp e) (fun v vs i1 i2 us e=>?_) v
 ·obtain⟨e1,e2⟩:=bM e;obtain⟨xs,p,q⟩:=CH e2;exact⟨_,xs,of_decide_eq_true e1,nofun,p,ih _ q⟩
 ·cases us with
  | nil=>exact j4 e
  | cons u us =>
   obtain⟨e1,e2⟩:=bM e;exact zC (i1 u e1) (i2 us e2)
theorem FF(hB:B.cB=62)(hX:X=[])(v:V)(u:am)(e:CE h v u=true):Rep B h μ X v u:=by
 subst hX;exact FE hB v u e
end
noncomputable def dJ(w:aaZ)(h:ir):Prop:=∃ s:aO,s.heap.StaysIn h/\EV s=w9 w
noncomputable def mJ:Hook:=⟨List (Option Obj)×Bool,EV,w9,dJ,fun _ s e=>⟨s,fun _ _ x=>x,e⟩,fun _ _ _ ⟨s,a,b⟩ k=>⟨s,fun x o e=>k x o (a x o e),b⟩⟩
section
set_option tactic.hygienic true
noncomputable def keptAt:List Nat:=[0,2,3]++(YE 19).map (· + 5)++(YE 13).map (· + 25)++(YE 14).map (· + 39)
noncomputable def NI:List lI:=keptAt.filterMap fun i=>PySem.Challenge.pw_pc0380_01.main.body[i]?
noncomputable def qv:aci:={ abB with main:={ PySem.Challenge.pw_pc0380_01.main with body:=NI } }
noncomputable def ci:List fw:=[ac "SettingError",ac "MOST_NUMBER",ac "NAME_SIGNS",ac "INDEX_BOUNDS",ac "SHAPES"]
noncomputable abbrev rowV:=PySem.Challenge.rw_pc0380_01.row
noncomputable abbrev KZ:aO->Bool:=fun s=>recOk (RowW.records rowV.toRowW) s
theorem ahy{δ ε:Type}{x:Option α}{f1:α->β}{f2:α->γ}{f3:α->δ}{a:β}{b:γ}{c:δ}(F:β->γ->δ->ε)(h1:x.map f1=some a)(h2:x.map f2=some b)(h3:x.map f3=some c):x.map (fun s=>F (f1 s) (f2 s) (f3 s))=some (F a b c):=by
 rcases x with _|s
 ·exact nn h1
 ·rw[<- si h1,<- si h2,<- si h3];rfl
noncomputable abbrev aht(w:aaZ)(b:Bool)(os:acj):=(topRun afs pV (w.withFollow "special-get-raises" b) (aby w.params).objs.size ((aby w.params).nsMap Yi "__annotations__") 2900 ⟨aby w.params,#[],boot_drawn,boot_toks,os⟩ (topStub pV))
noncomputable abbrev oS(s:aO):=openSeen qv ci (ade pV.main.body) KZ true s
noncomputable abbrev ahv(w:aaZ)(b:Bool)(os:acj):=(aht w b os).map fun s=>(staticsOk (ade pV.main.body) (aby w.params) s.heap&&namesBound pV s.heap&&gensDone s&&laidKept (aby w.params) s.heap,(oS s).1,(oS s).2.1,(oS s).2.2.1)
noncomputable abbrev ahw(w:aaZ)(b:Bool)(os:acj):=(aht w b os).map fun s=>((oS s).2.2.2.1,(oS s).2.2.2.2.1,(oS s).2.2.2.2.2.2.2.1,(oS s).2.2.2.2.2.2.2.2)
noncomputable abbrev ahx(w:aaZ)(b:Bool)(os:acj):=(aht w b os).map fun s=>((oS s).2.2.2.2.2.1,(oS s).2.2.2.2.2.2.1,EV s)
noncomputable abbrev pT(w:aaZ)(b:Bool)(os:acj):=(aht w b os).map fun s=>(staticsOk (ade pV.main.body) (aby w.params) s.heap&&namesBound pV s.heap&&gensDone s&&laidKept (aby w.params) s.heap,oS s,EV s)
theorem ahz(w:aaZ)(os:acj):ahv w false os=some (true,expectedOf qv,agu,true):=by
 unfold ahv aht;first|rw[aa4,aa3,aba,aa9]|rw[aa4,aa3]
 rfl'
theorem ahA(w:aaZ)(os:acj):ahw w false os=some (true,pinGoodD (drecsOf qv),wideGood qv,clsGoodW qv ci):=by
 unfold ahw aht;first|rw[aa4,aa3,aba,aa9]|rw[aa4,aa3]
 rfl'
theorem ahB(w:aaZ)(os:acj):ahx w false os=some (plainGoodE qv (looseW qv ci),plainGoodD qv ci,w9 (w.withFollow "special-get-raises" false)):=by
 unfold ahx aht;first|rw[aa4,aa3,aba,aa9]|rw[aa4,aa3]
 rfl'
theorem NJ(w:aaZ)(os:acj):pT w false os=some (true,aev qv ci,w9 (w.withFollow "special-get-raises" false)) :=
 ahy (fun p q r=>(p.1,(p.2.1,p.2.2.1,p.2.2.2,q.1,q.2.1,r.1,r.2.1,q.2.2.1,q.2.2.2),r.2.2)) (ahz w os) (ahA w os) (ahB w os)
theorem ahC(w:aaZ)(os:acj):ahv w true os=some (true,expectedOf qv,agu,true):=by
 unfold ahv aht;first|rw[aa4,aa3,aba,aa9]|rw[aa4,aa3]
 rfl'
theorem ahD(w:aaZ)(os:acj):ahw w true os=some (true,pinGoodD (drecsOf qv),wideGood qv,clsGoodW qv ci):=by
 unfold ahw aht;first|rw[aa4,aa3,aba,aa9]|rw[aa4,aa3]
 rfl'
theorem ahE(w:aaZ)(os:acj):ahx w true os=some (plainGoodE qv (looseW qv ci),plainGoodD qv ci,w9 (w.withFollow "special-get-raises" true)):=by
 unfold ahx aht;first|rw[aa4,aa3,aba,aa9]|rw[aa4,aa3]
 rfl'
theorem NK(w:aaZ)(os:acj):pT w true os=some (true,aev qv ci,w9 (w.withFollow "special-get-raises" true)) :=
 ahy (fun p q r=>(p.1,(p.2.1,p.2.2.1,p.2.2.2,q.1,q.2.1,r.1,r.2.1,q.2.2.1,q.2.2.2),r.2.2)) (ahC w os) (ahD w os) (ahE w os)
theorem HR(w:aaZ):((aby w.params).isNs Yi&&(#[]:Array aeH).size==0)=true:=by rfl'
theorem Aj:opening pV=plainProg pV.main.scope.names:=by rfl'
theorem FG:∀ s,fenceModules? pV s=some s:=fun s=>by rfl'
theorem xa{b:Bool}{os:acj}(h:pT w b os=some (true,aev qv ci,w9 (w.withFollow "special-get-raises" b))) :
  (topFrom afs pV (w.withFollow "special-get-raises" b) 2900 ⟨aby w.params,#[],boot_drawn,boot_toks,os⟩).map (fun s=>(openSeen qv ci (ade pV.main.body) KZ true s,aeQ mJ s))=some (aev qv ci,aeP mJ (w.withFollow "special-get-raises" b)):=by
 obtain⟨s,h1,h2⟩:=Option.map_eq_some_iff.mp h;obtain⟨h3,h4⟩:=Ym h2;unfold aht at h1;unfold topFrom;dsimp only;rw[HR];dsimp only;rw[h1];dsimp only[cH];rw[h3];dsimp only[ZM];exact congrArg some h4
theorem left:LeftO rowV.prog qv ci KZ (aeQ mJ) (aeP mJ) 2900:=by
 refine LeftO.of_split "special-get-raises" fun w=>?_;have hb:=boot_open (p:=pV) (N:=2900) Aj rfl FG w;obtain⟨⟨h,g,d,tk,os⟩,h1,h2⟩:=Option.map_eq_some_iff.mp hb;obtain⟨rfl,h3⟩:=Ym h2;obtain⟨rfl,h4⟩:=Ym h3;obtain⟨rfl,rfl⟩:=Ym h4;show(fencedOpening afs pV w 2900).map _=_;rw[h1];have hf:=xa (NJ w os);have ht:=xa (NK w os);exact congrArg some (Prod.ext hf ht)
end
section
set_option backward.match.sparseCases true
set_option tactic.hygienic true
noncomputable abbrev rwV:=ae2
noncomputable def Na:DefRec:=match(recsOf qv).find? (fun e=>e.name==ac "law")with
 | some d=>d
 | none=>⟨ac "law",EQ.1,[],EQ.2.2,⟨0,0,0,0⟩⟩
set_option maxHeartbeats 0 in
theorem FH(call:WalkO qv ci (fun _ _=>True) dJ rwV.row.toRowW Na [] fun f vs=>PySem.call f vs):rwV.Holds:=by
 refine PySem.W.holds_law (by rfl') fun SN=>?_;refine PySem.W.holds_open (q:=qv) (loose:=ci) (Xt:=KZ) (XP:=fun _ _=>True) (Yf:=aeQ mJ) (Ya:=aeP mJ) (YP:=dJ) (N:=2900) (d:=Na) (kwd:=[]) left (Hook.of mJ) (Hook.keeps mJ) (fun _ _=>trivial) (fun _ _ _ _ _=>trivial) ?h1 ?h2 ?h3 (fun s e=>recFacts_of e) ?h4 SN ?h5 ?h6 ?h7 call
 case h1=>rfl'
 case h2=>rfl'
 case h3=>rfl'
 case h4=>rfl
 case h5=>rfl'
 case h6=>exact⟨rfl,rfl,rfl,rfl,rfl,by decide +kernel⟩
 case h7=>exact⟨[.list [.int 3]],by decide +kernel,by decide +kernel⟩
end
section
variable(B:bw)
noncomputable def VarIs(h:ir)(env:YY)(m:fw->Option am)(x:fw)(ou:Option am):Prop :=
 (env.kindOf x=some .local/\m x=ou)\/((env.kindOf x=some .cell\/env.kindOf x=some .free)/\∃ a o,env.cells.lookup x=some a/\h.get? a=some o/\o.data= .cell ou)
noncomputable def ORep(h:ir)(μ X:List bQ):Option V->Option am->Prop
 | none,none=>True
 | some v,some u=>Rep B h μ X v u
 | _,_=>False
noncomputable def SR(env:YY)(P μ:List bQ)(ρ:af)(h:ir):Prop :=
 ∃ m,h.Ns env.locals m/\∀ x ov,ρ.lookup x=some ov->∃ ou,VarIs h env m x ou/\ORep B h μ (μ++P) ov ou
structure Sit(k:Nat)(A:bY)(envs:List YY)(env:YY)(P:List bQ):Prop where
 frames:A.frames=some envs
 handled:A.handled=none
 depth:A.depth+2*k<=600
 units:A.units+200*k<=6000
 frm:∃ e0 rest L,envs=e0::rest/\e0.frame=some L/\env.frame=some L
 kind:env.scope.kind= .function
 glob:env.globals=Yi
 blt:env.builtins=aau
 own:env.locals∈P
 cells:∀ x a,env.cells.lookup x=some a->a∈P/\(x==ac "__classdict__")≠true
 inj:∀ x y a,env.cells.lookup x=some a->env.cells.lookup y=some a->x=y
structure aP:Prop where
 hg:B.H.Ns Yi B.mg
 hb:B.H.Ns aau B.mb
 nolim:B.H.NoLimit
 sysm:∃ o es n e,B.H.get? YD=some o/\o.data= .dict es n/\e∈es.toList/\∀ a,e.key≠.ref a
 rng:B.mg (ac "range")=none/\B.mb (ac "range")=some (.type "range")
 enm:B.mg (ac "enumerate")=none/\B.mb (ac "enumerate")=some (.type "enumerate")
 zp:B.mg (ac "zip")=none/\B.mb (ac "zip")=some (.type "zip")
variable{B}
theorem ORep.go{h:ir}{Y:List bQ}(r:ORep B h μ (μ++P) ov ou)(g:Go μ Y h h')(hν:∀ a∈ν,h.get? a=none)(hY:∀ a∈Y,a∈P):ORep B h' (μ++ν) ((μ++ν)++P) ov ou:=by
 induction ov using aL<;>induction ou using aL<;>first|exact r|exact Rep.go r g hν hY
theorem SR.go{h:ir}(x:SR B env P μ ρ h)(g:Go μ [] h h')(hν:∀ a∈ν,h.get? a=none)(ap:∀ a∈μ,a∉P)
  (hl:env.locals∈P) (hc:∀ x a,env.cells.lookup x=some a->a∈P):SR B env P (μ++ν) ρ h':=by
 refine ab fun Z gG=>?_;obtain⟨m,⟨o,es,ep,ho,hd,hk,hf⟩,hv⟩:=x;refine gG ?_;clear gG
 refine⟨m,⟨o,es,ep,g.kp _ _ ho (fun q=>ap _ q hl) nofun,hd,hk,hf⟩,fun x ov e=>?_⟩;refine ab fun Z gG=>?_;obtain⟨ou,h1,h2⟩:=hv x ov e;refine gG ?_;clear gG
 refine⟨ou,h1.imp id ?_,h2.go g hν nofun⟩;rintro⟨hk,a,o,h3,h4,h5⟩;exact⟨hk,a,o,h3,g.kp _ _ h4 (fun q=>ap _ q (hc _ _ h3)) nofun,h5⟩
noncomputable def KV(B:bw)(P:List bQ)(Q:am->aO->Prop):V->List bQ->aO->Prop:=fun v μ s=>∀ u,Rep B s.heap μ (μ++P) v u->Q u s
noncomputable def K0(B:bw)(P:List bQ)(Q:List am->aO->Prop):List V->List bQ->aO->Prop:=fun vs μ s=>∀ us,Reps B s.heap μ (μ++P) vs us->Q us s
variable(B)
noncomputable def aY(T:bJ)(k n:Nat)(e:Expr):Prop :=
 ∀ {A:bY} {envs:List YY} {env:YY} {P μ:List bQ} {O:U} {s:aO} {ρ:af} {Q:am->aO->Prop} {E:am->aO->Prop},Sit k A envs env P->Inv B envs P μ O s->SR B env P μ ρ s.heap ->
  Aft B envs P μ [] s.heap (ev T n env.scope e ρ O) (KV B P Q) E->wpAny (cr B.prog B.w) A (eval e env) Q E s
noncomputable def FnOk(k:Nat)(fu:am)(F:aG):Prop :=
 ∀ {A:bY} {envs:List YY} {P μ:List bQ} {O:U} {s:aO} {vs:List V} {us:List am} {Q:am->aO->Prop} {E:am->aO->Prop},A.frames=some envs->A.handled=none->A.depth+2*k<=600->A.units+200*k<=6000 ->
  Inv B envs P μ O s->Reps B s.heap μ (μ++P) vs us->Aft B envs P μ [] s.heap (F vs O) (KV B P Q) E->wpAny (cr B.prog B.w) A (call fu us []) Q E s
noncomputable def blts:List (fw×am):=[(ac "len",.builtin "len"),(ac "isinstance",.builtin "isinstance"),(ac "int",.type "int"),(ac "str",.type "str"),(ac "tuple",.type "tuple"),(ac "list",.type "list"),(ac "dict",.type "dict"),(ac "bool",.type "bool"),(ac "range",.type "range"),(ac "enumerate",.type "enumerate"),(ac "zip",.type "zip")]
noncomputable def Kept(f:am):Prop:=∃ κ,(κ=Keeper.frame\/κ=Keeper.machine)/\∀ {A:bY} {s:aO} {Q:ac4->aO->Prop} {E:am->aO->Prop},B.H.StaysIn s.heap->Q κ s->wpAny (cr B.prog B.w) A (ab8 f) Q E s
structure dn(k:Nat)(T:bJ):Prop where
 glob:∀ x v,T.glob x=some v->(∃ u,B.mg x=some u/\Rep B B.H [] [] v u)\/(∃ t,v= .typ t/\B.mg x=none/\B.mb x=some (.type t))
 fns:∀ f F,T.fns.lookup f=some F->∃ a,B.mg f=some (.ref a)/\Kept B (.ref a)/\FnOk B k (.ref a) F
 blt:∀ g,eS g=true->T.fns.lookup g=none->∃ u,blts.lookup g=some u/\B.mg g=none/\B.mb g=some u
 meths:∀ m F,T.meths.lookup m=some F->∃ f,Kept B (.ref f)/\FnOk B k (.ref f) F /\
  ∀ {A:bY} {s:aO} {a d r:bQ} {hh:Int} {t:BY} {pl:Xm Bool} {Q:am×List am->aO->Prop} {E:am->aO->Prop},B.H.StaysIn s.heap->s.heap.get? a=some (Y2 B.cS d) ->
   s.heap.get? d=some (YM [⟨hh,.str (ac "rows") t,.ref r⟩] 1)->Q (.ref f,[.ref a]) s->wpAny (cr B.prog B.w) A (aaW (.ref a) m pl) Q E s
 nosup:T.fns.lookup (ac "super")=none
 rows:∀ {A:bY} {s:aO} {a d r:bQ} {hh:Int} {t:BY} {Q:am->aO->Prop} {E:am->aO->Prop},B.H.StaysIn s.heap->s.heap.get? a=some (Y2 B.cS d) ->
   s.heap.get? d=some (YM [⟨hh,.str (ac "rows") t,.ref r⟩] 1)->(∀ tk,Q (.ref r) { s with toks:=tk })->wpAny (cr B.prog B.w) A (adk (.ref a) (ac "rows") true) Q E s
variable{B}
theorem R.bind_ok{a:α}{f:α->R β} : (R.ok a).bind f=f a:=rfl
theorem Aft.opt{Y:List bQ}{h:ir}{x:Option α}{g:α->R (γ×U)}{K:γ->List bQ->aO->Prop}(H:Aft B envs P μ Y h ((ah x).bind g) K E) :
  ∃ a,x=some a/\Aft B envs P μ Y h (g a) K E:=by
 induction x using aL with
 | none=>exact(H:False).elim
 | some a=>exact⟨a,rfl,H⟩
theorem wj{c:Const}{pos:YZ} : aY B T k (n+1) (.Constant c q pos):=by
 intro A envs env P μ O s ρ Q E S I r H;generalize(H:Aft B envs P μ [] s.heap ((ah (yi c)).bind fun v=>R.ok (v,O)) (KV B P Q) E)=H';obtain⟨v,hv,H'⟩:=H'.opt;show wpAny _ _ (constValue env c) _ _ s;have toks:∀ {tk:Nat} {u:am},Rep B s.heap μ (μ++P) v u->Q u { s with toks:=tk }:=fun{tk u} hr=>H'.at0 (s:={ s with toks:=tk }) (I.grow (tk:=tk) (h':=s.heap) fun Z Z e=>e) (Go.refl _ _ _) u hr
 induction c using Const.casesOn with
 | none=>obtain rfl:=si hv;exact ae (H'.here I _ zN)
 | bool b=>obtain rfl:=si hv;exact ae (H'.here I _ zB)
 | int i=>obtain rfl:=si hv;exact wpAny_mkInt (toks zI)
 | str x=>obtain rfl:=si hv;exact adZ (toks zS)
 | float=>exact nn hv
 | complex=>exact nn hv
 | bytes=>exact nn hv
 | ellipsis=>exact nn hv
noncomputable def HS(B:bw)(op:am->am->Xm am)(F:V->V->Option V):Prop :=
 ∀ {A:bY} {envs:List YY} {P μ:List bQ} {O:U} {s:aO} {a b v:V} {u w:am} {Q:am->aO->Prop} {E:am->aO->Prop},A.handled=none->A.units<=6000->Inv B envs P μ O s->Rep B s.heap μ (μ++P) a u->Rep B s.heap μ (μ++P) b w ->
   F a b=some v->(∀ x s',Inv B envs P μ O s'->Go μ [] s.heap s'.heap->Rep B s'.heap μ (μ++P) v x->Q x s')->wpAny (cr B.prog B.w) A (op u w) Q E s
theorem Sit.cellsIn{A:bY}(S:Sit k A envs env P):∀ x a,env.cells.lookup x=some a->a∈P:=fun x a e=>(S.cells x a e).1
theorem Sit.units'{A:bY}(S:Sit k A envs env P):A.units<=6000:=by have:=S.units;exact QC ‹_›
theorem CI{l r':Expr}{op:acd}{pos:YZ}(ih:∀ e,aY B T k n e)(K1:HS B (abz op) (b9 op)):aY B T k (n+1) (.BinOp l op r' pos):=by
 intro A envs env P μ O s ρ Q E S I r H;generalize(H:Aft B envs P μ [] s.heap ((ev T n env.scope l ρ O).bind fun a=>(ev T n env.scope r' ρ a.2).bind fun b=>(ah (b9 op a.1 b.1)).bind fun v=>.ok (v,b.2)) (KV B P Q) E)=H';refine wpAny_BinOp (ih l S I r (H'.bind fun a aS aT s1 Z f1 I1 g1 H1 u1 R1=>?_));generalize(r.go g1 f1 I.apart S.own S.cellsIn)=r1;refine ih r' S I1 r1 (H1.bind fun b ky eY s2 Z f2 I2 g2 H2 u2 R2=>?_);obtain⟨v,hv,H2⟩:=H2.opt;exact K1 S.handled S.units' I2 (R1.go g2 f2 nofun) R2 hv fun x s' I' g' R'=>H2.at0 I' g' x R'
end
noncomputable def fh(B:bw)(T:bJ)(k n:Nat)(e:Expr):Prop :=
 ∀ {A:bY} {envs:List YY} {env:YY} {P μ:List bQ} {O:U} {s:aO} {ρ:af} {Q:Bool->aO->Prop} {E:am->aO->Prop},Sit k A envs env P->Inv B envs P μ O s->SR B env P μ ρ s.heap ->
  Aft B envs P μ [] s.heap (tst (ev T n env.scope e ρ O)) (fun b Z s'=>Q b s') E->wpAny (cr B.prog B.w) A (ad3 e env (eval e env)) Q E s
theorem ue(I:Inv B envs P μ O s){m:fw->Option am}(h:B.H.Ns a m):s.heap.Ns a m:=h.keeps I.stays
theorem xb(I:Inv B envs P μ O s)(r:Rep B B.H [] [] v u):Rep B s.heap μ (μ++P) v u :=
 Rep.move v r (fun a o e Z=>I.stays a o e) (fun n a e=>by simp at e) fun a m=>.inr (I.new a m)
theorem Ak{A:bY}{pos:YZ}
  (hk:env.scope.kind= .function) (r:SR B env P μ ρ s.heap) (hx:ρ.lookup x=some (some v)) (hd:(x==ac "__debug__")=false) (hn:(x==ac "__classdict__")=false) (q:∀ u,Rep B s.heap μ (μ++P) v u->Q u s) :
  wpAny M A (eval (.Name x pos) env) Q E s:=by
 obtain⟨m,hm,hv⟩:=r;obtain⟨ou,h1,h2⟩:=hv x _ hx;induction ou using aL with
 | none=>exact h2.elim
 | some u =>
  generalize(q u h2)=hq;rcases h1 with⟨k1,e⟩|⟨k1,a,o,e,ho,eK⟩
  ·exact acv (ab5 hk k1 hm e hq) hd
  ·rcases k1 with k1|k1
   ·exact acv (wpAny_loadName_cell hk k1 e ⟨o,ho,eK⟩ hq) hd
   ·exact acv (wpAny_loadName_free hk k1 e ⟨o,ho,eK⟩ hq hn) hd
theorem fy{A:bY}{pos:YZ}(BO:aP B)
  (hk:env.scope.kind= .function) (hg:env.globals=Yi) (I:Inv B envs P μ O s) (hx:env.scope.names.lookup x=some .globalImplicit) (hd:(x==ac "__debug__")=false) (e:B.mg x=some u) (q:Q u s) :
  wpAny M A (eval (.Name x pos) env) Q E s :=
 ZN hk hx (acK (by rw[hg];exact ue I BO.hg) e q) hd
theorem iG{A:bY}{pos:YZ}(BO:aP B)
  (hk:env.scope.kind= .function) (hg:env.globals=Yi) (hb:env.builtins=aau) (I:Inv B envs P μ O s) (hx:env.scope.names.lookup x=some .globalImplicit) (hd:(x==ac "__debug__")=false) (e1:B.mg x=none) (e2:B.mb x=some u) (q:Q u s) :
  wpAny M A (eval (.Name x pos) env) Q E s :=
 ZN hk hx (aeZ (by rw[hg];exact ue I BO.hg) e1 (by rw[hb];exact ue I BO.hb) e2 q) hd
theorem FI{pos:YZ}(BO:aP B)(TO:dn B k T):aY B T k (n+1) (.Name x pos):=by
 intro A envs env P μ O s ρ Q E S I r H;generalize(H:Aft B envs P μ [] s.heap ((ah (tH T env.scope x ρ)).bind fun v=>R.ok (v,O)) (KV B P Q) E)=H';obtain⟨v,hv,H'⟩:=H'.opt;generalize(fun u hr=>H'.here I u hr:∀ u,Rep B s.heap μ (μ++P) v u->Q u s)=hq;unfold tH at hv;by_cases hd:(x==ac "__debug__")=true
 ·rw[if_pos hd]at hv;exact nn hv
 ·rw[if_neg hd]at hv;have gx:(x==ac "__debug__")=false:=by simpa using hd
  induction hx:ρ.lookup x using aL with
  | some ov =>
   rw[hx]at hv;induction ov using aL with
   | none=>exact nn hv
   | some w =>
    have:w=v:=kH hv;subst this;by_cases hn:(x==ac "__classdict__")=true
    ·obtain⟨m,hm,yp⟩:=r;obtain⟨ou,h1,h2⟩:=yp x _ hx;induction ou using aL with
     | none=>exact h2.elim
     | some u =>
      rcases h1 with⟨k1,e⟩|⟨k1,a,o,e,ho,eK⟩
      ·exact acv (ab5 S.kind k1 hm e (hq u h2)) gx
      ·exact(S.cells x a e).2 hn |>.elim
    ·exact Ak S.kind r hx gx (by simpa using hn) hq
  | none =>
   rw[hx]at hv;induction hl:env.scope.names.lookup x using aL with
   | none=>rw[hl]at hv;exact nn hv
   | some kd =>
    rw[hl]at hv;induction kd using NameKind.casesOn with
    | globalImplicit =>
     rcases TO.glob x v hv with⟨u,e,hr⟩|⟨t,rfl,e1,e2⟩
     ·exact fy BO S.kind S.glob I hl gx e (hq u (xb I hr))
     ·exact iG BO S.kind S.glob S.blt I hl gx e1 e2 (hq _ (by rfl))
    | _=>exact nn hv
theorem kP{A:bY}{b:Bool}{Q:Bool->aO->Prop}{p:aci}(r:Rep B s.heap μ (μ++P) v u)(h:v.truth=some b)(q:Q b s) :
  wpAny (cr p w) A (truthy u) Q E s:=by
 induction v using V.casesOn with
 | none=>obtain rfl:=iS r;obtain rfl:=si h;exact fun Z Z Z=>q
 | bool c=>obtain rfl:=pJ r;obtain rfl:=si h;exact fun Z Z Z=>q
 | int i =>
  replace r:=dS r;obtain⟨t,rfl⟩:=r;obtain rfl:=si h;refine PySem.P.truthy_int ?_;have e:(i != 0)=!(decide (i=0)):=by by_cases q:i=0<;>rfl
  rw[e];exact q
 | _=>exact nn h
theorem Aft.tst{Y:List bQ}{h:ir}{r:R (V×U)}{K:Bool->List bQ->aO->Prop}{K':V->List bQ->aO->Prop}
  (x:Aft B envs P μ Y h (tst r) K E) (k:∀ v b ar ν s',r= .ok (v,ar)->v.truth=some b->(∀ a∈ν,h.get? a=none)->Inv B envs P (μ++ν) ar s'->Go μ Y h s'.heap->K b (μ++ν) s'->K' v (μ++ν) s') :
  Aft B envs P μ Y h r K' E :=
 Aft.bind x fun v ar ν s' hr f I g H=>by
  obtain⟨b,hb,H⟩:=H.opt;exact k v b ar ν s' hr hb f I g (H.here I)
theorem yq{x:Expr}{op:UnaryOp}{pos:YZ}(ih:∀ e,aY B T k n e)(SP:∀ {A:bY} {s:aO} {i:Int} {t:BY} {Q:am->aO->Prop} {E:am->aO->Prop},(∀ tk t',Q (.int (-i) t') { s with toks:=tk })->wpAny (cr B.prog B.w) A (unaryOp .USub (.int i t)) Q E s) :
  aY B T k (n+1) (.UnaryOp op x pos):=by
 intro A envs env P μ O s ρ Q E S I r H;generalize(H:Aft B envs P μ [] s.heap ((ev T n env.scope x ρ O).bind fun a=>(ah (NH op a.1)).bind fun v=>.ok (v,a.2)) (KV B P Q) E)=H';refine wpAny_UnaryOp (ih x S I r (H'.bind fun a aS aT s1 Z f1 I1 g1 H1 u1 R1=>?_));obtain⟨v,hv,H1⟩:=H1.opt;induction op using adS with
 | USub =>
  induction a using V.casesOn with
  | int i =>
   obtain rfl:=si hv;replace R1:=dS R1;obtain⟨t,rfl⟩:=R1;exact SP fun tk t'=>H1.at0 (s:={ s1 with toks:=tk }) (I1.grow (tk:=tk) (h':=s1.heap) fun Z Z e=>e) (Go.refl _ _ _) _ zI
  | _=>exact nn hv
 | Not =>
  have cq:a.truth.map (fun b=>V.bool (!b))=some v:=hv;induction ht:a.truth using aL with
  | none=>rw[ht]at cq;exact nn cq
  | some b =>
   rw[ht]at cq;obtain rfl:V.bool (!b)=v:=kH cq;exact not_value (kP R1 ht (H1.here I1 _ zB))
 | _=>exact nn hv
theorem CJ{a b:Expr}{pos:YZ}(ih:∀ e,aY B T k n e)(iht:∀ e,fh B T k n e):aY B T k (n+1) (.IfExp t a b pos):=by
 intro A envs env P μ O s ρ Q E S I r H;have H':Aft B envs P μ [] s.heap ((tst (ev T n env.scope t ρ O)).bind fun c=>match c.1 with
   | true=>ev T n env.scope a ρ c.2
   | false=>ev T n env.scope b ρ c.2) (KV B P Q) E:=H
 refine wpAny_IfExp (iht t S I r (H'.bind fun c aS aT s1 Z f1 I1 g1 H1=>?_));generalize(r.go g1 f1 I.apart S.own S.cellsIn)=r1;induction c using iN with
 | true=>exact ih a S I1 r1 H1
 | false=>exact ih b S I1 r1 H1
theorem fz(ih:∀ e,aY B T k n e){A:bY}{pos:YZ}(S:Sit k A envs env P) :
  ∀ {μ:List bQ} {O:U} {s:aO} {Q:List am->aO->Prop},Inv B envs P μ O s->SR B env P μ ρ s.heap ->
   Aft B envs P μ [] s.heap (a9 (fun e O=>ev T n env.scope e ρ O) es O) (K0 B P Q) E->wpAny (cr B.prog B.w) A (acJ (Yx pos (j8 es env))) Q E s:=by
 induction es with
 | nil =>
  intro μ O s Q I r H;exact aaC (Aft.here (O:=O) H I [] z0)
 | cons e es uf =>
  intro μ O s Q I r H;have H':Aft B envs P μ [] s.heap ((ev T n env.scope e ρ O).bind fun a=>(a9 (fun e O=>ev T n env.scope e ρ O) es a.2).bind fun q=>.ok (a.1::q.1,q.2)) (K0 B P Q) E:=H;have he:j8 (e::es) env=(false,eval e env)::j8 es env:=by
   induction e using ge with
   | Starred q p =>
    exfalso;have:ev T n env.scope (.Starred q p) ρ O= .stuck:=by cases n<;>rfl
    rw[this]at H';exact H'
   | _=>rfl
  refine afq (ih e S I r (H'.bind fun a aS aT s1 Z f1 I1 g1 H1 u1 R1=>?_)) he;refine uf I1 (r.go g1 f1 I.apart S.own S.cellsIn) (H1.bind fun q ky eY s2 Z f2 I2 g2 H2 us R2=>?_);exact H2.here I2 (u1::us) (zC (R1.go g2 f2 nofun) R2)
theorem eU(h:m<=ai):m<=lH:=bL h (by rw[aeu];decide)
theorem Aft.ite{Y:List bQ}{h:ir}{c:Prop}[Decidable c]{r:R (β×U)}{K:β->List bQ->aO->Prop}(x:Aft B envs P μ Y h (if c then r else .stuck) K E):c/\Aft B envs P μ Y h r K E:=by
 by_cases q:c
 ·rw[if_pos q]at x;exact⟨q,x⟩
 ·rw[if_neg q]at x;exact x.elim
theorem Aft.nite{Y:List bQ}{h:ir}{c:Prop}[Decidable c]{r:R (β×U)}{K:β->List bQ->aO->Prop}(x:Aft B envs P μ Y h (if c then .stuck else r) K E):¬c/\Aft B envs P μ Y h r K E:=by
 by_cases q:c
 ·rw[if_pos q]at x;exact x.elim
 ·rw[if_neg q]at x;exact⟨q,x⟩
theorem bp(h:ir):h.get? h.objs.size=none:=by
 induction q:h.get? h.objs.size using aL with
 | none=>rfl
 | some o'=>exact absurd (cR q) (Yl _)
theorem gr(I:Inv B envs P μ O s):s.heap.objs.size∉μ++P:=fun m=>by
 obtain⟨o,e⟩:=I.dom _ m;rw[bp]at e;exact nn e
theorem Al(I:Inv B envs P μ O s)(r:Reps B s.heap μ (μ++P) vs us) :
  Rep B (s.heap.push { cls:=.type "tuple",data:=.seq us.toArray }) μ (μ++P) (.tup vs) (.ref s.heap.objs.size):=by
 exact CA (gr I) (⟨_,_,ct _ rfl,rfl,rfl,rfl⟩) (by simpa using r.go0 (Go.push _ _ _ _))
theorem HT(I:Inv B envs P μ O s)(r:Reps B s.heap μ (μ++P) vs us) :
  Rep B (s.heap.push { cls:=.type "list",data:=.seq us.toArray }) μ (μ++P) (.lst vs) (.ref s.heap.objs.size):=by
 exact zL (gr I) (⟨_,ct _ rfl,rfl,_,rfl⟩) (by simpa using r.go0 (Go.push _ _ _ _))
theorem Reps.length{h:ir}{μ X:List bQ} : ∀ {vs:List V} {us:List am},Reps B h μ X vs us->us.length=vs.length
 | [],us,r=>by obtain rfl:=b8 r;rfl
 | v::vs,us,r=>by
  replace r:=ba r;obtain⟨u,q,rfl,_,r2⟩:=r;simp[Reps.length r2]
theorem CK{pos:YZ}(ih:∀ e,aY B T k n e):aY B T k (n+1) (.Tuple es q pos):=by
 intro A envs env P μ O s ρ Q E S I r H;generalize(H:Aft B envs P μ [] s.heap ((a9 (fun e O=>ev T n env.scope e ρ O) es O).bind fun a=>if a.1.length<=ai then .ok (.tup a.1,a.2)else .stuck) (KV B P Q) E)=H';refine wpAny_Tuple (fz ih S I r (H'.bind fun vs aS aT s1 Z f1 I1 g1 H1 us R1=>?_));generalize((H1.ite)).1=hc;generalize((H1.ite)).2=H1;refine⟨by rw[R1.length];exact eU hc,?_⟩;exact H1.at0 (s:={ s1 with heap:=_ }) (I1.grow fun Z Z e=>ag _ e) (Go.push _ _ _ _) _ (Al I1 R1)
theorem CL{pos:YZ}(ih:∀ e,aY B T k n e):aY B T k (n+1) (.List es pos):=by
 intro A envs env P μ O s ρ Q E S I r H;generalize(H:Aft B envs P μ [] s.heap ((a9 (fun e O=>ev T n env.scope e ρ O) es O).bind fun a=>if a.1.length<=ai then .ok (.lst a.1,a.2)else .stuck) (KV B P Q) E)=H';refine wpAny_List (fz ih S I r (H'.bind fun vs aS aT s1 Z f1 I1 g1 H1 us R1=>?_));generalize((H1.ite)).1=hc;generalize((H1.ite)).2=H1;refine⟨by rw[R1.length];exact eU hc,?_⟩;exact H1.at0 (s:={ s1 with heap:=_ }) (I1.grow fun Z Z e=>ag _ e) (Go.push _ _ _ _) _ (HT I1 R1)
theorem Am{pos:YZ}(ih:∀ e,aY B T k n e):aY B T k (n+1) (.BoolOp op es pos):=by
 induction es with
 | nil=>intro A envs env P μ O s ρ Q E S I r H;exact H.elim
 | cons e es uf =>
  intro A envs env P μ O s ρ Q E S I r H;induction es using cz with
  | nil=>exact BoolOp_one (ih e S I r H)
  | cons e2 es =>
   have H':Aft B envs P μ [] s.heap ((ev T n env.scope e ρ O).bind fun a=>(ah a.1.truth).bind fun t=>match op,t with
    | .And,true=>jt (fun e O=>ev T n env.scope e ρ O) op (e2::es) a.2
    | .Or,false=>jt (fun e O=>ev T n env.scope e ρ O) op (e2::es) a.2
    | _,_=>.ok (a.1,a.2)) (KV B P Q) E:=H
   induction op using abw with
   | And =>
    refine BoolOp_and (ih e S I r (H'.bind fun a aS aT s1 Z f1 I1 g1 H1 u1 R1=>?_));obtain⟨t,ht,H1⟩:=H1.opt;refine kP R1 ht ?_;have r1:=r.go g1 f1 I.apart S.own S.cellsIn;induction t using iN with
    | true=>exact uf S I1 r1 H1
    | false=>exact H1.here I1 _ R1
   | Or =>
    refine BoolOp_or (ih e S I r (H'.bind fun a aS aT s1 Z f1 I1 g1 H1 u1 R1=>?_));obtain⟨t,ht,H1⟩:=H1.opt;refine kP R1 ht ?_;have r1:=r.go g1 f1 I.apart S.own S.cellsIn;induction t using iN with
    | false=>exact uf S I1 r1 H1
    | true=>exact H1.here I1 _ R1
noncomputable def NL{α:Type}(op:BoolOp)(t:Bool)(x y:R α):R α:=match op,t with
 | .And,true=>x
 | .Or,false=>x
 | _,_=>y
theorem FJ{f:Expr->U->R (V×U)}{e e2:Expr} : tst (jt f op (e::e2::es) O)=(tst (f e O)).bind fun c=>NL op c.1 (tst (jt f op (e2::es) c.2)) (.ok c):=by
 show tst ((f e O).bind _)=_;generalize f e O=x;induction x using R.casesOn with
 | ok a =>
  show tst ((ah a.1.truth).bind _)=((ah a.1.truth).bind _:R (Bool×U)).bind _;have h:tst (.ok (a.1,a.2))=(ah a.1.truth).bind fun b=>.ok (b,a.2):=rfl
  generalize a.1.truth=t at h ⊢;induction t using aL with
  | none=>rfl
  | some t =>
   induction op using abw with
   | And=>induction t using iN with
    | true=>rfl
    | false=>exact h
   | Or=>induction t using iN with
    | false=>rfl
    | true=>exact h
 | exc row=>rfl
 | stuck=>rfl
theorem FK(iht:∀ e,fh B T k n e){A:bY}(S:Sit k A envs env P) :
  ∀ {μ:List bQ} {O:U} {s:aO} {Q:Bool->aO->Prop},Inv B envs P μ O s->SR B env P μ ρ s.heap ->
   Aft B envs P μ [] s.heap (tst (jt (fun e O=>ev T n env.scope e ρ O) op es O)) (fun b Z s'=>Q b s') E->wpAny (cr B.prog B.w) A (allTrue op es env) Q E s:=by
 induction es with
 | nil=>intro μ O s Q I r H;exact H.elim
 | cons e es uf =>
  intro μ O s Q I r H;induction es using cz with
  | nil =>
   induction op using abw with
   | And =>
    refine ad0 (iht e S I r (Aft.mono (show Aft B envs P μ [] s.heap (tst (ev T n env.scope e ρ O)) (fun b Z s'=>Q b s') E from H) fun b bV s' hq=>?_));induction b using iN with
    | true=>exact wpAny_allTrue_And_nil hq
    | false=>exact hq
   | Or =>
    refine aeb (iht e S I r (Aft.mono (show Aft B envs P μ [] s.heap (tst (ev T n env.scope e ρ O)) (fun b Z s'=>Q b s') E from H) fun b bV s' hq=>?_));induction b using iN with
    | true=>exact hq
    | false=>exact wpAny_allTrue_Or_nil hq
  | cons e2 es =>
   rw[FJ]at H;induction op using abw with
   | And =>
    refine ad0 (iht e S I r (H.bind fun t aS aT s1 Z f1 I1 g1 H1=>?_));induction t using iN with
    | true=>exact uf I1 (r.go g1 f1 I.apart S.own S.cellsIn) H1
    | false=>exact Aft.here (O:=aS) (b:=false) H1 I1
   | Or =>
    refine aeb (iht e S I r (H.bind fun t aS aT s1 Z f1 I1 g1 H1=>?_));induction t using iN with
    | true=>exact Aft.here (O:=aS) (b:=true) H1 I1
    | false=>exact uf I1 (r.go g1 f1 I.apart S.own S.cellsIn) H1
noncomputable def oV(B:bw):Prop :=
 ∀ (op:acR) {A:bY} {envs:List YY} {P μ:List bQ} {O:U} {s:aO} {a b:V} {c:Bool} {u w:am} {Q:am->aO->Prop} {E:am->aO->Prop},A.handled=none->A.depth<=600->A.units<=6000->Inv B envs P μ O s->Rep B s.heap μ (μ++P) a u->Rep B s.heap μ (μ++P) b w ->
   av op a b O=some c->(∀ s',Inv B envs P μ O s'->Go μ [] s.heap s'.heap->Q (.bool c) s')->wpAny (cr B.prog B.w) A (Zn op u w) Q E s
theorem jh{A:bY}{b:Bool}{Q:Bool->aO->Prop}(q:Q b s):wpAny M A (truthy (.bool b)) Q E s:=fun Z Z Z=>q
theorem Sit.depth'{A:bY}(S:Sit k A envs env P):A.depth<=600:=by have:=S.depth;exact Qp ‹_›
theorem ug(CO:oV B)(ih:∀ e,aY B T k n e){A:bY}{envs:List YY}{env:YY}{P:List bQ}{ρ:af}{pos:YZ}{E:am->aO->Prop}(S:Sit k A envs env P) :
  ∀ {cA:List acR} {es:List Expr} {μ:List bQ} {O:U} {s:aO} {a:V} {u:am} {Q:am->aO->Prop},Inv B envs P μ O s->SR B env P μ ρ s.heap->Rep B s.heap μ (μ++P) a u ->
   Aft B envs P μ [] s.heap (fW (fun e O=>ev T n env.scope e ρ O) a cA es O) (KV B P Q) E->wpAny (cr B.prog B.w) A (ad4 pos u cA (acM es env)) Q E s
 | [],_,_,_,_,_,_,_,_,_,_,H=>H.elim
 | [_],[],_,_,_,_,_,_,_,_,_,H=>H.elim
 | _::_::_,[],_,_,_,_,_,_,_,_,_,H=>H.elim
 | [op],[e],μ,O,s,a,u,Q,I,r,R,H=>by
  have H':Aft B envs P μ [] s.heap ((ev T n env.scope e ρ O).bind fun b=>(ah (av op a b.1 b.2)).bind fun c=>.ok (.bool c,b.2)) (KV B P Q) E:=H;refine chain_last (ih e S I r (H'.bind fun b aS aT s1 Z f1 I1 g1 H1 u1 R1=>?_));obtain⟨c,hc,H1⟩:=H1.opt;exact CO op S.handled S.depth' S.units' I1 (R.go g1 f1 nofun) R1 hc fun s' I' g'=>H1.at0 I' g' _ zB
 | [_],_::_::_,_,_,_,_,_,_,_,_,_,H=>H.elim
 | _::_::_,[_],_,_,_,_,_,_,_,_,_,H=>H.elim
 | op::op2::cA,e::e2::es,μ,O,s,a,u,Q,I,r,R,H=>by
  have H':Aft B envs P μ [] s.heap ((ev T n env.scope e ρ O).bind fun b=>(ah (av op a b.1 b.2)).bind fun c=>if c=true then fW (fun e O=>ev T n env.scope e ρ O) b.1 (op2::cA) (e2::es) b.2 else .ok (.bool false,b.2)) (KV B P Q) E:=H;refine chain_link (ih e S I r (H'.bind fun b aS aT s1 Z f1 I1 g1 H1 u1 R1=>?_));obtain⟨c,hc,H1⟩:=H1.opt;refine CO op S.handled S.depth' S.units' I1 (R.go g1 f1 nofun) R1 hc fun s' I' g'=>jh ?_;induction c using iN with
  | true=>exact ug CO ih S I' ((r.go g1 f1 I.apart S.own S.cellsIn).go g' (ν:=[]) nofun I1.apart S.own S.cellsIn |> fun x=>by rwa[bP]at x) (R1.go0 g') (by
    have:=Aft.shift (show Aft B envs P (μ++aT) [] s1.heap (fW (fun e O=>ev T n env.scope e ρ O) b (op2::cA) (e2::es) aS) (KV B P Q) E from H1) (ν:=[]) g' nofun
    rwa[bP]at this)
  | false=>exact Aft.at0 (O:=aS) (b:=V.bool false) H1 I' g' _ zB
theorem Aft.step{Y:List bQ}{h:ir}{r:R (β×U)}{K:β->List bQ->aO->Prop}(x:Aft B envs P μ Y h r K E)(g:Go μ Y h aF):Aft B envs P μ Y aF r K E:=by
 have:=x.shift (ν:=[]) g nofun
 rwa[bP]at this
theorem SR.step{h:ir}(x:SR B env P μ ρ h)(g:Go μ [] h h')(ap:∀ a∈μ,a∉P)
  (hl:env.locals∈P) (hc:∀ x a,env.cells.lookup x=some a->a∈P):SR B env P μ ρ h':=by
 have:=x.go (ν:=[]) g nofun ap hl hc
 rwa[bP]at this
theorem kQ{x:R (α×U)}{f:α×U->R (V×U)} : tst (x.bind f)=x.bind fun a=>tst (f a):=by induction x using R.casesOn<;>rfl
theorem uh{x:R α}{f:α->R (V×U)} : tst (x.bind f)=x.bind fun a=>tst (f a):=by induction x using R.casesOn<;>rfl
theorem xc(CO:oV B)(ih:∀ e,aY B T k n e){A:bY}{envs:List YY}{env:YY}{P:List bQ}{ρ:af}{pos:YZ}{E:am->aO->Prop}(S:Sit k A envs env P) :
  ∀ {cA:List acR} {es:List Expr} {μ:List bQ} {O:U} {s:aO} {a:V} {u:am} {Q:Bool->aO->Prop},Inv B envs P μ O s->SR B env P μ ρ s.heap->Rep B s.heap μ (μ++P) a u ->
   Aft B envs P μ [] s.heap (tst (fW (fun e O=>ev T n env.scope e ρ O) a cA es O)) (fun b Z s'=>Q b s') E->wpAny (cr B.prog B.w) A (testChain pos u cA (acM es env)) Q E s
 | [],_,_,_,_,_,_,_,_,_,_,H=>H.elim
 | [_],[],_,_,_,_,_,_,_,_,_,H=>H.elim
 | _::_::_,[],_,_,_,_,_,_,_,_,_,H=>H.elim
 | [op],[e],μ,O,s,a,u,Q,I,r,Ra,H=>by
  have H':Aft B envs P μ [] s.heap (tst ((ev T n env.scope e ρ O).bind fun b=>(ah (av op a b.1 b.2)).bind fun c=>.ok (.bool c,b.2))) (fun b Z s'=>Q b s') E:=H;rw[kQ]at H';refine test_last (ih e S I r (H'.bind fun b aS aT s1 Z f1 I1 g1 H1 u1 R1=>?_));rw[uh]at H1;obtain⟨c,hc,H1⟩:=H1.opt;exact CO op S.handled S.depth' S.units' I1 (Ra.go g1 f1 nofun) R1 hc fun s' I' g'=>jh (Aft.at0 (O:=aS) (b:=c) H1 I' g')
 | [_],_::_::_,_,_,_,_,_,_,_,_,_,H=>H.elim
 | _::_::_,[_],_,_,_,_,_,_,_,_,_,H=>H.elim
 | op::op2::cA,e::e2::es,μ,O,s,a,u,Q,I,r,Ra,H=>by
  have H':Aft B envs P μ [] s.heap (tst ((ev T n env.scope e ρ O).bind fun b=>(ah (av op a b.1 b.2)).bind fun c=>if c=true then fW (fun e O=>ev T n env.scope e ρ O) b.1 (op2::cA) (e2::es) b.2 else .ok (.bool false,b.2))) (fun b Z s'=>Q b s') E:=H;rw[kQ]at H';refine test_link (ih e S I r (H'.bind fun b aS aT s1 Z f1 I1 g1 H1 u1 R1=>?_));rw[uh]at H1;obtain⟨c,hc,H1⟩:=H1.opt;refine CO op S.handled S.depth' S.units' I1 (Ra.go g1 f1 nofun) R1 hc fun s' I' g'=>jh ?_;induction c using iN with
  | true=>exact xc CO ih S I' ((r.go g1 f1 I.apart S.own S.cellsIn).step g' I1.apart S.own S.cellsIn) (R1.go0 g') (H1.step g')
  | false=>exact Aft.at0 (O:=aS) (b:=false) H1 I' g'
theorem yr{l:Expr}{cA:List acR}{pos:YZ}(CO:oV B)(ih:∀ e,aY B T k n e):aY B T k (n+1) (.Compare l cA es pos):=by
 intro A envs env P μ O s ρ Q E S I r H;have H':Aft B envs P μ [] s.heap (if aat cA es=true then .stuck else(ev T n env.scope l ρ O).bind fun a=>fW (fun e O=>ev T n env.scope e ρ O) a.1 cA es a.2) (KV B P Q) E:=H;generalize((H'.nite)).1=hm;generalize((H'.nite)).2=H';show wpAny _ _ (do ad4 pos (<- eval l env) cA (aeY cA es (acM es env))) Q E s;rw[acn _ _ _ (by simpa using hm)];refine aa (ih l S I r (H'.bind fun a aS aT s1 Z f1 I1 g1 H1 u1 R1=>?_));exact ug CO ih S I1 (r.go g1 f1 I.apart S.own S.cellsIn) R1 H1
theorem yt{l:Expr}{cA:List acR}{pos:YZ}(CO:oV B)(ih:∀ e,aY B T k n e):fh B T k (n+1) (.Compare l cA es pos):=by
 intro A envs env P μ O s ρ Q E S I r H;have H':Aft B envs P μ [] s.heap (tst (if aat cA es=true then .stuck else(ev T n env.scope l ρ O).bind fun a=>fW (fun e O=>ev T n env.scope e ρ O) a.1 cA es a.2)) (fun b Z s'=>Q b s') E:=H;have hm:¬aat cA es=true:=fun q=>by rw[if_pos q]at H';exact H'.elim
 rw[if_neg hm]at H';show wpAny _ _ (do testChain pos (<- eval l env) cA (aeY cA es (acM es env))) Q E s;rw[acn _ _ _ (by simpa using hm)];rw[kQ]at H';refine aa (ih l S I r (H'.bind fun a aS aT s1 Z f1 I1 g1 H1 u1 R1=>?_));exact xc CO ih S I1 (r.go g1 f1 I.apart S.own S.cellsIn) R1 H1
noncomputable def pU(p:YZ)(fP:Xm am):Xm Bool:=do let v<-fP;standAt p;holding [v] (truthy v)
theorem ul{e:Expr}(ih:aY B T k n e)(he:∀ env fP,ad3 e env fP=pU p fP):fh B T k n e:=by
 intro A envs env P μ O s ρ Q E S I r H;rw[he];exact aa (Yj (ih S I r (Aft.tst H fun v b ar ν s' Z ht Z Z Z q u R=>kP R ht q)) (fun v s₁ aF=>aa (Ye (eG aF))) fun _ _ x=>x)
theorem K2{P:UnaryOp->Prop}{op:UnaryOp}(h1:P .Not)(h2:(∀ x pos env fP,ad3 (.UnaryOp op x pos) env fP=pU pos fP)->P op):P op:=by
 induction op using adS with
 | Not=>exact h1
 | _=>exact h2 fun x pos env fP=>aeI (pU pos fP)
theorem K3{P:Expr->Prop}{e:Expr}(h1:∀ op x pos,P (.UnaryOp op x pos))(h2:∀ op es pos,P (.BoolOp op es pos))(h3:∀ t a b pos,P (.IfExp t a b pos))(h4:∀ l cA es pos,P (.Compare l cA es pos))
  (h5:∀ p,(∀ env fP,ad3 e env fP=pU p fP)->P e):P e:=by
 induction e using ge with
 | UnaryOp op x pos=>exact h1 op x pos
 | BoolOp op es pos=>exact h2 op es pos
 | IfExp t a b pos=>exact h3 t a b pos
 | Compare l cA es pos=>exact h4 l cA es pos
 | _=>exact h5 _ fun env fP=>aeI (pU _ fP)
theorem FM(CO:oV B)(ih:∀ e,aY B T k n e)(iht:∀ e,fh B T k n e)(ih1:∀ e,aY B T k (n+1) e):∀ e,fh B T k (n+1) e:=fun e=>by
 refine K3 (P:=fun e=>fh B T k (n+1) e) (fun op x pos=>?_) (fun op es pos=>?_) (fun t a b pos=>?_) (fun l cA es pos=>yt CO ih) fun p h=>ul (ih1 _) h
 ·refine K2 (P:=fun op=>fh B T k (n+1) (.UnaryOp op x pos)) ?_ fun h=>ul (ih1 _) fun env fP=>h x pos env fP
  ·skip
   intro A envs env P μ O s ρ Q E S I r H;refine isTrue_not (iht x S I r ?_);have H':Aft B envs P μ [] s.heap (tst ((ev T n env.scope x ρ O).bind fun a=>(ah (a.1.truth.map fun b=>V.bool (!b))).bind fun v=>.ok (v,a.2))) (fun b Z s'=>Q b s') E:=H;induction hr:ev T n env.scope x ρ O using R.casesOn with
   | stuck=>rw[hr]at H';exact H'.elim
   | exc row=>rw[hr]at H';exact H'
   | ok a =>
    rw[hr,kQ]at H';change Aft B envs P μ [] s.heap (tst ((ah (a.1.truth.map fun b=>V.bool (!b))).bind fun v=>.ok (v,a.2))) (fun b Z s'=>Q b s') E at H';show Aft B envs P μ [] s.heap ((ah a.1.truth).bind fun b=>.ok (b,a.2)) (fun c Z s'=>Q (!c) s') E;induction ht:a.1.truth using aL with
    | none=>rw[ht]at H';exact H'.elim
    | some b=>rw[ht]at H';exact H'
 ·
  intro A envs env P μ O s ρ Q E S I r H;exact wpAny_isTrue_BoolOp (FK iht S I r H)
 ·
  intro A envs env P μ O s ρ Q E S I r H;have H':Aft B envs P μ [] s.heap (tst ((tst (ev T n env.scope t ρ O)).bind fun c=>match c.1 with
   | true=>ev T n env.scope a ρ c.2
   | false=>ev T n env.scope b ρ c.2)) (fun b Z s'=>Q b s') E:=H
  rw[kQ]at H';refine isTrue_IfExp (iht t S I r (H'.bind fun c aS aT s1 Z f1 I1 g1 H1=>?_));have r1:=r.go g1 f1 I.apart S.own S.cellsIn;induction c using iN with
  | true=>exact iht a S I1 r1 H1
  | false=>exact iht b S I1 r1 H1
noncomputable def tK(B:bw):Prop :=
 ∀ {A:bY} {envs:List YY} {P μ:List bQ} {O:U} {s:aO} {a b v:V} {u w:am} {Q:am->aO->Prop} {E:am->aO->Prop},A.handled=none->A.depth<=600->A.units<=6000->Inv B envs P μ O s->Rep B s.heap μ (μ++P) a u->Rep B s.heap μ (μ++P) b w ->
   bC a b O=some v->(∀ x s',Inv B envs P μ O s'->Go μ [] s.heap s'.heap->Rep B s'.heap μ (μ++P) v x->Q x s') ->
   ∃ T id,s.TypeIs u T/\acx (.type T) "__getitem__"=pure (some (.builtin id))/\wpAny (cr B.prog B.w) A (aa8 u w) Q E s
noncomputable def pW(B:bw):Prop :=
 ∀ {A:bY} {envs:List YY} {P μ:List bQ} {O:U} {s:aO} {a b c v:V} {i j:Option Int} {u x y:am} {sl:bQ} {Q:am->aO->Prop} {E:am->aO->Prop},A.handled=none->A.depth<=600->A.units<=6000->Inv B envs P μ O s->Rep B s.heap μ (μ++P) a u ->
   Rep B s.heap μ (μ++P) b x->Rep B s.heap μ (μ++P) c y->aI b=some i->aI c=some j->s.heap.get? sl=some { cls:=.type "slice",data:=.fields #[x,y,.none] } ->
   bg a i j=some v->(∀ x s',Inv B envs P μ O s'->Go μ [] s.heap s'.heap->Rep B s'.heap μ (μ++P) v x->Q x s') ->
   ∃ T id,s.TypeIs u T/\acx (.type T) "__getitem__"=pure (some (.builtin id))/\wpAny (cr B.prog B.w) A (aa8 u (.ref sl)) Q E s
theorem An{lo:Option Expr}(ih:∀ e,aY B T k n e){A:bY}(S:Sit k A envs env P)(I:Inv B envs P μ O s)(r:SR B env P μ ρ s.heap)
  (H:Aft B envs P μ [] s.heap (kL (fun e O=>ev T n env.scope e ρ O) lo O) (KV B P Q) E):wpAny (cr B.prog B.w) A (evalPart lo env) Q E s:=by
 induction lo using aL with
 | none=>exact ae (Aft.here (O:=O) (b:=V.none) H I _ zN)
 | some e=>exact ih e S I r H
theorem CM{lo hi:Option Expr}{pos:YZ}(SO:pW B)(ih:∀ e,aY B T k n e):aY B T k (n+1) (.Subscript o (.Slice lo hi none p) pos):=by
 intro A envs env P μ O s ρ Q E S I r H;have H':Aft B envs P μ [] s.heap ((ev T n env.scope o ρ O).bind fun a=>(kL (fun e O=>ev T n env.scope e ρ O) lo a.2).bind fun b =>
    (kL (fun e O=>ev T n env.scope e ρ O) hi b.2).bind fun c=>(ah (aI b.1)).bind fun i=>(ah (aI c.1)).bind fun j=>(ah (bg a.1 i j)).bind fun v=>.ok (v,c.2)) (KV B P Q) E:=H
 refine Subscript_ (ih o S I r (H'.bind fun a aS aT s1 Z f1 I1 g1 H1 u1 R1=>?_));generalize(r.go g1 f1 I.apart S.own S.cellsIn)=r1;refine wpAny_Slice (An ih S I1 r1 (H1.bind fun b ky eY s2 Z f2 I2 g2 H2 u2 R2=>?_));generalize(r1.go g2 f2 I1.apart S.own S.cellsIn)=r2;refine An ih S I2 r2 (H2.bind fun c HU um s3 Z f3 I3 g3 H3 u3 R3=>?_);obtain⟨i,CC,H3⟩:=H3.opt;obtain⟨j,K4,H3⟩:=H3.opt;obtain⟨v,hv,H3⟩:=H3.opt;refine ae ?_;have gp:Go ((μ++aT++eY)++um) [] s3.heap (s3.heap.push { cls:=.type "slice",data:=.fields #[u2,u3,.none] }):=Go.push _ _ _ _;have I4:Inv B envs P ((μ++aT++eY)++um) HU { s3 with heap:=s3.heap.push { cls:=.type "slice",data:=.fields #[u2,u3,.none] } }:=I3.grow fun Z Z e=>ag _ e
 generalize(((R1.go g2 f2 nofun).go g3 f3 nofun).go0 gp)=Ra;generalize((R2.go g3 f3 nofun).go0 gp)=Rb;obtain⟨T',id,hT,hl,hg⟩:=SO (s:={ s3 with heap:=s3.heap.push { cls:=.type "slice",data:=.fields #[u2,u3,.none] } }) (sl:=s3.heap.objs.size) (E:=E) S.handled S.depth' S.units' I4 Ra Rb (R3.go0 gp) CC K4 (ct _ rfl) hv
  fun x s' I' g' R'=>H3.at0 I' (gp.trans g') x R'
 exact tail_any hT hl hg rfl
theorem FN{i:Expr}{pos:YZ}(IO:tK B)(ih:∀ e,aY B T k n e)(hs:∀ o' i',subscripted i false o' i'=afe [o',i'] (aa8 o' i'))
  (he:∀ sc ρ O,ev T (n+1) sc (.Subscript o i pos) ρ O=(ev T n sc o ρ O).bind fun a=>(ev T n sc i ρ a.2).bind fun b=>(ah (bC a.1 b.1 b.2)).bind fun v=>.ok (v,b.2)):aY B T k (n+1) (.Subscript o i pos):=by
 intro A envs env P μ O s ρ Q E S I r H;rw[he]at H;refine Subscript_ (ih o S I r (H.bind fun a aS aT s1 Z f1 I1 g1 H1 u1 R1=>?_));generalize(r.go g1 f1 I.apart S.own S.cellsIn)=r1;refine ih i S I1 r1 (H1.bind fun b ky eY s2 Z f2 I2 g2 H2 u2 R2=>?_);obtain⟨v,hv,H2⟩:=H2.opt;obtain⟨T',id,hT,hl,hg⟩:=IO (E:=E) S.handled S.depth' S.units' I2 (R1.go g2 f2 nofun) R2 hv fun x s' I' g' R'=>H2.at0 I' g' x R'
 exact tail_any hT hl hg (hs _ _)
theorem yu{i:Expr}(h:ju i=none):∀ o' i',subscripted i false o' i'=afe [o',i'] (aa8 o' i'):=by
 induction i using ge with
 | Slice lo hi st p =>
  induction st using aL with
  | none=>exact oQ h
  | some st=>exact fun o' i'=>aeI (afe [o',i'] (aa8 o' i'))
 | _=>exact fun o' i'=>aeI (afe [o',i'] (aa8 o' i'))
theorem Ao{i:Expr}{x:Option Expr×Option Expr}(h:ju i=some x):∃ p,i= .Slice x.1 x.2 none p:=by
 induction i using ge with
 | Slice lo hi st p =>
  induction st using aL with
  | none=>rw[<- si h];exact⟨p,rfl⟩
  | some st=>exact nn h
 | _=>exact nn h
theorem un{i:Expr}{pos:YZ}(IO:tK B)(SO:pW B)(ih:∀ e,aY B T k n e):aY B T k (n+1) (.Subscript o i pos):=by
 induction h:ju i using aL with
 | none =>
  refine FN IO ih (yu h) fun Z Z Z=>?_;show(match ju i with|some x=>_|none=>_)=_;rw[h]
 | some x =>
  obtain⟨p,rfl⟩:=Ao h;exact CM SO ih
theorem yv(TO:dn B k T){sc:gK}{pos:YZ} : ev T n sc (.Call (.Name (ac "super") p) [] [] pos) ρ O= .stuck:=by
 induction n using ZU with
 | zero=>rfl
 | succ n =>
  show(if(bd sc ρ (ac "super")&&bW [])=true then match T.fns.lookup (ac "super")with
    | some F=>(a9 (fun e O=>ev T n sc e ρ O) [] O).bind fun a=>F a.1 a.2
    | none=>if eS (ac "super")=true then(a9 (fun e O=>ev T n sc e ρ O) [] O).bind fun a=>(ah (gI (ac "super") a.1 a.2)).bind fun v=>.ok (v,a.2)else .stuck
    else .stuck)=_
  rw[TO.nosup];have:eS (ac "super")=false:=by decide +kernel
  by_cases c:(bd sc ρ (ac "super")&&bW [])=true
  ·rw[if_pos c,this];rfl
  ·rw[if_neg c]
theorem mK{A:bY}{HV:fw}{m:Xm am}(ho:∀ p q,o≠.Call (.Name (ac "super") p) [] [] q)(h:wpAny M A m Q E s):wpAny M A (Z0 o HV env m) Q E s:=by
 induction o using ge with
 | Call f args pN q =>
  induction f using ge with
  | Name id p =>
   rcases args with _|_
   ·rcases pN with _|_
    ·generalize(bne_iff_ne.mpr fun e=>ho p q (by rw[e]):(id != ac "super")=true)=UJ;exact Ac (Bool.or_eq_true_iff.mpr (.inl (Bool.or_eq_true_iff.mpr (.inl (Bool.or_eq_true_iff.mpr (.inl UJ)))))) h
    ·exact h
   ·exact h
  | _=>exact h
 | _=>exact h
theorem uo(TO:dn B k T)(ih:∀ e,aY B T k n e){HV:fw}{A:bY}(S:Sit k A envs env P)(I:Inv B envs P μ O s)(r:SR B env P μ ρ s.heap)
  (H:Aft B envs P μ [] s.heap (ev T n env.scope o ρ O) (KV B P Q) E):wpAny (cr B.prog B.w) A (Z0 o HV env (eval o env)) Q E s:=by
 refine mK (fun p q e=>?_) (ih o S I r H);rw[e,yv TO]at H;exact H
theorem HW{Y:List bQ}{h:ir}{F:Nat->R (β×U)}{K:β->List bQ->aO->Prop}(H:Aft B envs P μ Y h (match ahu v with|some k=>F k|none=>.stuck) K E):∃ k,v= .sett k/\Aft B envs P μ Y h (F k) K E:=by
 induction v using V.casesOn with
 | sett k=>exact⟨k,rfl,H⟩
 | _=>exact H.elim
theorem Ap{a:V}(h:∀ c,a≠.sett c):ahu a=none:=by
 induction a using V.casesOn with
 | sett c=>exact(h c rfl).elim
 | _=>rfl
structure K5(B:bw)(h:ir)(μ X:List bQ)(n:Nat)(a d r:bQ)(hh:Int)(t:BY):Prop where
 na:a∉X
 nd:d∉X
 ob:h.get? a=some (Y2 B.cS d)
 dct:h.get? d=some (YM [⟨hh,.str (ac "rows") t,.ref r⟩] 1)
 at_:μ[n]?=some r
theorem Aq{h:ir}(r:Rep B h μ X (.sett n) u):∃ a d q hh t,u= .ref a/\K5 B h μ X n a d q hh t:=by
 refine ab fun Z gG=>?_;obtain⟨a,d,q,hh,t,e,na,nd,h1,h2,e'⟩:=r;refine gG ?_;clear gG
 exact⟨a,d,q,hh,t,e,na,nd,h1,h2,e'⟩
theorem uq{pos:YZ}(TO:dn B k T)(ih:∀ e,aY B T k n e):aY B T k (n+1) (.Attribute o x pos):=by
 intro A envs env P μ O s ρ Q E S I r H;have H':Aft B envs P μ [] s.heap ((ev T n env.scope o ρ O).bind fun a=>match ahu a.1 with
   | some k=>if x=ac "rows" then .ok (.ref k,a.2)else .stuck
   | none=>.stuck) (KV B P Q) E:=H
 show wpAny _ _ (do
  let o'<-Z0 o x env (eval o env)
  standAt pos.atName
  let r<-holding [o'] (adk o' x true)
  letTemporaryGo o o' r
  pure r) Q E s
 refine aa (uo TO ih S I r (H'.bind fun a aS aT s1 Z f1 I1 g1 H1 u1 R1=>?_));refine aa (Ye (aa (eG ?_)));obtain⟨c,rfl,H1⟩:=HW (F:=fun k=>if x=ac "rows" then R.ok (V.ref k,aS)else R.stuck) H1;obtain rfl:=((Aft.ite H1)).1;generalize((Aft.ite H1)).2=H1;obtain⟨a,d,q,hh,t,rfl,w⟩:=Aq R1;refine TO.rows I1.stays w.ob w.dct fun tk=>aa (aeq (ae ?_))
 exact H1.at0 (s:={ s1 with toks:=tk }) (I1.grow (tk:=tk) (h':=s1.heap) fun Z Z e=>e) (Go.refl _ _ _) _ ⟨_,rfl,w.at_⟩
theorem aR{env:YY} : ∀ {es:List Expr},noStar es=true->j8 es env=es.map fun e=>(false,eval e env)
 | [],_=>rfl
 | e::es,h=>by
  induction e using ge with
  | Starred q p=>cases h
  | _=>exact congrArg _ (aR (es:=es) h)
theorem et{pos:YZ} : ∀ {es:List Expr},(Yx pos (es.map fun e=>(false,eval e env))).any (·.1)=false
 | []=>rfl
 | _::es=>by
  simp[Yx]
theorem gX{f:am}{pos:YZ}{A:bY}{Q:Args->aO->Prop}(hn:noStar es=true)
  (h:wpAny M A (acJ (Yx pos (j8 es env))) (fun us s'=>Q ⟨us,[]⟩ s') E s):wpAny M A (ago f true (Yx pos (j8 es env)) []) Q E s:=by
 rw[aR hn]at h ⊢;induction es using cz with
 | nil =>
  unfold ago;show wpAny M A (acJ []>>=_) Q E s;refine aa (Yj h (fun us s' h'=>?_) fun Z Z x=>x);refine aa (ae (eG ?_));exact aa (ae (aa (ae (ae h'))))
 | cons e es=>exact evalArgs_plain h
theorem cj{A:bY}{f:am}{pos:YZ}{first:List am}{args:List (Bool×Xm am)}{κ:ac4}(K6:args.any (·.1)=false)(mL:κ= .frame\/κ= .machine)
  (h:wpAny M A (ago f true args []) (fun a s₁=>(∀ Q':ac4->aO->Prop,Q' κ s₁->wpAny M A (ab8 f) Q' E s₁)/\wpAny M A (call f (first++a.pos) a.kw) Q E s₁) E s) :
  wpAny M A (callWith pos f first args []) Q E s:=by
 have hb:(args.any (·.1)||([]:List (Option fw×Xm am)).any (·.1.isNone))=false:=by rw[K6];rfl
 unfold callWith;refine aa (eG (Yj h (fun a s₁ aF=>aa (Ye ?_)) fun Z Z x=>x));generalize(args.any (·.1)||([]:List (Option fw×Xm am)).any (·.1.isNone))=b at hb;subst hb;refine aa (aF.1 _ ?_);have tail:∀ {t:Xm am},wpAny M A t Q E s₁->wpAny M A t (fun r iU=>wpAny M A (holding [r] point>>=fun Z=>pure r) Q E iU) E s₁ :=
  fun ht=>Yj ht (fun r iU hr=>aa (eG (wpAny_point (ae hr)))) fun Z Z x=>x
 rcases mL with rfl|rfl
 ·by_cases hl:args.length+2*([]:List (Option fw×Xm am)).length>30
  ·exact Ac hl (aa (tail aF.2))
  ·exact EM hl (aa (tail (by unfold callMarked;exact wpAny_keep aF.2)))
 ·exact aa (tail aF.2)
noncomputable def CN(B:bw):Prop :=
 ∀ {g:fw} {u:am} {A:bY} {envs:List YY} {P μ:List bQ} {O:U} {s:aO} {vs:List V} {us:List am} {v:V} {Q:am->aO->Prop} {E:am->aO->Prop},blts.lookup g=some u->A.handled=none->A.depth<=600->A.units<=6000->Inv B envs P μ O s->Reps B s.heap μ (μ++P) vs us ->
   gI g vs O=some v->(∀ x s',Inv B envs P μ O s'->Go μ [] s.heap s'.heap->Rep B s'.heap μ (μ++P) v x->Q x s')->wpAny (cr B.prog B.w) A (call u us []) Q E s
noncomputable def EX:am->Bool
 | .ref _=>true
 | _=>false
theorem yw(h:blts.lookup g=some u):∀ a,u≠.ref a:=by
 have k:∀ l:List (fw×am),l.any (fun p=>EX p.2)=false->l.lookup g=some u->EX u=false:=by
  intro l;induction l with
  | nil=>exact fun Z h=>nn h
  | cons p l ih =>
   intro ha h;generalize((Bool.or_eq_false_iff.mp ha)).1=h1;generalize((Bool.or_eq_false_iff.mp ha)).2=h2;rw[mF]at h;by_cases q:g=p.1
   ·rw[if_pos q]at h;rw[<- si h];exact h1
   ·rw[if_neg q]at h;exact ih h2 h
 intro a e;have:=k blts (by decide +kernel) h;rw[e]at this;exact nomatch this
theorem wk{A:bY}{Q:ac4->aO->Prop}(h:∀ a,u≠.ref a)(q:Q .machine s):wpAny M A (ab8 u) Q E s:=by
 cases u with
 | ref a=>exact(h a rfl).elim
 | _=>exact ae q
theorem wm{pos:YZ}(BO:aP B)(TO:dn B k T)(FO:CN B)(ih:∀ e,aY B T k n e):aY B T k (n+1) (.Call (.Name g p) args [] pos):=by
 intro A envs env P μ O s ρ Q E S I r H;have H':Aft B envs P μ [] s.heap (if(bd env.scope ρ g&&bW args)=true then match T.fns.lookup g with
    | some F=>(a9 (fun e O=>ev T n env.scope e ρ O) args O).bind fun a=>F a.1 a.2
    | none=>if eS g=true then(a9 (fun e O=>ev T n env.scope e ρ O) args O).bind fun a=>(ah (gI g a.1 a.2)).bind fun v=>.ok (v,a.2)else .stuck
    else .stuck) (KV B P Q) E:=H
 obtain⟨hc,H'⟩:=Aft.ite H';obtain⟨hg,hc⟩:=bM hc;obtain⟨hg,hd⟩:=bM hg;obtain⟨_,hg⟩:=bM hg;obtain⟨hs,_⟩:=bM hc;have hl:env.scope.names.lookup g=some .globalImplicit:=by simpa using hg
 have hd:(g==ac "__debug__")=false:=by simpa using hd
 show wpAny _ _ (do callWith pos (<- eval (.Name g p) env) [] (Yx pos (j8 args env)) []) Q E s;have hp:(Yx pos (j8 args env)).any (·.1)=false:=by rw[aR hs];exact et
 induction hF:T.fns.lookup g using aL with
 | some F =>
  rw[hF]at H';obtain⟨a,hm,⟨κ,mL,hk⟩,hF⟩:=TO.fns g F hF;refine aa (fy BO S.kind S.glob I hl hd hm ?_);refine cj hp mL (gX hs (fz ih S I r (Aft.bind H' fun vs aS aT s1 Z f1 I1 g1 H1 us R1=>?_)));exact⟨fun Q' q=>hk I1.stays q,hF S.frames S.handled S.depth S.units I1 R1 H1⟩
 | none =>
  rw[hF]at H';obtain⟨tj,H'⟩:=Aft.ite H';obtain⟨u,hb,e1,e2⟩:=TO.blt g tj hF;refine aa (iG BO S.kind S.glob S.blt I hl hd e1 e2 ?_);refine cj hp (.inr rfl) (gX hs (fz ih S I r (Aft.bind H' fun vs aS aT s1 Z f1 I1 g1 H1 us R1=>?_)));obtain⟨v,hv,H1⟩:=H1.opt;exact⟨fun Q' q=>wk (yw hb) q,FO hb S.handled S.depth' S.units' I1 R1 hv fun x s' I' g' R'=>H1.at0 I' g' x R'⟩
noncomputable def yx(B:bw):Prop :=
 ∀ {envs:List YY} {P μ:List bQ} {O:U} {s:aO} {a:V} {m:fw} {u:am} {T:bJ},Inv B envs P μ O s->Rep B s.heap μ (μ++P) a u->jD T a m O=true->(∀ c,a≠.sett c) ->
  ∃ (T id:String),PlainAttrs T/\Slot T m id/\typeOf (.builtin id)=pure (.type "method_descriptor")/\s.TypeIs u T/\(∀ a,u= .ref a->∃ ob,s.heap.get? a=some ob/\ob.dict=none) /\
   ∀ {A:bY} {bV:List bQ} {ar:U} {s':aO} {vs:List V} {us:List am} {v:V} {Q:am->aO->Prop} {E:am->aO->Prop},A.handled=none->A.depth<=600->A.units<=6000->Inv B envs P bV ar s'->Rep B s'.heap bV (bV++P) a u->Reps B s'.heap bV (bV++P) vs us ->
    cV a m vs ar=some v->(∀ x wn,Inv B envs P bV ar wn->Go bV [] s'.heap wn.heap->Rep B wn.heap bV (bV++P) v x->Q x wn)->wpAny (cr B.prog B.w) A (call (.builtin id) (u::us) []) Q E s'
theorem HX{pos:YZ}(hs:noStar args=true)(ck:args.length<30):adq (args.length+([]:List adn).length) (Yx pos (j8 args env)) []=true:=by
 rw[aR hs];have h1:(Yx pos (args.map fun e=>(false,eval e env))).all (fun x=>!x.1)=true:=by simp[Yx]
 show(_&&true&&decide (args.length+0+0<30))=true;rw[h1,decide_eq_true (show args.length+0+0<30 from ck)];rfl
theorem K7{few:Bool}{pos:YZ}(h:(p.endLine==pos.line)=true):ZY few o env p pos=pure pos:=by
 unfold ZY;rw[h,Bool.or_true];rfl
theorem Ar{m:fw}{pos:YZ}{A:bY}{a:V}{f:am}{κ:ac4}(ih:∀ e,aY B T k n e)(hs:noStar args=true)(ji:(p.endLine==pos.line)=true)(S:Sit k A envs env P)(I:Inv B envs P μ O s)(r:SR B env P μ ρ s.heap)(Ra:Rep B s.heap μ (μ++P) a u)
  (H:Aft B envs P μ [] s.heap ((a9 (fun e O=>ev T n env.scope e ρ O) args O).bind fun b=>jg T m a b.1 b.2) (KV B P Q) E) (mL:κ= .frame\/κ= .machine) (hk:∀ {s':aO} {Q':ac4->aO->Prop},B.H.StaysIn s'.heap->Q' κ s'->wpAny (cr B.prog B.w) A (ab8 f) Q' E s')
  (oW:∀ {μ:List bQ} {O:U} {s:aO} {vs:List V} {us:List am},Inv B envs P μ O s->Rep B s.heap μ (μ++P) a u->Reps B s.heap μ (μ++P) vs us->Aft B envs P μ [] s.heap (jg T m a vs O) (KV B P Q) E->wpAny (cr B.prog B.w) A (call f (u::us) []) Q E s) :
  wpAny (cr B.prog B.w) A (do
    let HY<-ZY true o env p pos
    callWith HY f [u] (Yx pos (j8 args env)) []) Q E s:=by
 refine aa (aaB (K7 ji) ?_);refine cj (by rw[aR hs];exact et) mL (gX hs (fz ih S I r (Aft.bind H fun vs ky eY s2 hr f2 I2 g2 H2 us R2=>?_)));exact⟨fun Q' q=>hk I2.stays q,oW I2 (Ra.go g2 f2 nofun) R2 H2⟩
theorem wo{m:fw}{pos:YZ}(TO:dn B k T)(MO:yx B)(ih:∀ e,aY B T k n e):aY B T k (n+1) (.Call (.Attribute o m p) args [] pos):=by
 intro A envs env P μ O s ρ Q E S I r H;have H':Aft B envs P μ [] s.heap (if(bW args&&(p.endLine==pos.line))=true then
    (ev T n env.scope o ρ O).bind fun a=>if jD T a.1 m a.2=true then(a9 (fun e O=>ev T n env.scope e ρ O) args a.2).bind fun b=>jg T m a.1 b.1 b.2
    else .stuck
    else .stuck) (KV B P Q) E:=H
 refine ab fun Z gG=>?_;generalize((Aft.ite H')).1=hc;generalize((Aft.ite H')).2=H';refine gG ?_;clear gG
 refine ab fun Z gG=>?_;obtain⟨hc,ji⟩:=bM hc;refine gG ?_;clear gG
 refine ab fun Z gG=>?_;obtain⟨hs,ck⟩:=bM hc;refine gG ?_;clear gG
 show wpAny _ _ (do
  let ov<-Z0 o m env (eval o env)
  standAt p.atName
  methodCall o m p pos env ov (args.length+([]:List adn).length) (Yx pos (j8 args env)) []) Q E s
 refine aa (uo TO ih S I r (H'.bind fun a aS aT s1 Z f1 I1 g1 H1 u1 R1=>aa (Ye ?_)));generalize(r.go g1 f1 I.apart S.own S.cellsIn)=r1;refine ab fun Z gG=>?_;obtain⟨tj,H1⟩:=Aft.ite H1;refine gG ?_;clear gG
 unfold methodCall;rw[HX hs (of_decide_eq_true ck)];refine aa (eG ?_);by_cases hset:∃ c,a= .sett c
 ·refine ab fun Z gG=>?_;obtain⟨c,rfl⟩:=hset;refine gG ?_;clear gG
  refine ab fun Z gG=>?_;obtain⟨F,hF⟩:=Option.isSome_iff_exists.mp (show(T.meths.lookup m).isSome=true from tj);refine gG ?_;clear gG
  refine ab fun Z gG=>?_;obtain⟨f,⟨κ,mL,hk⟩,UK,hm⟩:=TO.meths m F hF;refine gG ?_;clear gG
  refine ab fun Z gG=>?_;obtain⟨a,d,q,hh,t,rfl,w⟩:=Aq R1;refine gG ?_;clear gG
  show wpAny _ _ (aaW (.ref a) m _) _ _ _;refine hm I1.stays w.ob w.dct (Ar ih hs ji S I1 r1 R1 H1 mL (fun h q=>hk h q) fun I2 Ra R2 H2=>UK S.frames S.handled S.depth S.units I2 (vs:=_::_) (us:=_::_) ⟨_,_,rfl,Ra,R2⟩ ?_);unfold jg at H2;rw[hF]at H2;exact H2
 ·generalize(fun c e=>hset ⟨c,e⟩:∀ c,a≠.sett c)=fZ;refine ab fun Z gG=>?_;obtain⟨Tn,id,pa,slot,HZ,hT,hd,oW⟩:=MO I1 R1 tj fZ;refine gG ?_;clear gG
  refine aff hT pa slot HZ hd (Ar ih hs ji S I1 r1 R1 H1 (.inr rfl) (fun Z q=>ae q) fun I2 Ra R2 H2=>?_);unfold jg at H2;rw[Ap fZ]at H2;refine ab fun Z gG=>?_;obtain⟨v,hv,H2'⟩:=H2.opt;refine gG ?_;clear gG
  exact oW S.handled S.depth' S.units' I2 Ra R2 hv fun x s' I' g' R'=>H2'.at0 I' g' x R'
section
variable{A:bY}
theorem oX{t:bQ}{x:am}(hit:s.heap.IsTupleIter it t i)(ht:s.heap.IsTuple t items)(hx:items[i]?=some x)
  (hQ:∀ h',h'.IsTupleIter it t (i+1)->fq it s.heap h'->Q x { s with heap:=h' }):wpAny (cr prog w) A (YA (.ref it)) Q E s:=by
 obtain⟨o,ho,hc,hd⟩:=id hit;obtain⟨ol,NM,_,nl,NN⟩:=ht;unfold YA;refine aa (Yp (name:=ac "__next__") hit.typeIs Y4
  (Ys Y4 hit.typeIs abS ?_ (abM _)))
 show wpAny _ _ (aex (.ref it) 0>>=_) _ _ s;refine aa (Yy ho hd (x:=.ref t) rfl ?_);show wpAny _ _ (if(gH t==Yr)=true then _ else _) _ _ s;rw[if_neg (show¬((gH t==Yr)=true)from jG)];show wpAny _ _ (aex (.ref it) 1>>=_) _ _ s;refine aa (Yy ho hd (x:=.int i 0) rfl ?_);show wpAny _ _ (Za (.ref t)>>=_) _ _ s;refine aa (aag NM NN ?_);simp only[Z8,hx];refine aa (ZJ ho hd (by simp) (ae ⟨x,rfl,ae (hQ _ ?_ (j7 ..))⟩));exact⟨_,Yv _ ho (aad (Zo hd _)),(aee ..).trans hc,by
  rw[Zo hd];simp[rawInt]⟩
theorem pX{t:bQ}(hh:A.handled=none)(hit:s.heap.IsTupleIter it t i)(ht:s.heap.IsTuple t items)(hx:items[i]?=none)
  (hE:∀ h' e,acB it s.heap h'->(∃ o,h'.get? e=some o/\o.cls= .type "StopIteration")->E (.ref e) { s with heap:=h' }):wpAny (cr prog w) A (YA (.ref it)) Q E s:=by
 obtain⟨o,ho,hc,hd⟩:=id hit;obtain⟨ol,NM,_,nl,NN⟩:=ht;unfold YA;refine aa (Yp (name:=ac "__next__") hit.typeIs Y4
  (Ys Y4 hit.typeIs abS ?_ (abM _)))
 show wpAny _ _ (aex (.ref it) 0>>=_) _ _ s;refine aa (Yy ho hd (x:=.ref t) rfl ?_);show wpAny _ _ (if(gH t==Yr)=true then _ else _) _ _ s;rw[if_neg (show¬((gH t==Yr)=true)from jG)];show wpAny _ _ (aex (.ref it) 1>>=_) _ _ s;refine aa (Yy ho hd (x:=.int i 0) rfl ?_);show wpAny _ _ (Za (.ref t)>>=_) _ _ s;refine aa (aag NM NN ?_);simp only[Z8,hx];refine aa (aar (aa (ZJ ho hd (by simp) ?_)));show wpAny _ _ (newExc (.type "StopIteration") []>>=_) _ _ _;refine aa ?_;delta newExc newTuple;refine aa (Yg ?_ (by size_fits));refine aa (m:=ab9 _ _) (aaB (a:=Yr) (by first|rfl|(simp only[ab9];rfl)) ?_);refine Yg ?_ (by size_fits);delta raiseNew;dsimp only
 refine aa (agw ?_);first|rw[show A.in1.handled=none from hh]|rw[hh]
 refine aa (ae (aep ?_));exact hE _ _ (((j7 ..).extBut.push _).push _) ⟨_,ct _ rfl,rfl⟩
end
theorem lQ{A:bY}(hh:A.handled=none)(it l:bQ)(hne:l≠it)(items:Array am) :
  adX prog w A it [it,l] items.size (fun i v=>items[i]?=some v) (fun i h=>h.IsTupleIter it l i/\h.IsTuple l items) where
 live:=fun _ _ st=>let⟨o,ho,_⟩:=st.1;⟨o,ho⟩
 frame:=fun _ _ _ st hk=>⟨st.1.at fun o e=>hk it (by simp) o e,st.2.at fun o e=>hk l (by simp) o e⟩
 item:=fun i s Q E hi st hQ=>by
  refine oX st.1 st.2 (x:=items[i]) (by simp[hi]) fun h' pY cC=>?_;exact hQ _ h' s.toks (by simp[hi]) ⟨pY,st.2.extBut cC.extBut hne⟩ cC
 done:=fun s Q E st hE=>pX hh st.1 st.2 (by simp) hE
structure Turns(prog:aci)(w:aaZ)(A:bY)(target:Expr)(I:bQ)(fp wr:List bQ)(n:Nat)(P:Nat->am->ir->ir->Prop)(St:Nat->ir->Prop):Prop where
 sub:∀ b∈wr,b∈fp
 frame:∀ i h h',St i h->(∀ b∈fp,∀ o,h.get? b=some o->h'.get? b=some o)->St i h'
 live:∀ i h,St i h->∀ b∈fp,∃ o,h.get? b=some o
 item:∀ i (s:aO) (Q:am->aO->Prop) (E:am->aO->Prop),i<n->St i s.heap ->
  (∀ v h' tk,P i v s.heap h'->St (i+1) h'->(∀ b o,b∉wr->s.heap.get? b=some o->h'.get? b=some o)->Q v { s with heap:=h',toks:=tk }) ->
  wpAny (cr prog w) A (Z4 (.ref I)) (fun r s₁=>∃ v,r=some v/\wpAny (cr prog w) A (Zb target (.ref I) v) (fun _ iU=>Q v iU) E s₁) E s
 done:∀ (s:aO) (Q:Option am->aO->Prop) (E:am->aO->Prop),St n s.heap ->
  (∀ h' tk,(∀ b o,b∉wr->s.heap.get? b=some o->h'.get? b=some o)->Q none { s with heap:=h',toks:=tk })->wpAny (cr prog w) A (Z4 (.ref I)) Q E s
 self:∀ i (s:aO) (Q:am->aO->Prop) (E:am->aO->Prop),St i s.heap->Q (.ref I) s->wpAny (cr prog w) A (aas (.ref I)) Q E s
theorem Turns.ofWalks{A:bY}{P:Nat->am->Prop}(W:Walks prog w A I fp wr n P St)
  (NO:∀ i h,St i h->∀ b∈fp,∃ o,h.get? b=some o)
  (UL:∀ i v (s:aO) (Q:Unit->aO->Prop) (E:am->aO->Prop),St i s.heap->Q () s->wpAny (cr prog w) A (Zb target (.ref I) v) Q E s) :
  Turns prog w A target I fp wr n (fun i v _ _=>P i v) St where
 sub:=W.sub
 frame:=W.frame
 live:=NO
 item:=fun i s _ E hi st hQ=>W.item i s _ E hi st fun v h' tk hP oY hk=>⟨v,rfl,UL (i+1) v _ _ E oY (hQ v h' tk hP oY hk)⟩
 done:=W.done
 self:=W.self
theorem nO{A:bY}{v:am}{Q:Unit->aO->Prop}{o:Obj}{T:String}{vs:Array am}(ht:cM t=true)
  (ho:s.heap.get? I=some o) (hc:o.cls= .type T) (hd:o.data= .fields vs)
  (hT:(["enumerate","zip","dict_itemiterator","dict_reverseitemiterator","odict_iterator","itertools.zip_longest","itertools.pairwise"].contains T)=false) (h:Q () s):wpAny (cr prog w) A (Zb t (.ref I) v) Q E s:=by
 induction t using ge with
 | Name x p=>exact ae h
 | Tuple es k p =>
  cases v with
  | ref a =>
   unfold Zb;refine aa (abJ ho ?_);rw[hc,hd];show wpAny _ A (if(["enumerate","zip","dict_itemiterator","dict_reverseitemiterator","odict_iterator","itertools.zip_longest","itertools.pairwise"].contains T&&vs[0]?==some (rawInt a))=true then _ else _) Q E s;rw[hT,aeR,if_neg jG];exact ae h
  | _=>exact ae h
 | _=>cases ht
theorem As{A:bY}(ht:cM t=true)(hh:A.handled=none)(I ax:bQ)(hne:ax≠I)(items:Array am) :
  Turns prog w A t I [I,ax] [I] items.size (fun i v _ _=>items[i]?=some v) (fun i h=>h.IsListIter I ax i/\h.IsList ax items) :=
 .ofWalks (Walks.list hh I ax hne items) (fun i h st b hb=>by
  rcases cn hb with rfl|hb
  ·obtain⟨o,ho,_⟩:=st.1;exact⟨o,ho⟩
  ·rw[a8 hb];obtain⟨o,ho,_⟩:=st.2;exact⟨o,ho⟩)
  fun i v s Q E st hQ=>by
   obtain⟨o,ho,hc,hd⟩:=st.1;exact nO ht ho hc hd (by decide +kernel) hQ
theorem yy{A:bY}(ht:cM t=true)(hh:A.handled=none)(I ax:bQ)(hne:ax≠I)(items:Array am) :
  Turns prog w A t I [I,ax] [I] items.size (fun i v _ _=>items[i]?=some v) (fun i h=>h.IsTupleIter I ax i/\h.IsTuple ax items) :=
 .ofWalks (Walks.tuple hh I ax hne items) (fun i h st b hb=>by
  rcases cn hb with rfl|hb
  ·obtain⟨o,ho,_⟩:=st.1;exact⟨o,ho⟩
  ·rw[a8 hb];obtain⟨o,ho,_⟩:=st.2;exact⟨o,ho⟩)
  fun i v s Q E st hQ=>by
   obtain⟨o,ho,hc,hd⟩:=st.1;exact nO ht ho hc hd (by decide +kernel) hQ
theorem CP{A:bY}(ht:cM t=true)(hh:A.handled=none)(I:bQ)(x:fw)(u:BY) :
  Turns prog w A t I [I] [I] x.cps.size (fun i v _ _=>SignAt x i v) (fun i h=>h.IsStrIter I (aet x) x u i):=by
 have key:∀ ty,(["enumerate","zip","dict_itemiterator","dict_reverseitemiterator","odict_iterator","itertools.zip_longest","itertools.pairwise"].contains ty)=false->Walks prog w A I [I] [I] x.cps.size (SignAt x) (fun i h=>h.IsStrIter I ty x u i) ->
   Turns prog w A t I [I] [I] x.cps.size (fun i v _ _=>SignAt x i v) (fun i h=>h.IsStrIter I ty x u i):=fun ty HZ W =>
  .ofWalks W (fun i h st b hb=>by rw[a8 hb];obtain⟨o,ho,_⟩:=st;exact⟨o,ho⟩) fun i v s Q E st hQ=>by
   obtain⟨o,ho,hc,hd⟩:=st;exact nO ht ho hc hd HZ hQ
 unfold aet;split
 ·exact key _ (by decide +kernel) (Walks.strAscii hh I x u)
 ·exact key _ (by decide +kernel) (Walks.strWide hh I x u)
theorem yz{A:bY}(ht:cM t=true)(hh:A.handled=none)(I:bQ)(a c:Int)(n:Nat) :
  Turns prog w A t I [I] [I] n (fun i v _ _=>∃ t,v= .int (a+i*c) t) (fun i h=>abc h I (a+(i:Nat)*c) ((n:Int)-(i:Nat)) c) :=
 .ofWalks (Walks.range hh I a c n) (fun i h st b hb=>by rw[a8 hb];exact⟨_,st⟩) fun i v s Q E st hQ=>nO ht st rfl rfl (by decide +kernel) hQ
theorem Turns.bound'{A:bY}{P:Nat->am->ir->ir->Prop}(W:Turns prog w A target I fp wr n P St):Turns prog w A target I fp wr n (fun i v h h'=>i<n/\P i v h h') St where
 sub:=W.sub
 frame:=W.frame
 live:=W.live
 item:=fun i s Q E hi st hQ=>W.item i s Q E hi st fun v h' tk hP=>hQ v h' tk ⟨hi,hP⟩
 done:=W.done
 self:=W.self
section
set_option tactic.hygienic true
open PySem.AutoSeq1 (wpAny_loadPart')
theorem wp{A:bY}{cls:am}{Q:Bool->aO->Prop}(h:∀ b,Q b s):wpAny M A (aaJ cls) Q E s:=by
 unfold aaJ;exact aa (wpAny_stack_any fun st=>ae (h _))
theorem mM(l:bQ)(items:Array am)(n:Nat)(dct:Option bQ)(sl:Array (Option am)) :
  Meets (Builtin.«enumerate.__new__» ⟨[.type "enumerate",.ref l],[]⟩) (fun _ R s=>s.heap.get? l=some { cls:=.type "tuple",dict:=dct,data:=.seq items n,slots:=sl } /\
   R (.ok (.ret (.ref (s.heap.push { cls:=.type "tuple_iterator",data:=.fields #[.ref l,.int 0 0] }).objs.size)))
    { s with heap:=(s.heap.push { cls:=.type "tuple_iterator",data:=.fields #[.ref l,.int 0 0] }).push { cls:=.type "enumerate",data:=.fields #[.none,.bool false,.ref s.heap.objs.size,rawInt 0,.none,.none] } }) :=
 .of_wp fun prog w A R s h=>by
  obtain⟨hp,g,d,tk,os⟩:=s;obtain⟨hl,h⟩:=h
  generalize(sub_enumerate)=Nb;have hL:acl (abn ⟨hp,g,d,tk,os⟩) l items:=⟨_,hl,rfl,n,rfl⟩
  wp_walk using abO hl,wp
  intro b;cases b<;>wp_walk using abO hl,Zw hL<;>exact⟨_,rfl,h⟩
section
variable{A:bY}
theorem my{l:bQ}(hL:s.heap.IsTuple l items)
  (h:∀ h',IsEnum h' (s.heap.objs.size+1) s.heap.objs.size 0 .none->h'.IsTupleIter s.heap.objs.size l 0->h'.objs.size=s.heap.objs.size+2 ->
   (∀ b o,s.heap.get? b=some o->h'.get? b=some o)->Q (.ref (s.heap.objs.size+1)) { s with heap:=h' }) :
  wpAny (cr prog w) A (call (.type "enumerate") [.ref l]) Q E s:=by
 refine ab fun _ gG=>?_;obtain⟨⟨c,dct,dt,sl⟩,hl,hc,n,hd⟩:=hL;refine gG ?_;clear gG
 replace hc:c= .type "tuple":=hc;replace hd:dt= .seq items n:=hd;subst hc hd;refine callType_new PySem.F.called_enumerate (by decide) (PySem.F.typeCall_enumerate_1 _) (PySem.F.newCall_enumerate_1 _) (fun obj=>PySem.F.args_object_init_2 obj _) PySem.F.entry_enumerate_new
  (mM l items n dct sl) ⟨hl,?_⟩
 have hz:(s.heap.push { cls:=.type "tuple_iterator",data:=.fields #[.ref l,.int 0 0] }).objs.size=s.heap.objs.size+1:=Yw ..;show _/\_;rw[hz];have he:IsEnum ((s.heap.push { cls:=.type "tuple_iterator",data:=.fields #[.ref l,.int 0 0] }).push
   { cls:=.type "enumerate",data:=.fields #[.none,.bool false,.ref s.heap.objs.size,rawInt 0,.none,.none] }) (s.heap.objs.size+1) s.heap.objs.size 0 .none:=by
  have:=ct (s.heap.push { cls:=.type "tuple_iterator",data:=.fields #[.ref l,.int 0 0] })
   (o:={ cls:=.type "enumerate",data:=.fields #[.none,.bool false,.ref s.heap.objs.size,rawInt 0,.none,.none] }) rfl
  rw[hz]at this;exact this
 refine⟨⟨_,he,rfl⟩,h _ he ⟨_,ag _ (ct _ rfl),rfl,rfl⟩ (by rw[Yw,hz]) fun b o x=>ag _ (ag _ x)⟩
end
noncomputable abbrev K8(h:ir)(t1:String)(l1:bQ):ir:=h.push { cls:=.type t1,data:=.fields #[.ref l1,.int 0 0] }
noncomputable abbrev K9(h:ir)(t1 t2:String)(l1 l2:bQ):ir:=(K8 h t1 l1).push { cls:=.type t2,data:=.fields #[.ref l2,.int 0 0] }
noncomputable abbrev La(h:ir)(t1 t2:String)(l1 l2:bQ):ir:=(K9 h t1 t2 l1 l2).push { cls:=.type "tuple",data:=.seq #[.ref h.objs.size,.ref (K8 h t1 l1).objs.size] }
noncomputable abbrev FP(h:ir)(t1 t2:String)(l1 l2:bQ):ir:=(La h t1 t2 l1 l2).push { cls:=.type "tuple",data:=.seq #[.none,.none] }
noncomputable abbrev At(h:ir)(t1 t2:String)(l1 l2:bQ):ir:=(FP h t1 t2 l1 l2).push { cls:=.type "zip",data:=.fields #[.none,.bool false,.bool false,.ref (K9 h t1 t2 l1 l2).objs.size,.ref (La h t1 t2 l1 l2).objs.size] }
theorem wq(l1 l2:bQ)(xs ys:Array am) :
  Meets (Builtin.«zip.__new__» ⟨[.type "zip",.ref l1,.ref l2],[]⟩) (fun _ R s=>s.heap.IsTuple l1 xs/\s.heap.IsTuple l2 ys /\
   R (.ok (.ret (.ref (FP s.heap "tuple_iterator" "tuple_iterator" l1 l2).objs.size))) { s with heap:=At s.heap "tuple_iterator" "tuple_iterator" l1 l2 }) :=
 .of_wp fun prog w A R s h=>by
  obtain⟨hp,g,d,tk,os⟩:=s;obtain⟨ur,j6,h⟩:=h
  generalize(sub_zip)=Nb;generalize(ur:acl (abn ⟨hp,g,d,tk,os⟩) l1 xs)=NP;have NQ:acl (abn ⟨hp.push { cls:=.type "tuple_iterator",data:=.fields #[.ref l1,.int 0 0] },g,d,tk,os⟩) l2 ys:=af9 j6 _;wp_walk using Zw NP,Zw NQ
  exact⟨_,rfl,h⟩
theorem wu(l1 l2:bQ)(xs ys:Array am) :
  Meets (Builtin.«zip.__new__» ⟨[.type "zip",.ref l1,.ref l2],[]⟩) (fun _ R s=>s.heap.IsTuple l1 xs/\s.heap.IsList l2 ys /\
   R (.ok (.ret (.ref (FP s.heap "tuple_iterator" "list_iterator" l1 l2).objs.size))) { s with heap:=At s.heap "tuple_iterator" "list_iterator" l1 l2 }) :=
 .of_wp fun prog w A R s h=>by
  obtain⟨hp,g,d,tk,os⟩:=s;obtain⟨ur,j6,h⟩:=h
  generalize(sub_zip)=Nb;generalize(ur:acl (abn ⟨hp,g,d,tk,os⟩) l1 xs)=NP;have NQ:Heap.IsList (abn ⟨hp.push { cls:=.type "tuple_iterator",data:=.fields #[.ref l1,.int 0 0] },g,d,tk,os⟩) l2 ys:=agv j6 _;wp_walk using Zw NP,ae9 NQ
  exact⟨_,rfl,h⟩
section
variable{A:bY}
theorem pZ{t1 t2:String}{l1 l2:bQ}{Pre:ir->Prop}
  (hm:Meets (Builtin.«zip.__new__» ⟨[.type "zip",.ref l1,.ref l2],[]⟩) (fun _ R s=>Pre s.heap/\R (.ok (.ret (.ref (FP s.heap t1 t2 l1 l2).objs.size))) { s with heap:=At s.heap t1 t2 l1 l2 })) (hp:Pre s.heap)
  (h:∀ h',ace h' (s.heap.objs.size+4) (s.heap.objs.size+2) (s.heap.objs.size+3) .none->Z7 h' (s.heap.objs.size+2) (.ref s.heap.objs.size) (.ref (s.heap.objs.size+1)) ->
   Z7 h' (s.heap.objs.size+3) .none .none->h'.get? s.heap.objs.size=some { cls:=.type t1,data:=.fields #[.ref l1,.int 0 0] }->h'.get? (s.heap.objs.size+1)=some { cls:=.type t2,data:=.fields #[.ref l2,.int 0 0] } ->
   (∀ c o,s.heap.get? c=some o->h'.get? c=some o)->Q (.ref (s.heap.objs.size+4)) { s with heap:=h' }) :
  wpAny (cr prog w) A (call (.type "zip") [.ref l1,.ref l2]) Q E s:=by
 refine callType_new PySem.F.called_zip (by decide) (PySem.F.typeCall_zip_2 _ _) (PySem.F.newCall_zip_2 _ _) (fun obj=>PySem.F.args_object_init_3 obj _ _) PySem.F.entry_zip_new
  hm ⟨hp,?_⟩
 generalize(Yw .. : (K8 s.heap t1 l1).objs.size=s.heap.objs.size+1)=z1;have z2:(K9 s.heap t1 t2 l1 l2).objs.size=s.heap.objs.size+2:=by rw[Yw,z1]
 have z3:(La s.heap t1 t2 l1 l2).objs.size=s.heap.objs.size+3:=by rw[Yw,z2]
 have z4:(FP s.heap t1 t2 l1 l2).objs.size=s.heap.objs.size+4:=by rw[Yw,z3]
 have g5:(At s.heap t1 t2 l1 l2).get? (FP s.heap t1 t2 l1 l2).objs.size=some _:=ct _ rfl;have g4:(At s.heap t1 t2 l1 l2).get? (La s.heap t1 t2 l1 l2).objs.size=some _:=ag _ (ct _ rfl);have g3:(At s.heap t1 t2 l1 l2).get? (K9 s.heap t1 t2 l1 l2).objs.size=some _:=ag _ (ag _ (ct _ rfl));have g2:(At s.heap t1 t2 l1 l2).get? (K8 s.heap t1 l1).objs.size=some _:=ag _ (ag _ (ag _ (ct _ rfl)));have g1:(At s.heap t1 t2 l1 l2).get? s.heap.objs.size=some _:=ag _ (ag _ (ag _ (ag _ (ct _ rfl))));show _/\_;rw[z2,z3,z4]at g5;rw[z1,z2]at g3;rw[z3]at g4;rw[z1]at g2;rw[z4];exact⟨⟨_,g5,rfl⟩,h _ g5 g3 g4 g1 g2 fun c o x =>
  ag _ (ag _ (ag _ (ag _ (ag _ x))))⟩
structure yA(z TI TO i1 i2:bQ)(fp1 qX:List bQ):Prop where
 TIz:TI≠z
 TOz:TO≠z
 TITO:TI≠TO
 i1in:i1∈fp1
 i2in:i2∈qX
 z1:z∉fp1
 z2:z∉qX
 T1:TO∉fp1
 T2:TO∉qX
 I1:TI∉fp1
 I2:TI∉qX
 i12:i1∉qX
 i21:i2∉fp1
theorem dK{h:ir}(hs:fq a h h')(ha:a∉fp):∀ b∈fp,∀ o,h.get? b=some o->h'.get? b=some o:=fun b hb o e=>hs.extBut b o (fun q=>ha (q▸hb)) e
theorem Nc{z TI TO i1 i2:bQ}{fp1 qX:List bQ}{P1 P2:Nat->am->Prop}{yB oZ:Nat->ir->Prop}{a b:am}{Q:Fin->aO->Prop}(D1:adX prog w A i1 fp1 n1 P1 yB)(D2:adX prog w A i2 qX n2 P2 oZ)(D:yA z TI TO i1 i2 fp1 qX)
  (hz:ace s.heap z TI TO .none) (og:Z7 s.heap TI (.ref i1) (.ref i2)) (o0:Z7 s.heap TO a b) (h1:yB k s.heap) (h2:oZ k s.heap) (CQ:k<=n1) (yC:k<=n2)
  (hQ:k<n1->k<n2->∀ h' tk x y,P1 k x->P2 k y->ace h' z TI TO (rawInt s.heap.objs.size)->Z7 h' TO x y->yB (k+1) h'->oZ (k+1) h'->Z7 h' s.heap.objs.size x y ->
   (∀ c o,c≠z->c≠TO->c≠i1->c≠i2->s.heap.get? c=some o->h'.get? c=some o)->Q (.done (.ret (.ref s.heap.objs.size))) { s with heap:=h',toks:=tk })
  (hE:k=n1\/k=n2->∀ h' tk e,(∀ c o,c≠z->c≠TO->c≠i1->c≠i2->s.heap.get? c=some o->h'.get? c=some o)->(∃ o,h'.get? e=some o/\o.cls= .type "StopIteration")->E (.ref e) { s with heap:=h',toks:=tk }) :
  wpAny (cr prog w) A (Builtin.«zip.__next__» ⟨[.ref z],[]⟩) Q E s:=by
 have Lb:i1≠z:=fun q=>D.z1 (q▸D.i1in)
 have NR:i2≠z:=fun q=>D.z2 (q▸D.i2in)
 have UM:TO≠i1:=fun q=>D.T1 (q▸D.i1in)
 have UN:TO≠i2:=fun q=>D.T2 (q▸D.i2in)
 show wpAny _ _ (aex (.ref z) 2>>=_) _ _ _;refine aa (Yy hz rfl (x:=.bool false) rfl ?_);show wpAny _ _ (aex (.ref z) 3>>=_) _ _ _;refine aa (Yy hz rfl (x:=.ref TI) rfl ?_);refine aa (aag og rfl ?_);show wpAny _ _ (aaN (.ref z)>>=_) _ _ _;refine aa ?_;unfold aaN;refine aa (Yy hz rfl (x:=.none) rfl (ae ?_));simp only[if_true];refine aa (aar ?_);refine aa (Yy hz rfl (x:=.ref TO) rfl ?_);refine aa (Z3 hz (by simp) fun aF ut gy=>?_);replace ut:ace aF z TI TO .ellipsis:=ut;refine aa ?_;simp only[List.zipIdx_cons,List.zipIdx_nil,aaq,acU];refine aa (aa (adD ?_));show wpAny _ _ (YA (.ref i1)>>=_) _ _ _;have H6:yB k aF:=D1.frame _ _ _ h1 (dK gy D.z1);by_cases q1:k<n1
 ·refine aa (D1.item k _ _ _ q1 H6 fun x bi qY UO NT hs₂=>ae ?_);replace hs₂:fq i1 aF bi:=hs₂;have EY:Z7 bi TO a b:=hs₂.extBut _ _ UM (gy.extBut _ _ D.TOz o0);refine aa (aag EY rfl ?_);refine aa (aeo EY fun eJ yD d3=>?_);replace yD:Z7 eJ TO x b:=yD;replace d3:fq TO bi eJ:=d3;refine aa (aer (ae ?_));refine aa (aa (adD ?_));show wpAny _ _ (YA (.ref i2)>>=_) _ _ _;have H7:oZ k eJ:=D2.frame _ _ _ (D2.frame _ _ _ (D2.frame _ _ _ h2 (dK gy D.z2)) (dK hs₂ D.i12)) (dK d3 D.T2);by_cases q2:k<n2
  ·refine aa (D2.item k _ _ _ q2 H7 fun y jH UP UQ NU hs₄=>ae ?_);replace hs₄:fq i2 eJ jH:=hs₄;have EZ:Z7 jH TO x b:=hs₄.extBut _ _ UN yD;refine aa (aag EZ rfl ?_);refine aa (aeo EZ fun gY tL hs₅=>?_);replace tL:Z7 gY TO x y:=tL;replace hs₅:fq TO jH gY:=hs₅;refine aa (aer (ae (ae ?_)));refine aa (aag tL rfl ?_);refine aa (agf ?_);have hsz:gY.objs.size=s.heap.objs.size:=by rw[hs₅.1,hs₄.1,d3.1,hs₂.1,gy.1]
   have H8:ace gY z TI TO .ellipsis:=hs₅.extBut _ _ D.TOz.symm (hs₄.extBut _ _ NR.symm (d3.extBut _ _ D.TOz.symm (hs₂.extBut _ _ Lb.symm ut)));have hk₅:∀ c o,c≠z->c≠TO->c≠i1->c≠i2->s.heap.get? c=some o->gY.get? c=some o:=fun c o c1 c2 c3 c4 e =>
    hs₅.extBut _ _ c2 (hs₄.extBut _ _ c4 (d3.extBut _ _ c2 (hs₂.extBut _ _ c3 (gy.extBut _ _ c1 e))))
   have NV:yB (k+1) gY:=D1.frame _ _ _ (D1.frame _ _ _ (D1.frame _ _ _ NT (dK d3 D.T1)) (dK hs₄ D.i21)) (dK hs₅ D.T1);have NW:oZ (k+1) gY:=D2.frame _ _ _ NU (dK hs₅ D.T2);have Nd:z<gY.objs.size:=cR H8;show wpAny _ _ (aaI (.ref z) (.ref gY.objs.size)>>=_) _ _ _;refine aa ?_;unfold aaI;have NX:ace (gY.push { cls:=.type "tuple",data:=.seq #[x,y] }) z TI TO .ellipsis:=ag _ H8;refine aa (Z3 NX (by simp) fun SQ CR H9=>?_);replace CR:ace SQ z TI TO (rawInt gY.objs.size):=CR;refine Z3 CR (by simp) fun E0 yE Ia=>?_;replace yE:ace E0 z TI TO (rawInt gY.objs.size):=yE;have up:∀ c o,c≠z->gY.get? c=some o->E0.get? c=some o:=fun c o c1 e=>Ia.extBut _ _ c1 (H9.extBut _ _ c1 (ag _ e))
   have Ib:Z7 E0 gY.objs.size x y:=Ia.extBut _ _ (YW Nd) (H9.extBut _ _ (YW Nd) (ct _ rfl));rw[hsz]at yE Ib;refine ae ?_;show Q (.done (.ret (.ref gY.objs.size))) _;rw[hsz];exact hQ q1 q2 E0 _ x y UO UQ yE (up _ _ D.TOz tL) (D1.frame _ _ _ NV fun b hb o e=>up b o (fun q=>D.z1 (q▸hb)) e) (D2.frame _ _ _ NW fun b hb o e=>up b o (fun q=>D.z2 (q▸hb)) e) Ib fun c o c1 c2 c3 c4 e=>up c o c1 (hk₅ c o c1 c2 c3 c4 e)
  ·have tj:k=n2:=Yq yC (pH q2);refine aa (D2.done _ _ _ (tj▸H7) fun jH e hs₄ he=>?_);replace hs₄:acB i2 eJ jH:=hs₄;obtain⟨oe,CS,Ic⟩:=he;have Ie:ace jH z TI TO .ellipsis:=hs₄ _ _ NR.symm (d3.extBut _ _ D.TOz.symm (hs₂.extBut _ _ Lb.symm ut));have NY:e≠z:=fun x=>by subst x;rw[Ie]at CS;obtain rfl:=si CS;simp at Ic
   refine Z3 Ie (by simp) fun gY _ hs₅=>hE (.inr tj) gY _ e (fun c o c1 c2 c3 c4 x=>hs₅.extBut _ _ c1 (hs₄ _ _ c4 (d3.extBut _ _ c2 (hs₂.extBut _ _ c3 (gy.extBut _ _ c1 x))))) ⟨oe,hs₅.extBut _ _ NY CS,Ic⟩
 ·have tj:k=n1:=Yq CQ (pH q1);refine aa (D1.done _ _ _ (tj▸H6) fun bi e hs₂ he=>?_);replace hs₂:acB i1 aF bi:=hs₂;obtain⟨oe,CS,Ic⟩:=he;have Ig:ace bi z TI TO .ellipsis:=hs₂ _ _ Lb.symm ut;have NY:e≠z:=fun x=>by subst x;rw[Ig]at CS;obtain rfl:=si CS;simp at Ic
  refine Z3 Ig (by simp) fun eJ _ d3=>hE (.inl tj) eJ _ e (fun c o c1 _ c3 _ x=>d3.extBut _ _ c1 (hs₂ _ _ c3 (gy.extBut _ _ c1 x))) ⟨oe,d3.extBut _ _ NY CS,Ic⟩
end
theorem Ih(q:i=n1\/i=n2):¬i<min n1 n2:=fun h=>by
 rcases q with rfl|rfl
 ·exact Yl _ (e9 h (abo ..))
 ·exact Yl _ (e9 h (Zj ..))
theorem CT{A:bY}{pos:YZ}{z TI TO i1 i2:bQ}{fp1 qX:List bQ}{P1 P2:Nat->am->Prop}{yB oZ:Nat->ir->Prop}(D1:adX prog w A.in1 i1 fp1 n1 P1 yB)(D2:adX prog w A.in1 i2 qX n2 P2 oZ)(D:yA z TI TO i1 i2 fp1 qX)
  (l1:∀ i h,yB i h->∀ b∈fp1,∃ o,h.get? b=some o) (l2:∀ i h,oZ i h->∀ b∈qX,∃ o,h.get? b=some o) :
  Turns prog w A (.Tuple elts ke pos) z ([z,TI,TO]++(fp1++qX)) [z,TO,i1,i2] (min n1 n2) (fun i v h h'=>∃ T rS,v= .ref T/\(∃ x y,P1 i x/\P2 i y/\rS=#[x,y])/\h.get? T=none/\PlainT h' T rS)
   (fun i h=>ace h z TI TO .none/\Z7 h TI (.ref i1) (.ref i2)/\(∃ a b,Z7 h TO a b)/\yB i h/\oZ i h) where
 sub:=fun c hc=>by
  simp at hc ⊢;refine ab fun _ gG=>?_;rcases hc with rfl|rfl|rfl|rfl<;>refine gG ?_<;>clear gG
  ·exact .inl rfl
  ·exact .inr (.inr (.inl rfl))
  ·exact .inr (.inr (.inr (.inl D.i1in)))
  ·exact .inr (.inr (.inr (.inr D.i2in)))
 frame:=fun i h h' iu hk=>by
  refine ab fun _ gG=>?_;obtain⟨hz,og,⟨a,b,o0⟩,h1,h2⟩:=iu;refine gG ?_;clear gG
  exact⟨hk z (by simp) _ hz,hk TI (by simp) _ og,⟨a,b,hk TO (by simp) _ o0⟩,D1.frame _ _ _ h1 fun b hb o e=>hk b (by simp[hb]) o e,D2.frame _ _ _ h2 fun b hb o e=>hk b (by simp[hb]) o e⟩
 live:=fun i h iu b hb=>by
  refine ab fun _ gG=>?_;obtain⟨hz,og,⟨a,b',o0⟩,h1,h2⟩:=iu;refine gG ?_;clear gG
  simp at hb;refine ab fun _ gG=>?_;rcases hb with rfl|rfl|rfl|hb|hb<;>refine gG ?_<;>clear gG
  ·exact⟨_,hz⟩
  ·exact⟨_,og⟩
  ·exact⟨_,o0⟩
  ·exact l1 _ _ h1 _ hb
  ·exact l2 _ _ h2 _ hb
 item:=fun i s Q E hi iu hQ=>by
  refine ab fun _ gG=>?_;obtain⟨hz,og,⟨a,b,o0⟩,h1,h2⟩:=iu;refine gG ?_;clear gG
  generalize(fun q=>D.z1 (q▸D.i1in):i1≠z)=Lb;generalize(fun q=>D.z2 (q▸D.i2in):i2≠z)=NR;generalize(⟨_,hz,rfl⟩:s.TypeIs (.ref z) "zip")=hT;unfold Z4;refine aa (aaz (Yp (name:=ac "__next__") hT Z1
   (Ys Z1 hT ac1
    (Nc D1 D2 D hz og o0 h1 h2 (YG (e9 hi (abo ..))) (YG (e9 hi (Zj ..))) (fun _ _ h' tk x y p1 p2 a1 a2 a3 a4 a5 hk=>⟨_,rfl,ae ⟨.ref s.heap.objs.size,rfl,?_⟩⟩) fun q=>absurd hi (Ih q)) (acT _))))
  refine wpAny_letOwnedTupleGo_zip a1 fun wv SS jI=>?_;replace jI:fq z h' wv:=jI;generalize(cR hz:z<s.heap.objs.size)=hlt;refine hQ _ wv tk ⟨_,_,rfl,⟨x,y,p1,p2,rfl⟩,ku (kG _),⟨_,_,jI.extBut _ _ (YW hlt) a5,rfl,rfl,rfl⟩⟩ ⟨SS,jI.extBut _ _ D.TIz (hk _ _ D.TIz D.TITO (fun q=>D.I1 (q▸D.i1in)) (fun q=>D.I2 (q▸D.i2in)) og),⟨_,_,jI.extBut _ _ D.TOz a2⟩,D1.frame _ _ _ a3 (dK jI D.z1),D2.frame _ _ _ a4 (dK jI D.z2)⟩ fun b o hb e=>?_;simp at hb;exact jI.extBut _ _ hb.1 (hk b o hb.1 hb.2.1 hb.2.2.1 hb.2.2.2 e)
 done:=fun s Q E iu hQ=>by
  refine ab fun _ gG=>?_;obtain⟨hz,og,⟨a,b,o0⟩,h1,h2⟩:=iu;refine gG ?_;clear gG
  generalize(⟨_,hz,rfl⟩:s.TypeIs (.ref z) "zip")=hT;unfold Z4;refine aa (aaz (Yp (name:=ac "__next__") hT Z1
   (Ys Z1 hT ac1 (Nc D1 D2 D hz og o0 h1 h2 (abo ..) (Zj ..) (fun q1 q2=>absurd (Nat.lt_min.mpr ⟨q1,q2⟩) (Yl _)) fun _ h' tk e hk he=>?_) (acT _))))
  refine ab fun _ gG=>?_;obtain⟨o,ho,hc⟩:=he;refine gG ?_;clear gG
  refine aa (abx (T:="StopIteration") (b:=true) ⟨o,ho,hc⟩ agn ?_);exact ae (hQ h' tk fun c o hc e=>by simp at hc;exact hk c o hc.1 hc.2.1 hc.2.2.1 hc.2.2.2 e)
 self:=fun i s Q E iu hQ=>wpAny_pyIter_zip iu.1 hQ
theorem Au{A:bY}{pos:YZ}{e:bQ}{P:Nat->am->Prop}(D:adX prog w A.in1 it fp n P St)(Ii:e≠it)(hef:e∉fp)(Lc:it∈fp)
  (l:∀ i h,St i h->∀ b∈fp,∃ o,h.get? b=some o) :
  Turns prog w A (.Tuple elts ke pos) e (e::fp) [e,it] n (fun i v h h'=>∃ T rS,v= .ref T/\(∃ t x,P i x/\rS=#[.int i t,x])/\h.get? T=none/\PlainT h' T rS) (fun i h=>(∃ old,IsEnum h e it i old)/\St i h) where
 sub:=(aaL (prog:=prog) (w:=w) (A:=A) D e Ii hef Lc).sub
 frame:=(aaL (prog:=prog) (w:=w) (A:=A) D e Ii hef Lc).frame
 live:=fun i h iu b hb=>by
  obtain⟨⟨old,he⟩,h1⟩:=iu;rcases cn hb with rfl|hb
  ·exact⟨_,he⟩
  ·exact l _ _ h1 _ hb
 item:=fun i s Q E hi iu hQ=>by
  obtain⟨⟨old,he⟩,hs⟩:=iu;refine wpAny_pyNext_enum_itemD D he hs hi Ii hef fun x h' tk hP ho cC hT hsz hk=>?_;generalize(cR he:e<s.heap.objs.size)=SU;refine⟨_,rfl,wpAny_letOwnedTupleGo_enum ho fun wv to jI=>?_⟩;refine hQ _ wv _ ⟨_,_,rfl,⟨tk,x,hP,rfl⟩,ku (kG _),⟨_,_,jI.extBut _ _ (YW SU) hT,rfl,rfl,rfl⟩⟩ ⟨⟨_,by simpa using to⟩,D.frame _ _ _ cC fun b hb o y=>(jI.2 b fun q=>hef (q▸hb)).trans y⟩ fun b o hb y=>?_;exact jI.extBut _ _ (fun e'=>hb (by simp[e'])) (hk b o (fun e'=>hb (by simp[e'])) (fun e'=>hb (by simp[e'])) y)
 done:=(aaL (prog:=prog) (w:=w) (A:=A) D e Ii hef Lc).done
 self:=(aaL (prog:=prog) (w:=w) (A:=A) D e Ii hef Lc).self
end
theorem Rep.sub{h:ir}(r:Rep B h μ X v u)(hX:∀ a∈X',a∈X\/h.get? a=none):Rep B h μ X' v u:=Rep.move v r (Kp.refl _ _) (fun _ _ e=>e) hX
theorem Reps.sub{h:ir}(r:Reps B h μ X vs us)(hX:∀ a∈X',a∈X\/h.get? a=none):Reps B h μ X' vs us:=Reps.move vs r (Kp.refl _ _) (fun _ _ e=>e) hX
theorem gJ{W:List bQ}{h:ir}(hW:∀ a∈W,h.get? a=none):∀ a∈μ++(P++W),a∈μ++P\/h.get? a=none:=fun a m=>by
 rcases bU m with q|q
 ·exact .inl (bo _ q)
 ·rcases bU q with q|q
  ·exact .inl (aq _ q)
  ·exact .inr (hW a q)
theorem fA{W:List bQ}{h:ir} : ∀ a∈μ++P,a∈μ++(P++W)\/h.get? a=none:=fun a m=>.inl (by
 rcases bU m with q|q
 ·exact bo _ q
 ·exact aq _ (bo _ q))
theorem CellAt.sub{h:ir}{c:Cell}(x:CellAt B h μ X c a)(hX:∀ a∈X',a∈X\/h.get? a=none):CellAt B h μ X' c a:=x.move (Kp.refl _ _) (fun _ e=>e) (fun _ _ e=>e) hX
noncomputable def ie(P:List bQ)(envs:List YY):Prop:=∀ e∈envs,∃ L,e.frame=some L/\L∈P
theorem Inv.frIn(x:Inv B envs P μ O s):ie P envs:=fun e he=>let⟨_,L,h1,h2,_⟩:=x.frs e he;⟨L,h1,h2⟩
theorem FrAt.less{h:ir}{W:List bQ}{e:YY}(x:FrAt h (P++W) e)(f:∃ L,e.frame=some L/\L∈P):FrAt h P e:=by
 obtain⟨a,L,b,_,r⟩:=x;obtain⟨L',b',c'⟩:=f;rw[b]at b';obtain rfl:=si b';exact⟨a,L,b,c',r⟩
theorem FrAt.more{h:ir}{W:List bQ}{e:YY}(x:FrAt h P e):FrAt h (P++W) e:=by
 refine ab fun _ gG=>?_;obtain⟨a,L,b,c,r⟩:=x;refine gG ?_;clear gG
 exact⟨a,L,b,bo _ c,r⟩
theorem Inv.less{W:List bQ}(x:Inv B envs (P++W) μ O s)(f:ie P envs):Inv B envs P μ O s where
 stays:=x.stays
 gens:=x.gens
 os:=x.os
 new:=fun a m=>x.new a ((fA (h:=s.heap) a m).elim id fun q=>by
  rcases bU m with z|z
  ·exact bo _ z
  ·exact aq _ (bo _ z))
 dom:=fun a m=>x.dom a (by
  rcases bU m with z|z
  ·exact bo _ z
  ·exact aq _ (bo _ z))
 nodup:=x.nodup
 apart:=fun a m q=>x.apart a m (bo _ q)
 len:=x.len
 cells:=fun i c a h1 h2=>(x.cells i c a h1 h2).sub fA
 frs:=fun e he=>(x.frs e he).less (f e he)
theorem Inv.more{W:List bQ}(x:Inv B envs P μ O s)(k:∀ b o,s.heap.get? b=some o->h'.get? b=some o)(hW:∀ a∈W,s.heap.get? a=none)(hd:∀ a∈W,∃ o,h'.get? a=some o) :
  Inv B envs (P++W) μ O { s with heap:=h',toks:=tk } where
 stays:=fun b o e=>k b o (x.stays b o e)
 gens:=x.gens
 os:=x.os
 new:=fun a m=>by
  rcases gJ hW a m with q|q
  ·exact x.new a q
  ·induction e:B.H.get? a using aL with
   | none=>rfl
   | some o=>rw[x.stays a o e]at q;exact oQ q
 dom:=fun a m=>by
  rcases bU m with q|q
  ·obtain⟨o,e⟩:=x.dom a (bo _ q);exact⟨o,k a o e⟩
  ·rcases bU q with q|q
   ·obtain⟨o,e⟩:=x.dom a (aq _ q);exact⟨o,k a o e⟩
   ·exact hd a q
 nodup:=x.nodup
 apart:=fun a m q=>by
  rcases bU q with q|q
  ·exact x.apart a m q
  ·obtain⟨o,e⟩:=x.dom a (bo _ m);rw[hW a q]at e;exact nn e
 len:=x.len
 cells:=fun i c a h1 h2=>(x.cells i c a h1 h2).move (Kp.of_keeps k) (fun o e=>k a o e) (fun _ _ e=>e) (gJ hW)
 frs:=fun e he=>((x.frs e he).go (Go.of_keeps k) x.apart).more
theorem Inv.touch{W:List bQ}(x:Inv B envs P μ O s)(hk:∀ b o,b∉W->s.heap.get? b=some o->h'.get? b=some o)(hW:∀ a∈W,a∈P)(hd:∀ a∈W,∃ o,h'.get? a=some o)
  (hf:∀ e∈envs,FrAt h' P e):Inv B envs P μ O { s with heap:=h',toks:=tk } where
 stays:=fun b o e=>hk b o (fun m=>by rw[x.new b (aq _ (hW b m))]at e;exact nn e) (x.stays b o e)
 gens:=x.gens
 os:=x.os
 new:=x.new
 dom:=fun a m=>by
  by_cases q:a∈W
  ·exact hd a q
  ·obtain⟨o,e⟩:=x.dom a m;exact⟨o,hk a o q e⟩
 nodup:=x.nodup
 apart:=x.apart
 len:=x.len
 cells:=fun i c a h1 h2=>(x.cells i c a h1 h2).move (fun b o e m=>hk b o (fun q=>m (aq _ (hW b q))) e)
  (fun o e=>hk a o (fun q=>x.apart a (fU h2) (hW a q)) e) (fun _ _ e=>e) fun _ m=>.inl m
 frs:=hf
theorem Rep.touch{h:ir}{W:List bQ}(r:Rep B h μ (μ++P) v u)(hk:∀ b o,b∉W->h.get? b=some o->h'.get? b=some o)(hW:∀ a∈W,a∈P):Rep B h' μ (μ++P) v u :=
 Rep.move v r (fun b o e m=>hk b o (fun q=>m (aq _ (hW b q))) e) (fun _ _ e=>e) fun _ m=>.inl m
theorem Reps.touch{h:ir}{W:List bQ}(r:Reps B h μ (μ++P) vs us)(hk:∀ b o,b∉W->h.get? b=some o->h'.get? b=some o)(hW:∀ a∈W,a∈P):Reps B h' μ (μ++P) vs us :=
 Reps.move vs r (fun b o e m=>hk b o (fun q=>m (aq _ (hW b q))) e) (fun _ _ e=>e) fun _ m=>.inl m
theorem ORep.move{h:ir}(r:ORep B h μ X ov ou)(k:Kp X h h')(hm:∀ (n:Nat) (a:bQ),μ[n]?=some a->bV[n]?=some a)(hX:∀ a∈X',a∈X\/h.get? a=none):ORep B h' bV X' ov ou:=by
 induction ov using aL<;>induction ou using aL<;>first|exact r|exact Rep.move _ r k hm hX
theorem SR.move{h:ir}(x:SR B env P μ ρ h)(k:Kp (μ++P) h h')(kl:∀ o,h.get? env.locals=some o->h'.get? env.locals=some o)(kc:∀ x a,env.cells.lookup x=some a->∀ o,h.get? a=some o->h'.get? a=some o)
  (hm:∀ (n:Nat) (a:bQ),μ[n]?=some a->bV[n]?=some a) (hX:∀ a∈bV++P',a∈μ++P\/h.get? a=none):SR B env P' bV ρ h':=by
 refine ab fun _ gG=>?_;obtain⟨m,⟨o,es,ep,ho,hd,hk,hf⟩,hv⟩:=x;refine gG ?_;clear gG
 refine⟨m,⟨o,es,ep,kl _ ho,hd,hk,hf⟩,fun x ov e=>?_⟩;refine ab fun _ gG=>?_;obtain⟨ou,h1,h2⟩:=hv x ov e;refine gG ?_;clear gG
 refine⟨ou,h1.imp id ?_,h2.move k hm hX⟩;rintro⟨hk,a,o,h3,h4,h5⟩;exact⟨hk,a,o,h3,kc _ _ h3 _ h4,h5⟩
theorem SR.more{W:List bQ}{h:ir}(x:SR B env P μ ρ h)(k:∀ b o,h.get? b=some o->h'.get? b=some o)(hW:∀ a∈W,h.get? a=none):SR B env (P++W) μ ρ h' :=
 x.move (Kp.of_keeps k) (fun o e=>k _ o e) (fun _ _ _ o e=>k _ o e) (fun _ _ e=>e) (gJ hW)
theorem SR.less{W:List bQ}{h:ir}(x:SR B env (P++W) μ ρ h):SR B env P μ ρ h :=
 x.move (Kp.refl _ _) (fun _ e=>e) (fun _ _ _ _ e=>e) (fun _ _ e=>e) fA
theorem SR.touch{W:List bQ}{h:ir}(x:SR B env P μ ρ h)(hk:∀ b o,b∉W->h.get? b=some o->h'.get? b=some o)(hW:∀ a∈W,a∈P)(hl:env.locals∉W)(hc:∀ x a,env.cells.lookup x=some a->a∉W):SR B env P μ ρ h' :=
 x.move (fun b o e m=>hk b o (fun q=>m (aq _ (hW b q))) e) (fun o e=>hk _ o hl e) (fun x a e o eo=>hk _ o (hc x a e) eo) (fun _ _ e=>e) fun _ m=>.inl m
theorem Sit.more{A:bY}{W:List bQ}(S:Sit k A envs env P):Sit k A envs env (P++W) :=
 { S with own:=bo _ S.own,cells:=fun x a e=>⟨bo _ (S.cells x a e).1,(S.cells x a e).2⟩ }
theorem Exc.outer{W Y:List bQ}(x:Exc B envs (P++W) (μ++ν) Y' aF e row s)(f:ie P envs)(g:Go μ Y h₀ aF)(hν:∀ a∈ν,h₀.get? a=none)(hY:∀ a∈Y',a∈Y\/h₀.get? a=none):Exc B envs P μ Y h₀ e row s :=
 x.via (fun a o e n m=>⟨g.kp a o e n m,Af hν e n,fun q=>(hY a q).elim m fun z=>by rw[z]at e;exact nn e⟩) g.dm (fun e he=>(x.frs e he).less (f e he)) fun a m=>x.base a (bo _ m)
theorem Aft.inner{jE:List YY}{NZ Y:List bQ}{h:ir}{r:R (β×U)}{g:β×U->R (γ×U)}{K:γ->List bQ->aO->Prop}{K':β->List bQ->aO->Prop}{E':am->aO->Prop}
  (H:Aft B envs P NZ Y h0 (r.bind g) K E)
  (k:∀ b ar ν s',r= .ok (b,ar)->(∀ a∈ν,h.get? a=none)->Inv B jE P' (μ++ν) ar s'->Go μ Y' h s'.heap->Aft B envs P NZ Y h0 (g (b,ar)) K E->K' b (μ++ν) s')
  (ke:∀ row,(∀ e s',Exc B envs P NZ Y h0 e row s'->E e s')->∀ e s',Exc B jE P' μ Y' h e row s'->E' e s'):Aft B jE P' μ Y' h r K' E':=by
 induction r using R.casesOn with
 | ok a=>exact fun ν s' h1 h2 h3=>k a.1 a.2 ν s' rfl h1 h2 h3 H
 | exc row=>exact fun e s' h1=>ke row H e s' h1
 | stuck=>exact H
structure qa(e:am)(h:ir)(w:EW)(t:TW):Prop where
 v:e= .ref w.ea
 obj:h.get? w.ea=some w.oe
 data:w.oe.data= .fields w.vs
 tb:HJ h w t
noncomputable def gz(e:am)(h:ir):Prop:=∃ w t,qa e h w t
theorem ow{o:Obj}{vs:Array am}(hd:o.data= .fields vs)(f:Array am->Array am):o.mapFields f={ o with data:=.fields (f vs) }:=by
 obtain⟨c,d,dt,sl⟩:=o;subst hd;rfl
theorem uu{Y:List bQ}(x:Exc B envs P μ Y h₀ e row s):s.heap.FunFrames B.H envs:=by
 have:∀ l:List YY,(∀ e∈l,FrAt s.heap P e)->s.heap.FunFrames B.H l:=by
  intro l;induction l with
  | nil=>intro _;trivial
  | cons e l ih =>
   intro hf;obtain⟨hk,L,h1,h2,o,es,n,ho,hd⟩:=hf e aW;exact⟨hk,⟨L,o,h1,x.base L h2,ho,fun vs=>by rw[hd];simp⟩,ih fun e' m=>hf e' (bG _ m)⟩
 exact this envs x.frs
theorem FrAt.slots{h:ir}{e:YY}(x:FrAt h P e)(k:∀ L o,e.frame=some L->h.get? L=some o->∃ sl,h'.get? L=some { o with slots:=sl }):FrAt h' P e:=by
 obtain⟨hk,L,h1,h2,o,es,n,ho,hd⟩:=x;obtain⟨sl,e⟩:=k L o h1 ho;exact⟨hk,L,h1,h2,_,es,n,e,hd⟩
theorem Exc.post{Y:List bQ}(x:Exc B envs P μ Y h₀ e row s){W:List bQ}(hk:∀ b o,s.heap.get? b=some o->b∉W->∃ sl,h'.get? b=some { o with slots:=sl }/\(NF envs b->sl=o.slots))
  (hW:∀ b∈W,Priv B envs h₀ b) (ha:∃ w,ExcAt B envs h₀ h' e row w):Exc B envs P μ Y h₀ e row { s with heap:=h' } where
 stays:=fun b o hb=>by
  obtain⟨sl,h1,h2⟩:=hk b o (x.stays b o hb) fun m=>by rw[(hW b m).base]at hb;cases hb
  rw[h1,h2 fun e' he hf=>by
   obtain⟨_,L,l1,l2,_⟩:=x.frs e' he;rw[l1]at hf;obtain rfl:=si hf;rw[x.base _ l2]at hb;cases hb]
 gens:=x.gens
 os:=x.os
 kept:=fun a o h n m=>by
  obtain⟨sl,h1,h2⟩:=x.kept a o h n m;obtain⟨UR,h3,h4⟩:=hk a _ h1 fun q=>by rw[(hW a q).new]at h;exact nn h
  exact⟨UR,h3,fun nf=>(h4 nf).trans (h2 nf)⟩
 dm:=fun a o h =>
  let⟨o',h1⟩:=x.dm a o h
  let⟨_,h2,_⟩:=hk a o' h1 fun q=>by rw[(hW a q).new]at h;exact nn h
  ⟨_,h2⟩
 frs:=fun e' he=>(x.frs e' he).slots fun L o hl ho=>let⟨sl,h,_⟩:=hk L o ho fun m=>(hW L m).nf e' he hl;⟨sl,h⟩
 base:=x.base
 at_:=ha
theorem Exc.ready{Y:List bQ}(x:Exc B envs P μ Y h₀ e row s)(hs:Heap.SlotsOnly (envs.filterMap (·.frame)) s.heap h') :
  Exc B envs P μ Y h₀ e row { s with heap:=h' } :=
 have k:∀ b o,s.heap.get? b=some o->∃ sl,h'.get? b=some { o with slots:=sl }/\(NF envs b->sl=o.slots):=fun b o h=>by
  by_cases q:NF envs b
  ·exact⟨o.slots,(hs.2.1 b fun m=>let⟨e',he,hf⟩:=List.mem_filterMap.mp m;q e' he hf).trans h,fun Z=>rfl⟩
  ·obtain⟨sl,z⟩:=hs.2.2 b o h;exact⟨sl,z,fun h=>(q h).elim⟩
 x.post (W:=[]) (fun b o h Z=>k b o h) nofun
  (let⟨w,z⟩:=x.at_;⟨w,z.via (fun Z h=>h) (fun Z h=>h) fun a o p e=>let⟨sl,h1,h2⟩:=k a o e;⟨sl,h1,h2 p.nf⟩⟩)
theorem qb{Y:List bQ}(x:Exc B envs P μ Y h₀ e row s)(h:s.heap.get? a=none):Priv B envs h₀ a where
 new:=by
  induction q:h₀.get? a using aL with
  | none=>rfl
  | some o=>obtain⟨o',e⟩:=x.dm a o q;rw[h]at e;exact nn e
 base:=by
  cases q:B.H.get? a with
  | none=>rfl
  | some o=>have:=x.stays a o q;rw[h]at this;cases this
 nf:=fun e' he hf=>by
  obtain⟨_,L',h1,_,o',_,_,fe,_⟩:=x.frs e' he;rw[h1]at hf;obtain rfl:=si hf
  rw[fe]at h;exact oQ h
section
variable{A:bY}
theorem Av{Y:List bQ}{vs:Array am}{w:EW}{t:TW}{b:bQ}(x:Exc B envs P μ Y h₀ e row s)(z:ExcAt B envs h₀ s.heap e row w)(p:Priv B envs h₀ t.T)(hb:b=w.ea\/b=t.T)
  (ho:h'.get? w.ea=some { w.oe with data:=.fields vs }) (hz:5<=vs.size) (ht:HJ h' { w with vs:=vs } t) (hk:∀ a o,s.heap.get? a=some o->a≠b->h'.get? a=some o) (hd:b≠w.d) :
  Exc B envs P μ Y h₀ e row { s with heap:=h' }/\gz e h' :=
 ⟨x.post (W:=[w.ea,t.T]) (fun a o h m=>⟨o.slots,hk a o h fun q=>hb.elim (fun q'=>m (by rw[q,q'];exact aW)) fun q'=>m (by rw[q,q'];exact bG _ aW),fun Z=>rfl⟩)
  (be ⟨z.own,be ⟨p,nofun⟩⟩)
  ⟨{ w with oe:={ w.oe with data:=.fields vs },vs:=vs },z.v,z.own,ho,z.cls,z.dict,rfl,hz,z.dwn,hk _ _ z.dobj (Ne.symm hd),.inr ⟨t,⟨ht.v1,ht.ne,ht.obj,ht.data,ht.size⟩,p⟩⟩,{ w with oe:={ w.oe with data:=.fields vs },vs:=vs },t,z.v,ho,rfl,ht.v1,ht.ne,ht.obj,ht.data,ht.size⟩
theorem Aw{b:bQ}(h:gH a= .ref b):a=b:=by cases h;rfl
theorem Ax{a b:Array am}(h:Data.fields a= .fields b):a=b:=by cases h;rfl
theorem E2{h:ir}{w:EW}(z:ExcAt B envs h₀ h e row w){b:bQ}{o:Obj}{vs:Array am}(hb:h.get? b=some o)(hd:o.data= .fields vs):b≠w.d:=fun q=>by
 rw[q,z.dobj]at hb;cases hb;cases hd
theorem uw{ea:bQ}{Y:List bQ}{head:am}{Ij:Bool}{Q:Unit->aO->Prop}(gA:A.frames=some envs)(qZ:envs=e0::rest)(uz:e0.frame=some L)(hf:env.frame=some L)
  (x:Exc B envs P μ Y h₀ (.ref ea) row s) (q:∀ h',Exc B envs P μ Y h₀ (.ref ea) row { s with heap:=h' }/\gz (.ref ea) h'->Q () { s with heap:=h' }) :
  wpAny M A (do let a<-aeM env;let pl<-entryPlaceOf L Ij;let b<-ac5 head a .none (rawInt L) .none pl;setField (.ref ea) 1 b) Q E s:=by
 refine aa ?_;unfold aeM;refine aa (wpAny_frameEnvs gA ?_);have US:(envs.dropWhile fun x=>x.frame != env.frame)=envs:=by
  rw[qZ];simp[List.dropWhile,uz,hf]
 rw[US,qZ];unfold frameObject;refine aa (aa (wpAny_readyFrames_fun (base:=B.H) (l:=e0::rest) (qZ▸uu x) fun aF gy=>ae ?_));rw[uz];refine ae ?_;generalize(x.ready (h':=aF) (qZ▸gy))=x1;refine aa (wpAny_entryPlaceOf fun pl CU=>?_);unfold ac5 newFields;refine aa (Yg ?_ (CU.sizeOk5 _ _ _ _ _));clear gy x CU;generalize hX:([head,.ref L,.none,rawInt L,.none]++(if pl.isEmpty then List.replicate 6 Yr else pl)).toArray=X;have hsz:4<=X.size:=by
  rw[<- hX];simp only[aaT,bv,cx,dv];exact Qh
 obtain⟨w,z⟩:=x1.at_;cases z.v
 generalize(z.obj:aF.get? w.ea=some w.oe)=a1;generalize(YW (cR a1):aF.objs.size≠w.ea)=hne;refine ZJ (ag _ a1) z.data (e9 (by decide) z.size) (q _ (Av (s:={ s with heap:=aF }) (vs:=w.vs.setIfInBounds 1 (gH aF.objs.size)) (t:=⟨aF.objs.size,_,X⟩) x1 z (qb x1 (a:=aF.objs.size) (bp _)) (.inl rfl)
  ((Yv _ (ag _ a1) (aad (Zo z.data _))).trans (congrArg some (ow z.data _))) (by rw[ac6];exact z.size)
  ⟨Array.getElem?_setIfInBounds_self_of_lt (e9 (by decide) z.size),hne,(YF _ _ (Ne.symm hne)).trans (ct aF rfl),rfl,hsz⟩
  (fun b o h n=>(YF _ _ (Ne.symm n)).trans (ag _ h)) (E2 z a1 z.data)))
theorem kT{h:ir}{w w':EW}{t:TW}(z:ExcAt B envs h₀ h e row w')(n:qa e h w t):w'.ea=w.ea/\w'.vs=w.vs/\Priv B envs h₀ t.T:=by
 have ea:w'.ea=w.ea:=Aw (z.v.symm.trans n.v);have oe:w'.oe=w.oe:=kH (z.obj.symm.trans (by rw[ea];exact n.obj));have Ik:w'.vs=w.vs:=Ax (z.data.symm.trans (by rw[oe];exact n.data));refine⟨ea,Ik,?_⟩;rcases z.tb with q|⟨t',h,p⟩
 ·rw[Ik,n.tb.v1]at q;exact nomatch kH q
 ·exact Aw (kH (n.tb.v1.symm.trans (by rw[<- Ik];exact h.v1)))▸p
theorem mO{Y:List bQ}{w:EW}{t:TW}{v:am}(x:Exc B envs P μ Y h₀ e row s)(n:qa e s.heap w t) :
  Exc B envs P μ Y h₀ e row { s with heap:=s.heap.update t.T (ab0 (·.setIfInBounds 3 v)) }/\gz e (s.heap.update t.T (ab0 (·.setIfInBounds 3 v))):=by
 obtain⟨w',z⟩:=x.at_;generalize((kT z n)).1=ea;generalize(((kT z n)).2).1=Ik;generalize(((kT z n)).2).2=hp;generalize(n.tb)=ht;exact Av (vs:=w'.vs) (t:=⟨t.T,{ t.o with data:=.fields (t.ts.setIfInBounds 3 v) },t.ts.setIfInBounds 3 v⟩) x z hp (.inr rfl) ((YF _ _ (by rw[ea];exact ht.ne)).trans (z.obj.trans (by rw[<- z.data]))) z.size
  ⟨by rw[Ik];exact ht.v1,by rw[ea];exact ht.ne,(Yv _ ht.obj (aad (Zo ht.data _))).trans (congrArg some (ow ht.data _)),rfl,(show 4<=(t.ts.setIfInBounds 3 v).size from by rw[ac6];exact ht.size)⟩
  (fun b o h n=>(YF _ _ (Ne.symm n)).trans h) (E2 z ht.obj ht.data)
theorem jJ{Y:List bQ}{Q:Unit->aO->Prop}(gA:A.frames=some envs)(qZ:envs=e0::rest)(uz:e0.frame=some L)(hf:env.frame=some L)
  (x:Exc B envs P μ Y h₀ e row s) (q:∀ s',Exc B envs P μ Y h₀ e row s'->gz e s'.heap->Q () s'):wpAny M A (adQ e env) Q E s:=by
 obtain⟨w,z⟩:=x.at_;cases z.v
 unfold adQ;simp only[hf];rcases z.tb with h1|⟨t,ht,_⟩
 ·refine aa (Yy z.obj z.data h1 ?_);rw[if_neg (by decide)];exact uw gA qZ uz hf x fun h' x'=>q _ x'.1 x'.2
 ·refine aa (Yy z.obj z.data ht.v1 ?_);rw[if_pos (show(gH t.T != Yr)=true from rfl)];refine aa (Yy ht.obj ht.data (Y5 (show 3<t.ts.size from ht.size)) ?_);generalize(⟨rfl,z.obj,z.data,ht⟩:qa (.ref w.ea) s.heap w t)=n;by_cases hq:(t.ts[3]'ht.size==rawInt L)=true
  ·rw[if_pos hq];exact ae (q s x ⟨w,t,n⟩)
  ·rw[if_neg hq];exact aa (ZJ ht.obj ht.data (show 3<t.ts.size from ht.size) (uw gA qZ uz hf (mO (v:=.none) x n).1 fun h' x'=>q _ x'.1 x'.2))
theorem kU{Y:List bQ}{fr:Option bQ}{Q:Unit->aO->Prop}(x:Exc B envs P μ Y h₀ e row s)(nt:gz e s.heap)
  (q:∀ s',Exc B envs P μ Y h₀ e row s'->gz e s'.heap->Q () s'):wpAny M A (setFlight e fr) Q E s:=by
 obtain⟨w,t,n⟩:=nt;cases n.v
 generalize(mO (v:=fr.elim Yr fun f=>rawInt f) x n)=x1;unfold setFlight;refine aa (Yy n.obj n.data n.tb.v1 ?_);rw[if_pos (show(gH t.T != Yr)=true from rfl)];exact ZJ n.tb.obj n.tb.data (show 3<t.ts.size from n.tb.size) (q _ x1.1 x1.2)
theorem qc{A:bY}{Y:List bQ}(gA:A.frames=some envs)(qZ:envs=e0::rest)(uz:e0.frame=some L)(hf:env.frame=some L)
  (x:Exc B envs P μ Y h₀ e row s) (q:∀ s',Exc B envs P μ Y h₀ e row s'->gz e s'.heap->E e s'):notedBy M A env E e s:=jJ gA qZ uz hf x q
theorem uA(nt:gz e s.heap)(q:∀ T,Q (.ref T) s):wpAny M A (aex e 1) Q E s:=by
 obtain⟨w,t,n⟩:=nt;cases n.v
 exact Yy n.obj n.data n.tb.v1 (q t.T)
theorem Ay{SV:String}{Y:List bQ}{Q:α->aO->Prop}(x:Exc B envs P μ Y h₀ e row s)(nt:gz e s.heap)
  (q:∀ s',Exc B envs P μ Y h₀ e row s'->gz e s'.heap->E e s'):wpAny M A (adg SV e env) Q E s:=by
 unfold adg;refine aa (uA nt fun T=>?_);rw[if_neg (by simp)];refine aa (m:=setFlight e env.frame) (kU x nt fun s' x' n'=>aep (q s' x' n'))
theorem tq{A:bY}{Y:List bQ}(x:Exc B envs P μ Y h₀ e row s)(nt:gz e s.heap)
  (q:∀ s',Exc B envs P μ Y h₀ e row s'->gz e s'.heap->E e s'):cameBackBy M A env E e s:=by
 unfold cameBackBy;refine aa (uA nt fun T=>?_);rw[if_neg (by simp)];exact kU x nt fun s' x' n'=>q s' x' n'
theorem yF{Y:List bQ}{Q:Unit->aO->Prop}(gA:A.frames=some envs)(qZ:envs=e0::rest)(uz:e0.frame=some L)(hf:env.frame=some L)
  (x:Exc B envs P μ Y h₀ e row s) (q:∀ s',Exc B envs P μ Y h₀ e row s'->gz e s'.heap->Q () s'):wpAny M A (leaving env e) Q E s:=by
 unfold leaving;exact aa (jJ gA qZ uz hf x fun s' x' n'=>kU x' n' q)
end
theorem qd{y:fw}{r:af}(h:aV x v ((y,ov)::r)=some aU):(y=x/\aU=(y,some v)::r)\/(y≠x/\∃ q,aV x v r=some q/\aU=(y,ov)::q):=by
 have h:(if y=x then some ((y,some v)::r)else(aV x v r).map fun q=>(y,ov)::q)=some aU:=h;by_cases e:y=x
 ·rw[if_pos e]at h;exact .inl ⟨e,(si h).symm⟩
 ·rw[if_neg e]at h;obtain⟨q,h1,h2⟩:=mD h;exact .inr ⟨e,q,h1,h2.symm⟩
theorem mP{x:fw}{v:V} : ∀ {ρ aU:af},aV x v ρ=some aU->∀ y,aU.lookup y=if y=x then some (some v)else ρ.lookup y
 | [],_,h,_=>nn h
 | (z,ov)::r,aU,h,y=>by
  rw[mF];refine ab fun Z gG=>?_;rcases qd h with⟨e,e'⟩|⟨e,q,h1,e'⟩<;>refine gG ?_<;>clear gG
  ·rw[e',mF,e];by_cases hy:y=x
   ·rw[if_pos hy,if_pos hy]
   ·rw[if_neg hy,if_neg hy,if_neg hy]
  ·rw[e',mF,mP h1];by_cases hy:y=z
   ·rw[if_pos hy,if_pos hy,if_neg fun w=>e (hy.symm.trans w)]
   ·rw[if_neg hy,if_neg hy]
theorem rT{x:fw}{v:V} : ∀ {ρ aU:af},aV x v ρ=some aU->∃ ov,ρ.lookup x=some ov
 | [],_,h=>nn h
 | (z,ov)::r,aU,h=>by
  rw[mF];refine ab fun Z gG=>?_;rcases qd h with⟨e,_⟩|⟨e,q,h1,_⟩<;>refine gG ?_<;>clear gG
  ·exact⟨ov,if_pos e.symm⟩
  ·rw[if_neg (Ne.symm e)];exact rT h1
theorem qe{x y:fw}{u v:V}(hxy:x≠y):∀ {ρ:af},(aV x u ρ).bind (aV y v)=(aV y v ρ).bind (aV x u)
 | []=>rfl
 | (z,ov)::r=>by
  by_cases hx:z=x
  ·generalize(fun e=>hxy (hx.symm.trans e):¬z=y)=hy;subst hx;have e1:∀ q,aV z u ((z,ov)::q)=some ((z,some u)::q):=fun q=>if_pos rfl
   have e2:∀ o q,aV y v ((z,o)::q)=(aV y v q).map fun q=>(z,o)::q:=fun o q=>if_neg hy
   rw[e1,e2,cH,e2];cases aV y v r with
   | none=>rfl
   | some q=>exact(e1 q).symm
  ·by_cases hy:z=y
   ·subst hy;have e1:∀ q,aV z v ((z,ov)::q)=some ((z,some v)::q):=fun q=>if_pos rfl
    have e2:∀ o q,aV x u ((z,o)::q)=(aV x u q).map fun q=>(z,o)::q:=fun o q=>if_neg hx
    rw[e1,e2,cH,e2];cases aV x u r with
    | none=>rfl
    | some q=>exact e1 q
   ·have e1:∀ q,aV y v ((z,ov)::q)=(aV y v q).map fun q=>(z,ov)::q:=fun q=>if_neg hy
    have e2:∀ q,aV x u ((z,ov)::q)=(aV x u q).map fun q=>(z,ov)::q:=fun q=>if_neg hx
    rw[e1,e2];generalize(qe hxy (u:=u) (v:=v) (ρ:=r))=ih;cases h1:aV x u r<;>cases h2:aV y v r<;>rw[h1,h2]at ih<;>simp only[ZM,Option.map_none,cH,Option.bind_none,e1,e2]at ih ⊢
    ·rw[<- ih];rfl
    ·rw[ih];rfl
    ·rw[ih]
noncomputable def own(env:YY):List bQ:=env.locals::env.cells.map (·.2)
theorem Ld{A:bY}(S:Sit k A envs env P)(hc:∀ x a,(x,a)∈env.cells->env.cells.lookup x=some a):∀ a∈own env,a∈P:=fun a m=>by
 rcases cn m with rfl|m
 ·exact S.own
 ·obtain⟨⟨x,a'⟩,m',rfl⟩:=iP m;exact S.cellsIn x a' (hc x a' m')
theorem bZ{α β:Type}[BEq α][LawfulBEq α]{x:α}{b:β} : ∀ {l:List (α×β)},l.lookup x=some b->(x,b)∈l
 | [],h=>by simp at h
 | (y,c)::r,h=>by
  rw[dR]at h;by_cases e:(x==y)=true
  ·rw[e]at h;obtain rfl:=si h
   rw[eq_of_beq e];exact aW
  ·rw[show(x==y)=false from by simpa using e]at h;exact bG _ (bZ h)
theorem xd(h:env.cells.lookup x=some a):a∈own env:=bG _ (List.mem_map.mpr ⟨(x,a),bZ h,rfl⟩)
theorem Rep.goY{h:ir}{Y:List bQ}(r:Rep B h μ (μ++P) v u)(g:Go μ Y h h')(hY:∀ a∈Y,a∈P):Rep B h' μ (μ++P) v u:=by
 have:=r.go (ν:=[]) g nofun hY
 rwa[bP]at this
theorem Reps.goY{h:ir}{Y:List bQ}(r:Reps B h μ (μ++P) vs us)(g:Go μ Y h h')(hY:∀ a∈Y,a∈P):Reps B h' μ (μ++P) vs us:=by
 have:=r.go (ν:=[]) g nofun hY
 rwa[bP]at this
structure Fit(k:Nat)(A:bY)(envs:List YY)(env:YY)(P:List bQ):Prop extends Sit k A envs env P where
 uniq:∀ x a,(x,a)∈env.cells->env.cells.lookup x=some a
theorem Fit.ownIn{A:bY}(S:Fit k A envs env P):∀ a∈own env,a∈P:=Ld S.toSit S.uniq
theorem o7{h:ir}(x:∀ e∈envs,FrAt h P e)(hs:fq a h h')(ha:(∃ m,h'.Ns a m)\/∀ o es n,h.get? a=some o->o.data≠.dict es n):∀ e∈envs,FrAt h' P e:=fun e he=>by
 refine ab fun Z gG=>?_;obtain⟨hk,L,h1,h2,o,es,n,ho,hd⟩:=x e he;refine gG ?_;clear gG
 by_cases q:L=a
 ·subst q;refine ab fun Z gG=>?_;rcases ha with⟨m,o',es',n',fe,gx,_⟩|ha<;>refine gG ?_<;>clear gG
  ·exact⟨hk,_,h1,h2,o',es',n',fe,gx⟩
  ·exact(ha o es n ho hd).elim
 ·exact⟨hk,L,h1,h2,o,es,n,(hs.2 L q).trans ho,hd⟩
noncomputable def Az(env:YY)(ok:fw->Bool)(Y:List bQ):Prop:=∀ x,ok x=true->(env.kindOf x=some .local/\env.locals∈Y)\/(env.kindOf x=some .cell/\∀ a,env.cells.lookup x=some a->a∈Y)
theorem kY(env:YY):Az env (cL env.scope) (own env):=fun x hx=>by
 unfold cL at hx;rcases Bool.or_eq_true_iff.mp hx with z|z
 ·exact .inl ⟨show env.scope.names.lookup x=some .local from by simpa using z,aW⟩
 ·exact .inr ⟨show env.scope.names.lookup x=some .cell from by simpa using z,fun a h=>xd h⟩
theorem FQ(env:YY):Az env (gU env.scope) [env.locals]:=fun x hx=>.inl ⟨show env.scope.names.lookup x=some .local from by simpa[gU]using hx,aW⟩
theorem ORep.map{h:ir}(r:ORep B h μ X ov ou)(k:∀ {v u},Rep B h μ X v u->Rep B h' bV X' v u):ORep B h' bV X' ov ou:=by
 cases ov<;>cases ou<;>first|exact r|exact k r
theorem VarIs.map{h:ir}{m m':fw->Option am}(v:VarIs h env m x ou)(k1:env.kindOf x=some .local->m x=ou->m' x=ou)(k2:∀ a o,env.cells.lookup x=some a->h.get? a=some o->o.data= .cell ou->h'.get? a=some o):VarIs h' env m' x ou:=by
 refine ab fun Z gG=>?_;rcases v with⟨a,b⟩|⟨a,c,o,e,f,g⟩<;>refine gG ?_<;>clear gG
 ·exact .inl ⟨a,k1 a b⟩
 ·exact .inr ⟨a,c,o,e,k2 c o e f g,g⟩
theorem Inv.touch1{Y:List bQ}(I:Inv B envs P μ O s){c:bQ}(hc:c∈P)(hY:c∈Y)(hs:fq c s.heap h')(hd:∃ o,h'.get? c=some o)(hf:(∃ m,h'.Ns c m)\/∀ o es n,s.heap.get? c=some o->o.data≠.dict es n) :
  Inv B envs P μ O { s with heap:=h',toks:=tk }/\Go μ Y s.heap h'/\∀ {v u},Rep B s.heap μ (μ++P) v u->Rep B h' μ (μ++P) v u :=
 have hk:∀ b o,b∉[c]->s.heap.get? b=some o->h'.get? b=some o:=fun b o hb e=>hs.extBut b o (fun z=>hb (z▸aW)) e
 have hW:∀ a∈[c],a∈P:=List.forall_mem_singleton.mpr hc
 ⟨I.touch hk hW (List.forall_mem_singleton.mpr hd) (o7 I.frs hs hf),⟨fun a o e Z n2=>hk a o (fun z=>n2 (a8 z▸hY)) e,fun a o e=>by
  by_cases z:a=c
  ·exact z▸hd
  ·exact⟨o,hk a o (fun w=>z (a8 w)) e⟩⟩,fun r=>r.touch hk hW⟩
theorem SR.set{h:ir}{m m':fw->Option am}(hv:aV x v ρ=some aU)(yp:∀ x ov,ρ.lookup x=some ov->∃ ou,VarIs h env m x ou/\ORep B h μ (μ++P) ov ou)(hn:h'.Ns env.locals m')
  (h1:VarIs h' env m' x (some u)) (h2:∀ y ou,y≠x->VarIs h env m y ou->VarIs h' env m' y ou) (hR:∀ {v u},Rep B h μ (μ++P) v u->Rep B h' μ (μ++P) v u) (R:Rep B h μ (μ++P) v u):SR B env P μ aU h' :=
 ⟨m',hn,fun y ov hy=>by
  rw[mP hv]at hy;by_cases e:y=x
  ·rw[if_pos e]at hy;rw[<- si hy,e];exact⟨some u,h1,hR R⟩
  ·rw[if_neg e]at hy;obtain⟨ou,a,b⟩:=yp y ov hy;exact⟨ou,h2 y ou e a,b.map hR⟩⟩
theorem AA{h:ir}{l c:bQ}{m:fw->Option am}{o:Obj}(hm:h.Ns l m)(ho:h.get? c=some o)(hd:o.data= .cell ou):c≠l:=fun z=>by
 obtain⟨o',es',n',fe,gx,_⟩:=hm;rw[<- z,ho]at fe;cases fe;rw[hd]at gx;cases gx
theorem Le{h:ir}{m:fw->Option am}(x:h.Ns a m):∃ o,h.get? a=some o:=by
 obtain⟨o,_,_,e,_⟩:=x;exact⟨o,e⟩
theorem jy{Y:List bQ}{A:bY}{Q:Unit->aO->Prop}(S:Sit k A envs env P)(I:Inv B envs P μ O s)(r:SR B env P μ ρ s.heap)
  (R:Rep B s.heap μ (μ++P) v u) (hY:Az env ok Y) (hx:ok x=true) (hv:aV x v ρ=some aU) (q:∀ s',Inv B envs P μ O s'->Go μ Y s.heap s'.heap->SR B env P μ aU s'.heap->Q () s'):wpAny M A (storeName env x u) Q E s:=by
 obtain⟨m,hm,yp⟩:=r;rcases hY x hx with⟨hl,UT⟩|⟨hc,hcY⟩
 ·refine ad9 hl hm (fun h' yG cC=>?_) (by rw[S.kind];rfl);obtain⟨I',g,hR⟩:=I.touch1 (tk:=s.toks+1) S.own UT cC (Le yG) (.inl ⟨_,yG⟩);refine q _ I' g (SR.set hv yp yG (.inl ⟨hl,if_pos rfl⟩) (fun y ou e z=>z.map (fun Z e1=>(if_neg e).trans e1) fun a o Z ho hd=>(cC.2 a (AA hm ho hd)).trans ho) hR R)
 ·obtain⟨UU,SW⟩:=rT hv;obtain⟨Xo,SX,_⟩:=yp x UU SW;obtain⟨_,c,oc,hcl,AB,Il⟩:=SX.resolve_left fun z=>nomatch kH (hc.symm.trans z.1)
  refine wpAny_storeName_cell S.kind hc hcl ⟨oc,AB,Il⟩ fun h' yG cC=>?_;generalize(AA hm AB Il)=Im;obtain⟨o',fe,gx⟩:=yG;obtain⟨I',g,hR⟩:=I.touch1 (tk:=s.toks) (S.cellsIn _ _ hcl) (hcY _ hcl) cC ⟨o',fe⟩ (.inr fun o es n ho z=>by rw[AB]at ho;cases ho;rw[Il]at z;cases z);refine q _ I' g (SR.set hv yp (hm.at' fun o e=>(cC.2 _ (Ne.symm Im)).trans e) (.inr ⟨.inl hc,c,o',hcl,fe,gx⟩) (fun y ou e z=>z.map (fun Z e1=>e1) fun a o e1 ho hd=>(cC.2 a fun z=>e (S.inj _ _ _ e1 (z▸hcl))).trans ho) hR R)
theorem SR.goY{h:ir}(x:SR B env P μ ρ h)(k:∀ b o,h.get? b=some o->h'.get? b=some o):SR B env P μ ρ h' :=
 x.move (Kp.of_keeps k) (fun o e=>k _ o e) (fun Z Z Z o e=>k _ o e) (fun Z Z e=>e) fun Z m=>.inl m
mutual
inductive BP(ok:fw->Bool):Expr->V->af->af->Prop
 | nm {x p v ρ aU:_} : ok x=true->aV x v ρ=some aU->BP ok (.Name x p) v ρ aU
 | tp {ts kk p vs ρ aU:_} : BPs ok ts vs ρ aU->BP ok (.Tuple ts kk p) (.tup vs) ρ aU
inductive BPs(ok:fw->Bool):List Expr->List V->af->af->Prop
 | nil {ρ:_} : BPs ok [] [] ρ ρ
 | cons {t ts v vs ρ bj aU:_} : BP ok t v ρ bj->BPs ok ts vs bj aU->BPs ok (t::ts) (v::vs) ρ aU
end
mutual
theorem Io{ok:fw->Bool} : ∀ (t:Expr) {v:V} {ρ aU:af},bx ok t v ρ=some aU->BP ok t v ρ aU:=fun t=>by
 induction t using ge with
 | Name x p =>
  intro v ρ aU h;generalize((NG (show(if ok x=true then aV x v ρ else none)=some aU from h))).1=a;generalize((NG (show(if ok x=true then aV x v ρ else none)=some aU from h))).2=b;exact .nm a b
 | Tuple ts kk p =>
  intro v ρ aU h;induction v using V.casesOn with
  | tup vs=>exact .tp (tN ts h)
  | _=>exact nn h
 | _=>exact fun h=>nn h
theorem tN{ok:fw->Bool} : ∀ (ts:List Expr) {vs:List V} {ρ aU:af},dB ok ts vs ρ=some aU->BPs ok ts vs ρ aU
 | [],[],_,_,h=>si h▸.nil
 | [],_::_,_,_,h=>nn h
 | _::_,[],_,_,h=>nn h
 | t::ts,v::vs,_,_,h=>let⟨_,h1,h2⟩:=ib h;.cons (Io t h1) (tN ts h2)
end
theorem f9(h:BPs ok ts vs ρ aU):(ZL ts env).findIdx? (·.1)=none/\(ZL ts env).length=vs.length/\ZL ts env=ts.map fun t=>(false,aaj t env):=by
 refine BPs.rec (motive_1:=fun t Z Z Z Z=>∀ ts,ZL (t::ts) env=(false,aaj t env)::ZL ts env) (motive_2:=fun ts vs Z Z Z=>(ZL ts env).findIdx? (·.1)=none/\(ZL ts env).length=vs.length/\ZL ts env=ts.map fun t=>(false,aaj t env)) (fun Z Z Z=>rfl) (fun Z Z Z=>rfl) ⟨rfl,rfl,rfl⟩ (fun Z Z e i=>?_) h;rw[e];exact⟨by rw[List.findIdx?_cons,i.1];rfl,congrArg (· + 1) i.2.1,congrArg _ i.2.2⟩
noncomputable def yH(B:bw)(A:bY)(envs:List YY)(P μ:List bQ)(O:U)(env:YY)(Y:List bQ){α β:Type}(UV:ir->α->β->Prop)(run:β->Xm Unit)(v:α)(ρ aU:af):Prop :=
 ∀ {s:aO} {u:β} {Q:Unit->aO->Prop} {E:am->aO->Prop},Inv B envs P μ O s->SR B env P μ ρ s.heap->UV s.heap v u->(∀ s',Inv B envs P μ O s'->Go μ Y s.heap s'.heap->SR B env P μ aU s'.heap->Q () s')->wpAny (cr B.prog B.w) A (run u) Q E s
theorem N0{Y:List bQ}{A:bY}(S:Sit k A envs env P)(hY:Az env ok Y)(tu:∀ a∈Y,a∈P)(h:BP ok t v ρ aU):yH B A envs P μ O env Y (fun h=>Rep B h μ (μ++P)) (aaj t env) v ρ aU:=by
 refine BP.rec (motive_1:=fun t v ρ aU Z=>yH B A envs P μ O env Y (fun h=>Rep B h μ (μ++P)) (aaj t env) v ρ aU) (motive_2:=fun ts vs ρ aU Z=>yH B A envs P μ O env Y (fun h=>Reps B h μ (μ++P)) (adF (ts.map ((·.2)∘fun t=>(false,aaj t env)))) vs ρ aU) ?_ ?_ ?_ ?_ h
 ·intro x p v ρ aU hx hb s u Q E I r R q;exact af5 (jy S I r R hY hx hb q)
 ·intro ts kk p vs ρ aU hb ih s u Q E I r R q;obtain⟨a,xs,rfl,na,ht,hr⟩:=iR R;generalize((f9 (env:=env) hb)).1=i1;generalize(((f9 (env:=env) hb)).2).1=i2;generalize(((f9 (env:=env) hb)).2).2=i3;refine wpAny_assign_Tuple S.handled ht.isTuple (by rw[i2,<- hr.length];rfl) i1 fun h' cC=>?_;have hk:∀ b o,s.heap.get? b=some o->h'.get? b=some o:=fun b o e=>cC b o (fun z=>by rw[z,bp]at e;exact nn e) e
  rw[i3,Y7];exact ih (s:={ s with heap:=h' }) (I.grow (h':=h') (tk:=s.toks) hk) (r.goY hk) (hr.go0 (Go.of_keeps hk)) fun s' Ip g r'=>q s' Ip ((Go.of_keeps hk).trans g) r'
 ·intro ρ s u Q E I r R q;cases show u=[]from R
  exact abe (q s I (Go.refl _ _ _) r)
 ·intro t ts v vs ρ bj aU _ _ i1 i2 s u Q E I r R q;obtain⟨u,oh,rfl,R1,R2⟩:=show ∃ a r,u=a::r/\_ from R
  exact YS (i1 I r R1 fun s1 I1 g1 r1=>i2 I1 r1 (R2.goY g1 tu) fun s' I' g' r'=>q s' I' (g1.trans g') r')
theorem bind_ok{Y:List bQ}{A:bY}(S:Sit k A envs env P)(hY:Az env ok Y)(tu:∀ a∈Y,a∈P)(t:Expr){Q:Unit->aO->Prop}(I:Inv B envs P μ O s)(r:SR B env P μ ρ s.heap)
  (R:Rep B s.heap μ (μ++P) v u) (h:bx ok t v ρ=some aU) (q:∀ s',Inv B envs P μ O s'->Go μ Y s.heap s'.heap->SR B env P μ aU s'.heap->Q () s'):wpAny (cr B.prog B.w) A (aaj t env u) Q E s:=N0 S hY tu (Io t h) I r R q
structure CV(B:bw)(A:bY)(t:Expr)(vs dA:List V)(us:List am)(I:bQ)(fp wr:List bQ)(P:Nat->am->ir->ir->Prop)(St:Nat->ir->Prop):Prop where
 tn:Turns B.prog B.w A t I fp wr vs.length P St
 give:∀ i v h h' μ X,Reps B h' μ X dA us->(∀ a∈X,∃ o,h.get? a=some o)->P i v h h'->∃ y,vs[i]?=some y/\Rep B h' μ X y v
noncomputable def mQ(B:bw)(A:bY)(P:List bQ)(t:Expr)(Q:am->aO->Prop):List V->List bQ->aO->Prop:=fun vs μ s' =>
 ∀ I fp wr dA us Pp St h2 tk,CV B A t vs dA us I fp wr Pp St->St 0 h2->(∀ b o,s'.heap.get? b=some o->h2.get? b=some o)->Reps B s'.heap μ (μ++P) dA us->(∀ a∈wr,s'.heap.get? a=none)->(∀ a∈fp,a∉μ++P) ->
  Q (.ref I) { s' with heap:=h2,toks:=tk }
theorem Reps.get{h:ir}{μ X:List bQ} : ∀ {vs:List V} {us:List am} {i:Nat} {u:am},Reps B h μ X vs us->us[i]?=some u->∃ v,vs[i]?=some v/\Rep B h μ X v u
 | [],_,i,u,r,e=>by obtain rfl:=b8 r;simp at e
 | v::vs,_,i,u,r,e=>by
  replace r:=ba r;obtain⟨u0,r0,rfl,r1,r2⟩:=r;induction i using ZU with
  | zero=>simp at e;subst e;exact⟨v,rfl,r1⟩
  | succ i=>simp at e;obtain⟨v',e',r'⟩:=Reps.get r2 e;exact⟨v',by simpa using e',r'⟩
theorem Reps.append{h:ir}{μ X:List bQ} : ∀ {vs ws:List V} {us xs:List am},Reps B h μ X vs us->Reps B h μ X ws xs->Reps B h μ X (vs++ws) (us++xs)
 | [],_,_,_,r,r'=>by obtain rfl:=b8 r;exact r'
 | v::vs,_,_,_,r,r'=>by
  replace r:=ba r;obtain⟨u0,r0,rfl,r1,r2⟩:=r;show Exists _;exact⟨u0,_,rfl,r1,Reps.append r2 r'⟩
theorem Reps.split{h:ir}{μ X:List bQ} : ∀ {vs ws:List V} {zs:List am},Reps B h μ X (vs++ws) zs->∃ us xs,zs=us++xs/\Reps B h μ X vs us/\Reps B h μ X ws xs
 | [],_,zs,r=>⟨[],zs,rfl,z0,r⟩
 | v::vs,_,zs,r=>by
  replace r:=ba r;obtain⟨u0,r0,rfl,r1,r2⟩:=r;obtain⟨us,xs,rfl,h1,h2⟩:=Reps.split r2;exact⟨u0::us,xs,rfl,zC r1 h1,h2⟩
theorem iw(I:Inv B envs P μ O s)(h:s.heap.get? a=none):a∉μ++P:=fun m=>by
 obtain⟨o,e⟩:=I.dom a m;rw[h]at e;exact nn e
theorem src_list{A:bY}(ht:cM t=true)(hh:A.handled=none)(I:Inv B envs P μ O s)
  (na:a∉μ++P) (hl:s.heap.IsList a xs) (hr:Reps B s.heap μ (μ++P) l xs.toList) (H:mQ B A P t Q l μ s):wpAny (cr B.prog B.w) A (aas (.ref a)) Q E s:=by
 refine ae9 hl ?_;have hlt:a<s.heap.objs.size:=by obtain⟨_,e,_⟩:=hl;exact cR e
 have kp:∀ b o,s.heap.get? b=some o->(s.heap.push { cls:=.type "list_iterator",data:=.fields #[.ref a,.int 0 0] }).get? b=some o:=fun b o e=>ag _ e
 have hn:xs.size=l.length:=by have:=hr.length;simpa using this
 refine H s.heap.objs.size _ _ l xs.toList _ _ _ s.toks ⟨hn▸As ht hh s.heap.objs.size a (jr hlt) xs,fun i v h h' bV X r hX hv=>?_⟩ ⟨⟨_,ct _ rfl,rfl,rfl⟩,hl.push _⟩ kp hr (fun b hb=>?_) (fun b hb=>?_)
 ·exact r.get (by simpa using hv)
 ·rw[a8 hb];exact bp _
 ·rcases cn hb with rfl|hb
  ·exact gr I
  ·rw[a8 hb];exact na
theorem src_tuple{A:bY}(ht:cM t=true)(hh:A.handled=none)(I:Inv B envs P μ O s)
  (na:a∉μ++P) (hl:s.heap.IsTuple a xs) (hr:Reps B s.heap μ (μ++P) l xs.toList) (H:mQ B A P t Q l μ s):wpAny (cr B.prog B.w) A (aas (.ref a)) Q E s:=by
 refine Zw hl ?_;have hlt:a<s.heap.objs.size:=by obtain⟨_,e,_⟩:=hl;exact cR e
 have kp:∀ b o,s.heap.get? b=some o->(s.heap.push { cls:=.type "tuple_iterator",data:=.fields #[.ref a,.int 0 0] }).get? b=some o:=fun b o e=>ag _ e
 have hn:xs.size=l.length:=by have:=hr.length;simpa using this
 refine H s.heap.objs.size _ _ l xs.toList _ _ _ s.toks ⟨hn▸yy ht hh s.heap.objs.size a (jr hlt) xs,fun i v h h' bV X r hX hv=>?_⟩ ⟨⟨_,ct _ rfl,rfl,rfl⟩,hl.push _⟩ kp hr (fun b hb=>?_) (fun b hb=>?_)
 ·exact r.get (by simpa using hv)
 ·rw[a8 hb];exact bp _
 ·rcases cn hb with rfl|hb
  ·exact gr I
  ·rw[a8 hb];exact na
theorem Iq{A:bY}{l:List Nat}{u:BY}(ht:cM t=true)(hh:A.handled=none)(I:Inv B envs P μ O s)
  (H:mQ B A P t Q (l.map fun c=>.str [c]) μ s):wpAny (cr B.prog B.w) A (aas (.str (aB l) u)) Q E s:=by
 refine wpAny_pyIter_strU ?_;have kp:∀ b o,s.heap.get? b=some o->(s.heap.push { cls:=.type (aet (aB l)),data:=.fields #[.str (aB l) u,.int 0 0] }).get? b=some o:=fun b o e=>ag _ e
 have hn:(aB l).cps.size=(l.map fun c=>V.str [c]).length:=by simp
 refine H s.heap.objs.size _ _ [] [] _ _ _ s.toks ⟨hn▸CP ht hh s.heap.objs.size (aB l) u,fun i v h h' bV X r hX hv=>?_⟩ ⟨_,ct _ rfl,rfl,rfl⟩ kp z0 (fun b hb=>?_) (fun b hb=>?_)
 ·obtain⟨c,tk,hc,rfl⟩:=hv;exact⟨.str [c],by simp at hc ⊢;exact hc,zS⟩
 ·rw[a8 hb];exact bp _
 ·rw[a8 hb];exact gr I
theorem CW{A:bY}(ht:cM t=true)(hh:A.handled=none)(I:Inv B envs P μ O s)
  (R:Rep B s.heap μ (μ++P) v u) (hv:qV v=some l) (H:mQ B A P t Q l μ s):wpAny (cr B.prog B.w) A (aas u) Q E s:=by
 induction v using V.casesOn with
 | tup l' =>
  obtain rfl:=si hv;replace R:=iR R;obtain⟨a,xs,rfl,na,hl,hr⟩:=R;exact src_tuple ht hh I na hl.isTuple hr H
 | lst l' =>
  obtain rfl:=si hv;replace R:=ez R;obtain⟨a,xs,rfl,na,hl,hr⟩:=R;exact src_list ht hh I na hl hr H
 | str l' =>
  obtain rfl:=si hv;replace R:=c8 R;obtain⟨u,rfl⟩:=R;exact Iq ht hh I H
 | _=>exact nn hv
theorem rU:∀ (lo:Int) (n i:Nat),i<n->(bc lo n)[i]?=some (.int (lo+i))
 | _,0,_,h=>absurd h (aaw _)
 | lo,n+1,0,_=>congrArg (fun z=>some (V.int z)) (abl lo).symm
 | lo,n+1,i+1,h=>by
  show(bc (lo+1) n)[i]?=_;rw[rU (lo+1) n i (by exact Qd ‹_›)];congr 2;push_cast;exact QS
theorem mR:∀ (lo:Int) (n:Nat),(bc lo n).length=n
 | _,0=>rfl
 | lo,n+1=>congrArg ac2 (mR (lo+1) n)
theorem src_range{A:bY}{lo hi:Int}{t1 t2 t3:Nat}{hlo:-(2 ^ 31)<lo}{hlo':lo<2 ^ 31}{hhi:-(2 ^ 31)<hi}{hhi':hi<2 ^ 31}(ht:cM t=true)(hh:A.handled=none)(I:Inv B envs P μ O s)
  (H:mQ B A P t Q (bc lo (hi-lo).toNat) μ s):wpAny (cr B.prog B.w) A (aas (.ref s.heap.objs.size)) Q E { s with heap:=s.heap.push { cls:=.type "range",data:=.fields #[.int lo t1,.int hi t2,.int 1 t3] },toks:=tk }:=by
 have hr:IsRange (s.heap.push { cls:=.type "range",data:=.fields #[.int lo t1,.int hi t2,.int 1 t3] }) s.heap.objs.size lo hi 1 t1 t2 t3:=IsRange.new ..;refine aeT (s:={ s with heap:=s.heap.push { cls:=.type "range",data:=.fields #[.int lo t1,.int hi t2,.int 1 t3] },toks:=tk }) hr (small_one (by exact KW ‹_›) (by exact KU ‹_›) (by exact KW ‹_›) (by exact KU ‹_›)) ?_;have kp:∀ b o,s.heap.get? b=some o->((s.heap.push { cls:=.type "range",data:=.fields #[.int lo t1,.int hi t2,.int 1 t3] }).push { cls:=.type "range_iterator",data:=.fields #[rawInt lo,rawInt (Yu lo hi 1),rawInt 1] }).get? b=some o:=fun b o e=>ag _ (ag _ e)
 have hsz:(s.heap.push { cls:=.type "range",data:=.fields #[.int lo t1,.int hi t2,.int 1 t3] }).objs.size=s.heap.objs.size+1:=Yw ..;have hit:((s.heap.push { cls:=.type "range",data:=.fields #[.int lo t1,.int hi t2,.int 1 t3] }).push { cls:=.type "range_iterator",data:=.fields #[rawInt lo,rawInt (Yu lo hi 1),rawInt 1] }).get? (s.heap.objs.size+1)=some _:=hsz▸ct _ rfl;generalize(ku (Y9 _):s.heap.get? (s.heap.objs.size+1)=none)=yI;generalize((mR _ _).symm:(hi-lo).toNat=(bc lo (hi-lo).toNat).length)=hn;show Q (.ref (s.heap.push { cls:=.type "range",data:=.fields #[.int lo t1,.int hi t2,.int 1 t3] }).objs.size) _;rw[hsz];refine H (s.heap.objs.size+1) _ _ [] [] _ _ _ tk ⟨Eq.mp (congrArg (fun n=>Turns B.prog B.w A t (s.heap.objs.size+1) _ _ n _ _) hn) ((yz ht hh (s.heap.objs.size+1) lo 1 (hi-lo).toNat).bound'),fun i v h h' bV X r hX hv=>?_⟩ ?_ kp z0 (fun b hb=>?_) (fun b hb=>?_)
 ·obtain⟨CC,tk,rfl⟩:=hv;exact⟨_,rU lo _ i CC,by rw[Int.mul_one];exact zI⟩
 ·refine Eq.trans hit ?_;have e1:(lo+((0:Nat):Int)*1)=lo:=by exact PQ
  have e2:(((hi-lo).toNat:Nat):Int)-((0:Nat):Int)=Yu lo hi 1:=by rw[rangeSize_one];split<;>first|exact se ‹_›|exact sf ‹_›
  rw[e1,e2]
 ·rw[a8 hb];exact yI
 ·rw[a8 hb];exact iw I yI
theorem oz:∀ (i:Nat) (l:List V),(jf i l).length=l.length
 | _,[]=>rfl
 | i,v::vs=>congrArg ac2 (oz (i+1) vs)
theorem uB:∀ (j:Nat) (l:List V) (i:Nat) {v:V},l[i]?=some v->(jf j l)[i]?=some (.tup [.int ((j+i:Nat):Int),v])
 | _,[],i,_,h=>by simp at h
 | j,v::vs,0,_,h=>by obtain rfl:=si h;rfl
 | j,v::vs,i+1,_,h=>by
  show(jf (j+1) vs)[i]?=_;rw[uB (j+1) vs i h];rw[show j+1+i=j+(i+1)by exact PF]
theorem qf:∀ (l m:List V),(w8 l m).length=min l.length m.length
 | [],_=>(Nat.zero_min _).symm
 | _::_,[]=>rfl
 | a::as,b::bs=>(congrArg ac2 (qf as bs)).trans (Nat.succ_min_succ _ _).symm
theorem xe:∀ (l m:List V) (i:Nat) {x y:V},l[i]?=some x->m[i]?=some y->(w8 l m)[i]?=some (.tup [x,y])
 | [],_,i,_,_,h,_=>by simp at h
 | _::_,[],i,_,_,_,h=>by simp at h
 | a::as,b::bs,0,_,_,h,h'=>by obtain rfl:=si h;obtain rfl:=si h';rfl
 | a::as,b::bs,i+1,_,_,h,h'=>xe as bs i h h'
theorem xf{h:ir}{T:bQ}{x:am}{a b:V}(hX:∀ a∈X,∃ o,h.get? a=some o)(hn:h.get? T=none)(hT:PlainT h' T #[x,y])(r1:Rep B h' μ X a x)(r2:Rep B h' μ X b y):Rep B h' μ X (.tup [a,b]) (.ref T):=by
 refine CA (fun m=>?_) hT ?_
 ·obtain⟨o,e⟩:=hX T m;rw[hn]at e;exact nn e
 ·show Exists _;exact⟨x,[y],rfl,r1,y,[],rfl,r2,rfl⟩
theorem uC{a:Nat}(h:a<n):a≠n+1:=by exact P8 ‹_›
theorem Lf{a1 a2:Nat}(h1:a1<n)(h2:a2<n):yA (n+4) (n+2) (n+3) n (n+1) [n,a1] [n+1,a2] :=
 ⟨(fun h=>by have h':(n+2:Nat)=n+4:=h;exact UB ‹_›),(fun h=>by have h':(n+3:Nat)=n+4:=h;exact KX ‹_›),(fun h=>by have h':(n+2:Nat)=n+3:=h;exact KX ‹_›),(aW),(aW),(by intro h;rcases cn h with h|h;(have h':(n+4:Nat)=n+0:=h;exact Uv ‹_›);(have h':(n+4:Nat)=a1:=a8 h;lia)),(by intro h;rcases cn h with h|h;(have h':(n+4:Nat)=n+1:=h;exact PT ‹_›);(have h':(n+4:Nat)=a2:=a8 h;exact Qx ‹_› ‹_›)),(by intro h;rcases cn h with h|h;(have h':(n+3:Nat)=n+0:=h;exact PT ‹_›);(have h':(n+3:Nat)=a1:=a8 h;lia)),(by intro h;rcases cn h with h|h;(have h':(n+3:Nat)=n+1:=h;exact PS ‹_›);(have h':(n+3:Nat)=a2:=a8 h;exact Qw ‹_› ‹_›)),(by intro h;rcases cn h with h|h;(have h':(n+2:Nat)=n+0:=h;exact PS ‹_›);(have h':(n+2:Nat)=a1:=a8 h;lia)),(by intro h;rcases cn h with h|h;(have h':(n+2:Nat)=n+1:=h;exact PR ‹_›);(have h':(n+2:Nat)=a2:=a8 h;exact Qv ‹_› ‹_›)),(by intro h;rcases cn h with h|h;(have h':(n+0:Nat)=n+1:=h;exact KX ‹_›);(have h':(n+0:Nat)=a2:=a8 h;exact Qu ‹_› ‹_›)),(by intro h;rcases cn h with h|h;(have h':(n+1:Nat)=n+0:=h;exact PR ‹_›);(have h':(n+1:Nat)=a1:=a8 h;lia))⟩
theorem FR{A:bY}{pos:YZ}(hh:A.handled=none)(I:Inv B envs P μ O s)
  (na:a∉μ++P) (hl:s.heap.IsTuple a xs\/s.heap.IsList a xs) (hr:Reps B s.heap μ (μ++P) l xs.toList) (H:mQ B A P (.Tuple elts ke pos) Q (jf 0 l) μ s) :
  wpAny (cr B.prog B.w) A (call (.type "enumerate") [.ref a] []) (fun x s₁=>wpAny (cr B.prog B.w) A (aas x) Q E s₁) E s:=by
 have hlt:a<s.heap.objs.size:=by rcases hl with⟨_,e,_⟩|⟨_,e,_⟩<;>exact cR e
 have hn:xs.size=(jf 0 l).length:=by have:=hr.length;rw[oz];simpa using this
 generalize(ku (Y9 _):s.heap.get? (s.heap.objs.size+1)=none)=yI;have key:∀ (St:Nat->ir->Prop) (h':ir),adX B.prog B.w A.in1 s.heap.objs.size [s.heap.objs.size,a] xs.size (fun i v=>xs[i]?=some v) St->(∀ i h,St i h->∀ b∈[s.heap.objs.size,a],∃ o,h.get? b=some o) ->
   IsEnum h' (s.heap.objs.size+1) s.heap.objs.size 0 .none->St 0 h'->(∀ b o,s.heap.get? b=some o->h'.get? b=some o)->wpAny (cr B.prog B.w) A (aas (.ref (s.heap.objs.size+1))) Q E { s with heap:=h' }:=by
  intro St h' D live he iu kp;have W:=Au (elts:=elts) (ke:=ke) (pos:=pos) D (e:=s.heap.objs.size+1) (acy _) (by
   intro hm;rcases cn hm with e|hm
   ·exact acy _ e
   ·exact uC hlt (a8 hm).symm) (by simp) live
  refine W.self 0 _ _ _ ⟨⟨_,he⟩,iu⟩ ?_;refine H (s.heap.objs.size+1) _ _ l xs.toList _ _ _ s.toks ⟨hn▸W,fun i v h wv bV X r hX hv=>?_⟩ ⟨⟨_,he⟩,iu⟩ kp hr (fun b hb=>?_) (fun b hb=>?_)
  ·obtain⟨T,rS,rfl,⟨t,x,hx,rfl⟩,N1,hT⟩:=hv;obtain⟨y,hy,ry⟩:=r.get (u:=x) (i:=i) (by simpa using hx);refine⟨_,uB 0 l i hy,?_⟩;rw[show 0+i=i by exact Uq];exact xf hX N1 hT zI ry
  ·rcases cn hb with rfl|hb
   ·exact yI
   ·rw[a8 hb];exact bp _
  ·rcases cn hb with rfl|hb
   ·exact iw I yI
   ·rcases cn hb with rfl|hb
    ·exact gr I
    ·rw[a8 hb];exact na
 have FS:A.in1.handled=none:=hh;rcases hl with hl|hl
 ·refine my hl fun h' he hit _ kp=>?_;exact key _ h' (lQ FS s.heap.objs.size a (jr hlt) xs) (fun i h st b hb=>by
   rcases cn hb with rfl|hb
   ·obtain⟨o,ho,_⟩:=st.1;exact⟨o,ho⟩
   ·rw[a8 hb];obtain⟨o,ho,_⟩:=st.2;exact⟨o,ho⟩) he ⟨hit,hl.at fun o e=>kp _ o e⟩ kp
 ·refine call_enumerate_list hl fun h' he hit _ kp=>?_;exact key _ h' (afF FS s.heap.objs.size a (jr hlt) xs) (fun i h st b hb=>by
   rcases cn hb with rfl|hb
   ·obtain⟨o,ho,_⟩:=st.1;exact⟨o,ho⟩
   ·rw[a8 hb];obtain⟨o,ho,_⟩:=st.2;exact⟨o,ho⟩) he ⟨hit,hl.at fun o e=>kp _ o e⟩ kp
theorem Ir{A:bY}{pos:YZ}{l1 l2:List V}{a1 a2:bQ}(hh:A.handled=none)(I:Inv B envs P μ O s)
  (UW:a1∉μ++P) (N2:a2∉μ++P) (ur:s.heap.IsTuple a1 xs) (j6:s.heap.IsTuple a2 ys\/s.heap.IsList a2 ys) (N3:Reps B s.heap μ (μ++P) l1 xs.toList) (FT:Reps B s.heap μ (μ++P) l2 ys.toList) (H:mQ B A P (.Tuple elts ke pos) Q (w8 l1 l2) μ s) :
  wpAny (cr B.prog B.w) A (call (.type "zip") [.ref a1,.ref a2] []) (fun x s₁=>wpAny (cr B.prog B.w) A (aas x) Q E s₁) E s:=by
 have Nf:a1<s.heap.objs.size:=by obtain⟨_,e,_⟩:=ur;exact cR e
 have AC:a2<s.heap.objs.size:=by rcases j6 with⟨_,e,_⟩|⟨_,e,_⟩<;>exact cR e
 have hn:min xs.size ys.size=(w8 l1 l2).length:=by have e1:=N3.length;have e2:=FT.length;rw[qf];simp at e1 e2;rw[e1,e2]
 have fr:∀ j,s.heap.get? (s.heap.objs.size+j)=none:=fun j=>ku (ef _ _)
 have FS:A.in1.handled=none:=hh;have key:∀ (oZ:Nat->ir->Prop) (h':ir),adX B.prog B.w A.in1 (s.heap.objs.size+1) [s.heap.objs.size+1,a2] ys.size (fun i v=>ys[i]?=some v) oZ->(∀ i h,oZ i h->∀ b∈[s.heap.objs.size+1,a2],∃ o,h.get? b=some o) ->
   ace h' (s.heap.objs.size+4) (s.heap.objs.size+2) (s.heap.objs.size+3) .none->Z7 h' (s.heap.objs.size+2) (.ref s.heap.objs.size) (.ref (s.heap.objs.size+1))->Z7 h' (s.heap.objs.size+3) .none .none ->
   h'.IsTupleIter s.heap.objs.size a1 0->oZ 0 h'->(∀ b o,s.heap.get? b=some o->h'.get? b=some o)->wpAny (cr B.prog B.w) A (aas (.ref (s.heap.objs.size+4))) Q E { s with heap:=h' }:=by
  intro oZ h' D2 N4 hz og o0 SY S2 kp;have D1:=lQ (prog:=B.prog) (w:=B.w) FS s.heap.objs.size a1 (jr Nf) xs;have W:=CT (elts:=elts) (ke:=ke) (pos:=pos) (z:=s.heap.objs.size+4) (TI:=s.heap.objs.size+2) (TO:=s.heap.objs.size+3) D1 D2
   (Lf Nf AC)
   (fun i h st b hb=>by
    rcases cn hb with rfl|hb
    ·obtain⟨o,ho,_⟩:=st.1;exact⟨o,ho⟩
    ·rw[a8 hb];obtain⟨o,ho,_⟩:=st.2;exact⟨o,ho⟩) N4
  have st0:ace h' (s.heap.objs.size+4) (s.heap.objs.size+2) (s.heap.objs.size+3) .none/\Z7 h' (s.heap.objs.size+2) (.ref s.heap.objs.size) (.ref (s.heap.objs.size+1))/\(∃ a b,Z7 h' (s.heap.objs.size+3) a b)/\(h'.IsTupleIter s.heap.objs.size a1 0/\h'.IsTuple a1 xs)/\oZ 0 h' :=
   ⟨hz,og,⟨_,_,o0⟩,⟨SY,ur.at fun o e=>kp _ o e⟩,S2⟩
  refine W.self 0 _ _ _ st0 ?_;refine H (s.heap.objs.size+4) _ _ (l1++l2) (xs.toList++ys.toList) _ _ _ s.toks ⟨hn▸W,fun i v h wv bV X r hX hv=>?_⟩ st0 kp (N3.append FT) (fun b hb=>?_) (fun b hb=>?_)
  ·obtain⟨T,rS,rfl,⟨x,y,hx,hy,rfl⟩,N1,hT⟩:=hv;obtain⟨us,ws,e,r1,r2⟩:=r.split;have ck:us.length=xs.toList.length:=r1.length.trans N3.length.symm;obtain rfl:=((aeF e.symm ck)).1;obtain rfl:=((aeF e.symm ck)).2;obtain⟨vx,UX,rx⟩:=r1.get (u:=x) (i:=i) (by simpa using hx);obtain⟨vy,UY,ry⟩:=r2.get (u:=y) (i:=i) (by simpa using hy);exact⟨_,xe l1 l2 i UX UY,xf hX N1 hT rx ry⟩
  ·simp at hb;rcases hb with rfl|rfl|rfl|rfl
   ·exact fr 4
   ·exact fr 3
   ·exact fr 0
   ·exact fr 1
  ·simp at hb;rcases hb with rfl|rfl|rfl|rfl|rfl|rfl|rfl
   ·exact iw I (fr 4)
   ·exact iw I (fr 2)
   ·exact iw I (fr 3)
   ·exact gr I
   ·exact UW
   ·exact iw I (fr 1)
   ·exact N2
 rcases j6 with j6|j6
 ·refine pZ (Pre:=fun h=>h.IsTuple a1 xs/\h.IsTuple a2 ys) (by
   have:=wq a1 a2 xs ys;simpa only[and_assoc]using this) ⟨ur,j6⟩ fun h' hz og o0 g1 g2 kp=>?_
  exact key _ h' (lQ FS (s.heap.objs.size+1) a2 (uC AC) ys) (fun i h st b hb=>by
   rcases cn hb with rfl|hb
   ·obtain⟨o,ho,_⟩:=st.1;exact⟨o,ho⟩
   ·rw[a8 hb];obtain⟨o,ho,_⟩:=st.2;exact⟨o,ho⟩) hz og o0 ⟨_,g1,rfl,rfl⟩ ⟨⟨_,g2,rfl,rfl⟩,j6.at fun o e=>kp _ o e⟩ kp
 ·refine pZ (Pre:=fun h=>h.IsTuple a1 xs/\h.IsList a2 ys) (by
   have:=wu a1 a2 xs ys;simpa only[and_assoc]using this) ⟨ur,j6⟩ fun h' hz og o0 g1 g2 kp=>?_
  exact key _ h' (afF FS (s.heap.objs.size+1) a2 (uC AC) ys) (fun i h st b hb=>by
   rcases cn hb with rfl|hb
   ·obtain⟨o,ho,_⟩:=st.1;exact⟨o,ho⟩
   ·rw[a8 hb];obtain⟨o,ho,_⟩:=st.2;exact⟨o,ho⟩) hz og o0 ⟨_,g1,rfl,rfl⟩ ⟨⟨_,g2,rfl,rfl⟩,j6.at fun o e=>kp _ o e⟩ kp
theorem AD{A:bY}{it:Expr}(ih:∀ e,aY B T k n e)(ht:cM t=true)(S:Sit k A envs env P)(I:Inv B envs P μ O s)(r:SR B env P μ ρ s.heap)
  (H:Aft B envs P μ [] s.heap ((ev T n env.scope it ρ O).bind fun a=>(ah (qV a.1)).bind fun l=>.ok (l,a.2)) (mQ B A P t Q) E):wpAny (cr B.prog B.w) A (eval it env) (fun x s₁=>wpAny (cr B.prog B.w) A (aas x) Q E s₁) E s:=by
 refine ih it S I r (H.bind fun v aS aT s1 Z f1 I1 g1 H1 u1 R1=>?_);obtain⟨l,hl,H1⟩:=H1.opt;exact CW ht S.handled I1 R1 hl (H1.here I1)
theorem mT{f:Expr->U->R (V×U)} : ∀ {es:List Expr} {O ar:U} {vs:List V},a9 f es O= .ok (vs,ar)->vs.length=es.length
 | [],_,_,_,h=>by cases h;rfl
 | e::es,O,ar,vs,h=>by
  have h:((f e O).bind fun a=>(a9 f es a.2).bind fun r=>R.ok (a.1::r.1,r.2))= .ok (vs,ar):=h;induction h1:f e O using R.casesOn with
  | ok a =>
   rw[h1]at h;induction h2:a9 f es a.2 using R.casesOn with
   | ok b =>
    have h':((a9 f es a.2).bind fun r=>R.ok (a.1::r.1,r.2))=R.ok (vs,ar):=h;rw[h2]at h';cases h'
    have:=mT (vs:=b.1) (ar:=b.2) h2;simp[this]
   | exc row=>have h':((a9 f es a.2).bind fun r=>R.ok (a.1::r.1,r.2))=R.ok (vs,ar):=h;rw[h2]at h';cases h'
   | stuck=>have h':((a9 f es a.2).bind fun r=>R.ok (a.1::r.1,r.2))=R.ok (vs,ar):=h;rw[h2]at h';cases h'
  | exc row=>rw[h1]at h;cases h
  | stuck=>rw[h1]at h;cases h
theorem lR{A:bY}{ty:String}{pos:YZ}{f:List V×U->R (α×U)}{K:α->List bQ->aO->Prop}(BO:aP B)(ih:∀ e,aY B T k n e)
  (hg:bd env.scope ρ g=true) (hc:noStar args=true) (hb:B.mg g=none/\B.mb g=some (.type ty)) (S:Sit k A envs env P) (I:Inv B envs P μ O s) (r:SR B env P μ ρ s.heap)
  (H:Aft B envs P μ [] s.heap ((a9 (fun e O=>ev T n env.scope e ρ O) args O).bind f) K E)
  (q:∀ vs us aS aT s1,Inv B envs P (μ++aT) aS s1->Reps B s1.heap (μ++aT) ((μ++aT)++P) vs us->Aft B envs P (μ++aT) [] s1.heap (f (vs,aS)) K E->(∀ a∈aT,s.heap.get? a=none)->Go μ [] s.heap s1.heap->vs.length=args.length->wpAny (cr B.prog B.w) A (call (.type ty) us []) Q E s1) :
  wpAny (cr B.prog B.w) A (eval (.Call (.Name g p) args [] pos) env) Q E s:=by
 obtain⟨hg,hd⟩:=bM hg;obtain⟨_,hg⟩:=bM hg;have hl:env.scope.names.lookup g=some .globalImplicit:=by simpa using hg
 have hd:(g==ac "__debug__")=false:=by simpa using hd
 show wpAny _ _ (do callWith pos (<- eval (.Name g p) env) [] (Yx pos (j8 args env)) []) Q E s;have hp:(Yx pos (j8 args env)).any (·.1)=false:=by rw[aR hc];exact et
 refine aa (iG BO S.kind S.glob S.blt I hl hd hb.1 hb.2 ?_);refine cj hp (.inr rfl) (gX hc (fz ih S I r (Aft.bind H fun vs aS aT s1 hr f1 I1 g1 H1 us R1=>?_)));exact⟨fun Q' q=>ae q,q vs us aS aT s1 I1 R1 H1 f1 g1 (mT hr)⟩
theorem lS{h:ir}(r:Reps B h μ X [v] us):∃ u,us=[u]/\Rep B h μ X v u:=by
 replace r:=ba r;obtain⟨u,_,rfl,r1,rfl⟩:=r;exact⟨u,rfl,r1⟩
theorem uD{h:ir}{w:V}(r:Reps B h μ X [v,w] us):∃ u x,us=[u,x]/\Rep B h μ X v u/\Rep B h μ X w x:=by
 replace r:=ba r;obtain⟨u,_,rfl,r1,x,_,rfl,r2,rfl⟩:=r;exact⟨u,x,rfl,r1,r2⟩
theorem uE{h:ir}(r:Rep B h μ X (.tup l) u):∃ a xs,u= .ref a/\a∉X/\h.IsTuple a xs/\Reps B h μ X l xs.toList:=by
 replace r:=iR r;refine ab fun Z gG=>?_;obtain⟨a,xs,h1,h2,h3,h4⟩:=r;refine gG ?_;clear gG
 exact⟨a,xs,h1,h2,h3.isTuple,h4⟩
theorem AE{h:ir}(r:Rep B h μ X (.lst l) u):∃ a xs,u= .ref a/\a∉X/\h.IsList a xs/\Reps B h μ X l xs.toList:=r
theorem uF{h:ir}{i:Int}(r:Rep B h μ X (.int i) u):∃ t,u= .int i t:=r
theorem AF{h:ir}{l:List Nat}(r:Rep B h μ X (.str l) u):∃ t,u= .str (aB l) t:=r
theorem uG{j:Int}(h:dO v=some j):v= .int j:=by
 induction v using V.casesOn with
 | int i=>rw[si h]
 | _=>exact nn h
theorem uH{j:List Nat}(h:j9 v=some j):v= .str j:=by
 induction v using V.casesOn with
 | str i=>rw[si h]
 | _=>exact nn h
theorem CX{j:List V}(h:M3 v=some j):v= .lst j:=by
 induction v using V.casesOn with
 | lst i=>rw[si h]
 | _=>exact nn h
theorem gB{l:List α}{x:α}(h:fX l=some x):l=[x]:=by
 induction l using cz with
 | nil=>exact nn h
 | cons y l=>induction l using cz with
  | nil=>exact si h▸rfl
  | cons z l=>exact nn h
theorem o8{l:List α}{x:α×α}(h:pM l=some x):l=[x.1,x.2]:=by
 induction l using cz with
 | nil=>exact nn h
 | cons y l =>
  obtain⟨z,h1,rfl⟩:=mD h;rw[gB h1]
theorem mU{e:Expr}(h:ik e=some x):∃ p,e= .Name x p:=by
 induction e using ge with
 | Name y p=>exact⟨p,si h▸rfl⟩
 | _=>exact nn h
theorem kb{e:Expr}{a:Expr×List Expr×YZ}(h:im e=some a):e= .Call a.1 a.2.1 [] a.2.2:=by
 induction e using ge with
 | Call f args pN q=>induction pN using cz with
  | nil=>exact si h▸rfl
  | cons k ks=>exact nn h
 | _=>exact nn h
theorem AG{e:Expr}{a:fw×List Expr}(h:lL e=some a):∃ p pos,e= .Call (.Name a.1 p) a.2 [] pos:=by
 obtain⟨b,hb,h1⟩:=ib h;obtain⟨g,hg,rfl⟩:=mD h1;obtain⟨p,hp⟩:=mU hg;exact⟨p,b.2.2,by rw[kb hb,hp]⟩
theorem d4{h:ir}{i:Int}(e:dO v=some i)(r:Rep B h μ X v u):∃ t,u= .int i t:=by
 induction v using V.casesOn with
 | int j=>cases si e;exact uF r
 | _=>exact nn e
theorem FU{h:ir}(e:M4 v=some l)(r:Rep B h μ X v u):∃ a xs,u= .ref a/\a∉X/\h.IsTuple a xs/\Reps B h μ X l xs.toList:=by
 induction v using V.casesOn with
 | tup j=>cases si e;exact uE r
 | _=>exact nn e
theorem xg{h:ir}(e:HH v=some l)(r:Rep B h μ X v u):∃ a xs,u= .ref a/\a∉X/\(h.IsTuple a xs\/h.IsList a xs)/\Reps B h μ X l xs.toList:=by
 induction v using V.casesOn with
 | tup j=>cases si e;obtain⟨a,xs,h1,h2,h3,h4⟩:=uE r;exact⟨a,xs,h1,h2,.inl h3,h4⟩
 | lst j=>cases si e;obtain⟨a,xs,h1,h2,h3,h4⟩:=AE r;exact⟨a,xs,h1,h2,.inr h3,h4⟩
 | _=>exact nn e
theorem AH{h:ir}(e:fX vs=some v)(r:Reps B h μ X vs us):∃ u,us=[u]/\Rep B h μ X v u:=by rw[gB e]at r;exact lS r
theorem uI{h:ir}{v:V×V}(e:pM vs=some v)(r:Reps B h μ X vs us):∃ u x,us=[u,x]/\Rep B h μ X v.1 u/\Rep B h μ X v.2 x:=by rw[o8 e]at r;exact uD r
theorem qg{x:V×V}(h:nN x=some l):∃ lo hi,dO x.1=some lo/\dO x.2=some hi/\(lo<2 ^ 31/\-(2 ^ 31)<lo/\hi<2 ^ 31/\-(2 ^ 31)<hi)/\bc lo (hi-lo).toNat=l:=by
 obtain⟨lo,h1,h⟩:=ib h;obtain⟨hi,h2,h⟩:=ib h;exact⟨lo,hi,h1,h2,ifs h⟩
theorem AI{A:bY}(ht:cM t=true)(hh:A.handled=none)(I:Inv B envs P μ O s)(R1:Reps B s.heap μ (μ++P) vs us)(e:kJ vs=some l)
  (H:mQ B A P t Q l μ s):wpAny (cr B.prog B.w) A (call (.type "range") us []) (fun x s₁=>wpAny (cr B.prog B.w) A (aas x) Q E s₁) E s:=by
 unfold kJ at e;induction h1:fX vs using aL with
 | some v =>
  rw[h1]at e;obtain⟨hi,e1,e⟩:=ib e;generalize((ifs e)).1=hb;obtain rfl:=((ifs e)).2;obtain⟨u,rfl,Ra⟩:=AH h1 R1;obtain⟨tk,rfl⟩:=d4 e1 Ra;refine call_range_1 ?_;refine src_range (lo:=0) (hlo:=by decide) (hlo':=by decide) (hhi:=hb.2) (hhi':=hb.1) ht hh I ?_;rw[show hi-0=hi by exact PQ];exact H
 | none =>
  rw[h1]at e;obtain⟨x,h2,e⟩:=ib e;obtain⟨lo,hi,e1,e2,hb,rfl⟩:=qg e;obtain⟨u,x,rfl,Ra,Rb⟩:=uI h2 R1;obtain⟨tk,rfl⟩:=d4 e1 Ra;obtain⟨AJ,rfl⟩:=d4 e2 Rb;exact call_range_2 (src_range (hlo:=hb.2.1) (hlo':=hb.1) (hhi:=hb.2.2.2) (hhi':=hb.2.2.1) ht hh I H)
theorem kK(h:eB t=true):∃ es k p,t= .Tuple es k p:=by
 induction t using ge with
 | Tuple es k p=>exact⟨es,k,p,rfl⟩
 | _=>exact nomatch h
theorem FV{A:bY}{pos:YZ}(BO:aP B)(ih:∀ e,aY B T k n e)(ht:cM t=true)(S:Sit k A envs env P)(I:Inv B envs P μ O s)(r:SR B env P μ ρ s.heap)
  (H:Aft B envs P μ [] s.heap (pO (fun e O=>ev T n env.scope e ρ O) (bd env.scope ρ) (eB t) (.Call (.Name g p) args [] pos) O (some (g,args))) (mQ B A P t Q) E) :
  wpAny (cr B.prog B.w) A (eval (.Call (.Name g p) args [] pos) env) (fun x s₁=>wpAny (cr B.prog B.w) A (aas x) Q E s₁) E s:=by
 dsimp only[pO]at H;by_cases h1:g=ac "range"/\bd env.scope ρ g=true
 ·rw[if_pos h1]at H;obtain⟨FW,H0⟩:=Aft.ite H;obtain⟨rfl,hg⟩:=h1;refine lR BO ih hg (bM FW).1 BO.rng S I r H0 fun vs us aS aT s1 I1 R1 H1 Z Z Z=>?_;obtain⟨l,hl,H1⟩:=Aft.opt H1;exact AI ht S.handled I1 R1 hl (Aft.here H1 I1)
 rw[if_neg h1]at H;by_cases h2:g=ac "enumerate"/\bd env.scope ρ g=true
 ·rw[if_pos h2]at H;obtain⟨FW,H0⟩:=Aft.ite H;obtain⟨rfl,hg⟩:=h2;obtain⟨CY,Iu⟩:=bM FW;obtain⟨elts,ke,pp,rfl⟩:=kK Iu;refine lR BO ih hg (bM CY).1 BO.enm S I r H0 fun vs us aS aT s1 I1 R1 H1 Z Z Z=>?_;obtain⟨l,hl,H1⟩:=Aft.opt H1;obtain⟨v,e1,e2⟩:=ib hl;obtain⟨u,rfl,Ra⟩:=AH e1 R1;obtain⟨a,xs,rfl,na,hl,hr⟩:=xg e2 Ra;exact FR S.handled I1 na hl hr (Aft.here H1 I1)
 rw[if_neg h2]at H;by_cases h3:g=ac "zip"/\bd env.scope ρ g=true
 ·rw[if_pos h3]at H;obtain⟨FW,H0⟩:=Aft.ite H;obtain⟨rfl,hg⟩:=h3;obtain⟨CY,Iu⟩:=bM FW;obtain⟨elts,ke,pp,rfl⟩:=kK Iu;refine lR BO ih hg (bM CY).1 BO.zp S I r H0 fun vs us aS aT s1 I1 R1 H1 Z Z Z=>?_;obtain⟨l,hl,H1⟩:=Aft.opt H1;obtain⟨v,e1,e2⟩:=ib hl;obtain⟨l1,e3,e4⟩:=ib e2;obtain⟨l2,e5,rfl⟩:=mD e4;obtain⟨u,x,rfl,Ra,Rb⟩:=uI e1 R1;obtain⟨a,xs,rfl,na,hl,hr⟩:=FU e3 Ra;obtain⟨a2,ys,rfl,N2,j6,FT⟩:=xg e5 Rb;exact Ir S.handled I1 na N2 hl j6 hr FT (Aft.here H1 I1)
 rw[if_neg h3]at H;exact AD ih ht S I r H
theorem E3{A:bY}{it:Expr}(BO:aP B)(ih:∀ e,aY B T k n e)(ht:cM t=true)(S:Sit k A envs env P)(I:Inv B envs P μ O s)(r:SR B env P μ ρ s.heap)
  (H:Aft B envs P μ [] s.heap (dX (fun e O=>ev T n env.scope e ρ O) (bd env.scope ρ) (eB t) it O) (mQ B A P t Q) E) :
  wpAny (cr B.prog B.w) A (eval it env) (fun x s₁=>wpAny (cr B.prog B.w) A (aas x) Q E s₁) E s:=by
 unfold dX at H;induction h:lL it using aL with
 | none=>rw[h]at H;exact AD ih ht S I r H
 | some a =>
  rw[h]at H;obtain⟨p,pos,rfl⟩:=AG h;exact FV BO ih ht S I r H
theorem AK{f:Expr->U->R (V×U)}{pP:fw->Bool}{tup:Bool}{it:Expr}(hf:∀ es q p O,f (.Set es q p) O= .stuck)(h:dX f pP tup it O≠.stuck):∀ x,foldedSetIterable it env x=pure x:=by
 intro x;induction it using ge with
 | Set es q p =>
  exfalso;apply h;show(f (.Set es q p) O).bind _=_;rw[hf];rfl
 | _=>rfl
theorem Inv.drop{W:List bQ}(x:Inv B envs (P++W) μ O s)(f:ie P envs)(hPW:∀ a∈W,a∉P)(hk:∀ b o,b∉W->s.heap.get? b=some o->h'.get? b=some o):Inv B envs P μ O { s with heap:=h',toks:=tk } where
 stays:=fun b o e=>hk b o (fun m=>by rw[x.new b (aq _ (aq _ m))]at e;exact nn e) (x.stays b o e)
 gens:=x.gens
 os:=x.os
 new:=(x.less f).new
 dom:=fun a m=>by
  obtain⟨o,e⟩:=(x.less f).dom a m;refine⟨o,hk a o (fun q=>?_) e⟩;rcases bU m with z|z
  ·exact x.apart a z (aq _ q)
  ·exact hPW a q z
 nodup:=x.nodup
 apart:=(x.less f).apart
 len:=x.len
 cells:=fun i c a h1 h2=>(x.cells i c a h1 h2).move (fun b o e m=>hk b o (fun q=>m (aq _ (aq _ q))) e)
  (fun o e=>hk a o (fun q=>x.apart a (fU h2) (aq _ q)) e) (fun _ _ e=>e) fA
 frs:=fun e he=>by
  obtain⟨iV,L,h1,h2,o,es,n,ho,hd⟩:=(x.less f).frs e he;exact⟨iV,L,h1,h2,o,es,n,hk L o (fun q=>hPW L q h2) ho,hd⟩
theorem Reps.drop{h:ir}{W:List bQ}(r:Reps B h μ (μ++(P++W)) vs us)(hk:∀ b o,b∉W->h.get? b=some o->h'.get? b=some o):Reps B h' μ (μ++P) vs us :=
 Reps.move vs r (fun b o e m=>hk b o (fun q=>m (aq _ (aq _ q))) e) (fun _ _ e=>e) fA
theorem Exc.letgo{W Y:List bQ}{C:bQ}{oC:Obj}(x:Exc B envs (P++W) (μ++ν) [] aF e row s)(nt:gz e s.heap)(f:ie P envs)(g:Go μ Y h₀ aF)(hν:∀ a∈ν,h₀.get? a=none)
  (UZ:aF.get? C=some oC) (AL:h₀.get? C=none) (U0:B.H.get? C=none) (hCf:NF envs C) {h':ir} (hs:fq C s.heap h'):Exc B envs P μ Y h₀ e row { s with heap:=h' }/\gz e h':=by
 have kp:∀ b o,s.heap.get? b=some o->b≠C->h'.get? b=some o:=fun b o e' hb=>hs.extBut b o hb e'
 have ne:∀ b,Priv B envs aF b->b≠C:=fun b p q=>by have:=p.new;rw[q,UZ]at this;exact oQ this
 obtain⟨w,z⟩:=x.at_;obtain⟨w',t,n⟩:=nt;generalize((kT z n)).1=ea;generalize(((kT z n)).2).2=hp;exact⟨(x.outer f g hν nofun).post (W:=[C]) (fun b o h m=>⟨o.slots,kp b o h fun q=>m (q▸aW),fun _=>rfl⟩) (be ⟨⟨AL,U0,hCf⟩,nofun⟩)
  ⟨w,z.via (fun _=>g.none) (fun _ h=>h) fun a o p e=>⟨o.slots,kp a o e (ne a p),rfl⟩⟩,w',t,{ n with obj:=kp _ _ n.obj (ea▸ne _ z.own),tb:={ n.tb with obj:=kp _ _ n.tb.obj (ne _ hp) } }⟩
noncomputable def kZ(prog:aci)(w:aaZ)(A:bY)(elt target:Expr)(ifs:List Expr)(acc:am)(env:YY)(R:abf->aO->Prop)(J:aO->Prop)(v:am)(s:aO):Prop :=
 wpAny (cr prog w) A (aaj target env v) (fun _ iU =>
  wpAny (cr prog w) A (forIn ifs true fun c r=>if r=true then do let ok<-ad3 c env (eval c env);pure (Y0 ok)else pure (Y0 r)) (fun ok k4 =>
   if ok=true then wpAny (cr prog w) A (eval elt env) (fun x Ng =>
    wpAny (cr prog w) A (call (.builtin "list.append") [acc,x]) (fun _ E4=>J E4) (notedBy (cr prog w) A env fun e s'=>R (.error e) s') Ng) (notedBy (cr prog w) A env fun e s'=>R (.error e) s') k4
   else J k4) (notedBy (cr prog w) A env fun e s'=>R (.error e) s') iU) (notedBy (cr prog w) A env fun e s'=>R (.error e) s') s
theorem CZ{A:bY}{ifs:List Expr}{pos:YZ}{it acc:am}{R:abf->aO->Prop}(I:Nat->aO->Prop)
  (turn:∀ n s,I n s->wpAny (cr prog w) A (Z4 it) (fun r s₁=>match r with
   | none=>R (.ok .next) s₁
   | some v=>wpAny (cr prog w) A (Zb target it v) (fun _ yJ=>kZ prog w A elt target ifs acc env R (fun E4=>∃ m,m<n/\I m E4) v yJ) (notedBy (cr prog w) A env fun e s'=>R (.error e) s') s₁) (notedBy (cr prog w) A env fun e s'=>R (.error e) s') s)
  (n:Nat) {s:aO} (h:I n s):codeAny (cr prog w) A (.compLoop (.ListComp elt [⟨target,iter,ifs,0⟩] scope pos) 0 it acc env) R s:=by
 refine codeAny_loop rfl I (fun n s hI=>?_) n h;show wpAny _ A ((compTurn (.ListComp elt [⟨target,iter,ifs,0⟩] scope pos) 0 it acc env).onRaise (fun x=>do adQ x env;theTreesLotGoes x)) _ _ s;refine wpAny_noted ?_;rw[compTurn_list];refine aa (Ye (aa (Yj (turn n s hI) (fun r s₁ aF=>?_) fun _ _ h'=>h')));induction r using aL with
 | none=>exact ae aF
 | some v =>
  refine aa (Yj aF (fun _ yJ Iv=>?_) fun _ _ h'=>h');unfold kZ at Iv;refine aa (Yj Iv (fun _ iU bi=>aa (Yj bi (fun ok k4 eJ=>?_) fun _ _ h'=>h')) fun _ _ h'=>h');induction ok using iN with
  | false=>exact ae ⟨rfl,eJ⟩
  | true =>
   exact aa (aa (Yj eJ (fun x Ng jH=>aa (Yj jH (fun _ E4 gY=>ae (ae ⟨rfl,gY⟩)) fun _ _ h'=>h')) fun _ _ h'=>h'))
theorem R.bind_assoc{x:R α}{f:α->R β}{g:β->R γ} : (x.bind f).bind g=x.bind fun a=>(f a).bind g:=by induction x using R.casesOn<;>rfl
theorem uJ{l:List α}(h:i<l.length):l.drop i=l[i]::l.drop (i+1):=aaP h
noncomputable def gZ(env:YY):List (fw×YB)->List (fw×bQ)->List (fw×bQ)
 | [],cs=>cs
 | (x,kd)::r,cs=>if(kd==.free)=true then match env.cells.lookup x with
   | some a=>gZ env r ((x,a)::cs)
   | none=>gZ env r cs
  else gZ env r cs
theorem lT{kd:YB}{r:List (fw×YB)}{cs:List (fw×bQ)} : gZ env ((x,kd)::r) cs=if(kd==.free)=true then(match env.cells.lookup x with
   | some a=>gZ env r ((x,a)::cs)
   | none=>gZ env r cs)
  else gZ env r cs:=rfl
theorem mV(env:YY):∀ (names:List (fw×YB)) (cs:List (fw×bQ)),(∀ x∈names,x.2= .free->∃ a,env.cells.lookup x.1=some a) ->
  (forIn names cs fun x Iw=>match x with
   | (name,kind)=>if(kind==YH)=true then do
     let d<-cellOf env name
     pure (Y0 ((name,d)::Iw))
    else pure (Y0 Iw):Xm (List (fw×bQ)))=pure (gZ env names cs)
 | [],cs,_=>rfl
 | (x,kd)::r,cs,h=>by
  rw[aaq];rw[lT];generalize(fun y hy=>h y (bG _ hy):∀ y∈r,y.2= .free->∃ a,env.cells.lookup y.1=some a)=hr;by_cases hk:(kd==.free)=true
  ·obtain⟨a,ha⟩:=h (x,kd) aW (by simpa using hk);generalize(ha:env.cells.lookup x=some a)=Lg;have hc:cellOf env x=pure a:=by unfold cellOf;rw[Lg]
   simp only[hk,if_true,hc,Lg];exact mV env r ((x,a)::cs) hr
  ·simp only[hk,if_false,Y1];exact mV env r cs hr
theorem AM(h:∀ x∈scope.names,x.2= .free->∃ a,env.cells.lookup x.1=some a):closureFor scope env=pure (gZ env scope.names []):=by
 unfold closureFor;have:=mV env scope.names [] h;show(forIn scope.names [] _>>=fun cs=>pure cs)=_;rw[show(forIn scope.names ([]:List (fw×bQ)) fun x Iw=>match x with
   | (name,kind)=>if(kind==YH)=true then do
     let d<-cellOf env name
     pure (Y0 ((name,d)::Iw))
    else pure (Y0 Iw):Xm (List (fw×bQ)))=pure (gZ env scope.names [])from this]
 rfl
theorem nQ{env:YY} : ∀ {names:List (fw×YB)} {cs:List (fw×bQ)},(∀ p∈cs,env.cells.lookup p.1=some p.2)->∀ p∈gZ env names cs,env.cells.lookup p.1=some p.2
 | [],_,h=>h
 | (x,kd)::r,cs,h=>by
  rw[lT];by_cases hk:(kd==.free)=true
  ·rw[if_pos hk];induction ha:env.cells.lookup x using aL with
   | none=>exact nQ h
   | some a =>
    refine nQ fun p hp=>?_;rcases cn hp with rfl|hp
    ·exact ha
    ·exact h p hp
  ·rw[if_neg hk];exact nQ h
theorem nR{env:YY} : ∀ {names:List (fw×YB)} {cs:List (fw×bQ)},∀ p∈cs,p∈gZ env names cs
 | [],_,_,h=>h
 | (x,kd)::r,cs,p,h=>by
  rw[lT];by_cases hk:(kd==.free)=true
  ·rw[if_pos hk];induction ha:env.cells.lookup x using aL with
   | none=>exact nR p h
   | some a=>exact nR p (bG _ h)
  ·rw[if_neg hk];exact nR p h
theorem q0{env:YY}{x:fw}{a:bQ}(ha:env.cells.lookup x=some a):∀ {names:List (fw×YB)} {cs:List (fw×bQ)},(x,.free)∈names->(x,a)∈gZ env names cs
 | [],_,h=>by cases h
 | (y,kd)::r,cs,h=>by
  rw[lT];rcases cn h with e|h
  ·cases e
   rw[if_pos (show(YH==YH)=true from rfl),ha];exact nR _ aW
  ·by_cases hk:(kd==.free)=true
   ·rw[if_pos hk];cases hb:env.cells.lookup y<;>exact q0 ha h
   ·rw[if_neg hk];exact q0 ha h
theorem fB{names:List (fw×YB)}(h:(gZ env names []).lookup x=some a):env.cells.lookup x=some a :=
 nQ (cs:=[]) nofun (x,a) (bZ h)
theorem mem_lookup{x:fw}{a:bQ} : ∀ {l:List (fw×bQ)},(x,a)∈l->∃ b,l.lookup x=some b
 | [],h=>by cases h
 | (y,c)::r,h=>by
  rw[dR];by_cases e:(x==y)=true
  ·rw[e];exact⟨c,rfl⟩
  ·rw[show(x==y)=false from by simpa using e];rcases cn h with q|h
   ·cases q;simp at e
   ·exact mem_lookup h
theorem C0{names:List (fw×YB)}(hx:(x,.free)∈names)(ha:env.cells.lookup x=some a):(gZ env names []).lookup x=some a:=by
 obtain⟨b,hb⟩:=mem_lookup (q0 (names:=names) (cs:=[]) ha hx);have:=fB hb;rw[ha]at this;obtain rfl:=si this;exact hb
theorem iW{sc:gK}{ρ:af} : ∀ {names:List (fw×YB)} {fO:af},jC sc ρ names=some fO->(names.map (·.1)).Nodup ->
  (∀ x∈names,x.2= .local\/x.2= .free\/x.2= .globalImplicit)/\(∀ x,(x,YH)∈names->(sc.names.lookup x=some .cell\/sc.names.lookup x=some .free)/\∃ ov,ρ.lookup x=some ov) /\
   ∀ x ov,fO.lookup x=some ov->((x,NameKind.local)∈names/\ov=none)\/((x,YH)∈names/\ρ.lookup x=some ov)
 | [],fO,h,_=>by
  obtain rfl:=si h;exact⟨nofun,nofun,fun x ov h=>by simp at h⟩
 | (y,kd)::r,fO,h,iX=>by
  have h:((jC sc ρ r).bind fun q=>_)=some fO:=h;induction hq:jC sc ρ r using aL with
  | none=>rw[hq]at h;exact nn h
  | some q =>
   rw[hq]at h;generalize(z9 (show(y::r.map (·.1)).Nodup from iX))=qh;obtain⟨i1,i2,i3⟩:=iW hq qh.2;cases kd with
   | «local» =>
    obtain rfl:=si h;refine⟨fun x hx=>?_,fun x hx=>?_,fun x ov hx=>?_⟩
    ·rcases cn hx with rfl|hx
     ·exact .inl rfl
     ·exact i1 x hx
    ·rcases cn hx with e|hx
     ·cases e
     ·exact i2 x hx
    ·rw[dR]at hx;by_cases e:(x==y)=true
     ·rw[e]at hx;obtain rfl:=si hx
      exact .inl ⟨by rw[eq_of_beq e];exact aW,rfl⟩
     ·rw[show(x==y)=false from by simpa using e]at hx;exact(i3 x ov hx).imp (fun z=>⟨bG _ z.1,z.2⟩) fun z=>⟨bG _ z.1,z.2⟩
   | free =>
    simp only[cH]at h;by_cases hc:(sc.names.lookup y==some .cell||sc.names.lookup y==some .free)=true
    ·rw[if_pos hc]at h;induction hl:ρ.lookup y using aL with
     | none=>rw[hl]at h;exact nn h
     | some oy =>
      rw[hl]at h;obtain rfl:=si h;refine⟨fun x hx=>?_,fun x hx=>?_,fun x ov hx=>?_⟩
      ·rcases cn hx with rfl|hx
       ·exact .inr (.inl rfl)
       ·exact i1 x hx
      ·rcases cn hx with e|hx
       ·cases e
        exact⟨by simpa using hc,oy,hl⟩
       ·exact i2 x hx
      ·rw[dR]at hx;by_cases e:(x==y)=true
       ·rw[e]at hx;obtain rfl:=si hx
        exact .inr ⟨by rw[eq_of_beq e];exact aW,by rw[eq_of_beq e];exact hl⟩
       ·rw[show(x==y)=false from by simpa using e]at hx;exact(i3 x ov hx).imp (fun z=>⟨bG _ z.1,z.2⟩) fun z=>⟨bG _ z.1,z.2⟩
    ·rw[if_neg hc]at h;exact nn h
   | globalImplicit =>
    obtain rfl:=si h;refine⟨fun x hx=>?_,fun x hx=>?_,fun x ov hx=>?_⟩
    ·rcases cn hx with rfl|hx
     ·exact .inr (.inr rfl)
     ·exact i1 x hx
    ·rcases cn hx with e|hx
     ·cases e
     ·exact i2 x hx
    ·exact(i3 x ov hx).imp (fun z=>⟨bG _ z.1,z.2⟩) fun z=>⟨bG _ z.1,z.2⟩
   | _=>exact nn h
theorem dj{x:fw}{kd:YB} : ∀ {names:List (fw×YB)},(names.map (·.1)).Nodup->(x,kd)∈names->names.lookup x=some kd
 | [],_,h=>by cases h
 | (y,Xp)::r,iX,h=>by
  generalize(z9 (show(y::r.map (·.1)).Nodup from iX))=qh;rw[dR];rcases cn h with e|h
  ·cases e;simp
  ·have:(x==y)=false:=by
    have:x≠y:=fun q=>qh.1 (q▸List.mem_map.mpr ⟨(x,kd),h,rfl⟩)
    simpa using this
   rw[this];exact dj qh.2 h
theorem oA{env:YY}{x:fw} : ∀ {names:List (fw×YB)},names.lookup x=some .free ->
  (names.map fun(n,k)=>if(k==YH&&env.scope.kind==.function&&env.kindOf n==some .cell)then(n,YI)else(n,k)).lookup x=some .cell \/
  (names.map fun(n,k)=>if(k==YH&&env.scope.kind==.function&&env.kindOf n==some .cell)then(n,YI)else(n,k)).lookup x=some .free
 | [],h=>by simp at h
 | (n,k)::r,h=>by
  generalize(@oA env x r)=ih;rw[kR];by_cases hc:(k==YH&&env.scope.kind==.function&&env.kindOf n==some .cell)=true
  ·simp only[hc,if_true];induction hx:x==n using iN with
   | true=>left;simp[dR,hx]
   | false =>
    simp only[dR,hx]at h ⊢;exact ih h
  ·simp only[hc,if_false,Y1];induction hx:x==n using iN with
   | true =>
    simp only[dR,hx]at h ⊢;exact .inr h
   | false =>
    simp only[dR,hx]at h ⊢;exact ih h
theorem qi{names:List (fw×YB)}(iX:(names.map (·.1)).Nodup)(h:(x,YH)∈names):names.lookup x=some .free:=dj iX h
structure Lh(k:Nat)(B:bw)(A:bY)(envs:List YY)(env:YY)(P W μ:List bQ)(scope:gK)(C:bQ)(fO:af)(h:ir):Prop where
 sit:Sit k A envs (agp scope (gZ env scope.names []) C env) (P++W)
 sr:SR B (agp scope (gZ env scope.names []) C env) (P++W) μ fO h
theorem rV{A:bY}{W:List bQ}{fO:af}{C:bQ}{h:ir}(S:Sit k A envs env P)(r:SR B env P μ ρ s.heap)(eC:lM scope=true)(hc:io scope env.scope ρ=some fO)
  (hC:C∈W) (hW:∀ a∈W,s.heap.get? a=none) (kp:∀ b o,s.heap.get? b=some o->h.get? b=some o) (hn:h.Ns C fun _=>none) :
  closureFor scope env=pure (gZ env scope.names [])/\Lh k B A envs env P W μ scope C fO h:=by
 refine ab fun _ gG=>?_;generalize((bM eC)).1=eC;generalize((bM eC)).2=uK;refine gG ?_;clear gG
 refine ab fun _ gG=>?_;generalize((bM eC)).1=qj;generalize((bM eC)).2=iX;refine gG ?_;clear gG
 have qj:scope.kind= .function:=of_decide_eq_true qj;have iX:(scope.names.map (·.1)).Nodup:=of_decide_eq_true iX;refine ab fun _ gG=>?_;generalize((iW hc iX)).1=i1;generalize(((iW hc iX)).2).1=i2;generalize(((iW hc iX)).2).2=i3;refine gG ?_;clear gG
 refine ab fun _ gG=>?_;obtain⟨m,hm,yp⟩:=id r;refine gG ?_;clear gG
 have Ix:∀ x,(x,YH)∈scope.names->∃ ov ou a o,ρ.lookup x=some ov/\env.cells.lookup x=some a/\s.heap.get? a=some o/\o.data= .cell ou/\ORep B s.heap μ (μ++P) ov ou:=fun x hx=>by
  refine ab fun _ gG=>?_;obtain⟨hk,ov,ho⟩:=i2 x hx;refine gG ?_;clear gG
  refine ab fun _ gG=>?_;obtain⟨ou,h1,h2⟩:=yp x ov ho;refine gG ?_;clear gG
  refine ab fun _ gG=>?_;rcases h1 with⟨k1,_⟩|⟨_,a,o,e,hg,hd⟩<;>refine gG ?_<;>clear gG
  ·have U1:env.scope.names.lookup x=some .local:=k1;rcases hk with hk|hk<;>rw[U1]at hk<;>cases hk
  ·exact⟨ov,ou,a,o,ho,e,hg,hd,h2⟩
 refine⟨AM fun x hx hf=>?_,⟨?_,?_⟩⟩
 ·refine ab fun _ gG=>?_;obtain⟨x,kd⟩:=x;refine gG ?_;clear gG
  subst hf;refine ab fun _ gG=>?_;obtain⟨_,_,a,_,_,e,_⟩:=Ix x hx;refine gG ?_;clear gG
  exact⟨a,e⟩
 ·exact{ frames:=S.frames,handled:=S.handled,depth:=S.depth,units:=S.units,frm:=S.frm,kind:=qj,glob:=S.glob,blt:=S.blt,own:=aq _ hC,cells:=fun x a e=>⟨bo _ (S.cells x a (fB e)).1,(S.cells x a (fB e)).2⟩,inj:=fun x y a e1 e2=>S.inj x y a (fB e1) (fB e2) }
 ·refine⟨_,hn,fun x ov hx=>?_⟩;refine ab fun _ gG=>?_;rcases i3 x ov hx with⟨hl,rfl⟩|⟨hf,ho⟩<;>refine gG ?_<;>clear gG
  ·exact⟨none,.inl ⟨lookup_relabel_local (dj iX hl),rfl⟩,trivial⟩
  ·refine ab fun _ gG=>?_;obtain⟨Xq,ou,a,o,fe,e,hg,hd,h2⟩:=Ix x hf;refine gG ?_;clear gG
   rw[ho]at fe;obtain rfl:=si fe
   exact⟨ou,.inr ⟨oA (qi iX hf),a,o,C0 hf e,kp _ _ hg,hd⟩,h2.move (Kp.of_keeps kp) (fun _ _ e=>e) (gJ hW)⟩
section
variable(B)(envs:List YY)(aJ:YY)(P W μ:List bQ)(h0:ir)(dA:List V)(us:List am)(St:Nat->ir->Prop)(fp:List bQ)(D C:bQ)
structure LF(ν:List bQ)(O:U)(ρ:af)(acc:List V)(i:Nat)(s:aO):Prop where
 fr:∀ a∈ν,h0.get? a=none
 I:Inv B envs (P++W) (μ++ν) O s
 g:Go μ [] h0 s.heap
 r:SR B aJ (P++W) (μ++ν) ρ s.heap
 R0:Reps B s.heap (μ++ν) ((μ++ν)++(P++W)) dA us
 st:St i s.heap
 dl:∃ ys,s.heap.IsList D ys/\Reps B s.heap (μ++ν) ((μ++ν)++(P++W)) acc ys.toList
 al:acc.length<=i
 fpn:∀ b∈fp,b∉μ++ν
variable{B}{envs}{aJ}{P}{W}{μ}{h0}{dA}{us}{St}{fp}{D}{C}
theorem fC(μ ν jF:List bQ):(μ++ν)++jF=μ++(ν++jF):=cJ ..
theorem LF.step{A:bY}{jF:List bQ}(L:LF B envs aJ P W μ h0 dA us St fp D ν O ρ acc i s)
  (tn:Turns B.prog B.w A target I0 fp wr N Pp St) (S:Sit k A envs aJ (P++W)) (hD:D∈W) (f:∀ a∈jF,s.heap.get? a=none) (I':Inv B envs (P++W) ((μ++ν)++jF) ar s') (g:Go (μ++ν) [] s.heap s'.heap) :
  LF B envs aJ P W μ h0 dA us St fp D (ν++jF) ar ρ acc i s':=by
 have kp:∀ b,b∉μ++ν->∀ o,s.heap.get? b=some o->s'.heap.get? b=some o:=fun b hb o e=>g.kp b o e hb nofun
 have U2:D∉μ++ν:=fun m=>L.I.apart D m (aq _ hD)
 refine⟨fun a m=>?_,by rw[<- fC];exact I',L.g.trans_new L.fr g,by rw[<- fC];exact L.r.go g f L.I.apart S.own S.cellsIn,by rw[<- fC];exact L.R0.go g f nofun,tn.frame _ _ _ L.st fun b hb o e=>kp b (L.fpn b hb) o e,?_,L.al,fun b hb m=>?_⟩
 ·rcases bU m with m|m
  ·exact L.fr a m
  ·exact L.g.none (f a m)
 ·obtain⟨ys,⟨o,ho,r⟩,hr⟩:=L.dl;exact⟨ys,⟨o,kp D U2 o ho,r⟩,by rw[<- fC];exact hr.go g f nofun⟩
 ·rw[<- fC]at m;rcases bU m with m|m
  ·exact L.fpn b hb m
  ·obtain⟨o,e⟩:=tn.live _ _ L.st b hb;rw[f b m]at e;cases e
theorem AN{A:bY}{use:Option (am->Xm Unit)}{S3:am}(L:LF B envs aJ P W μ h0 dA us St fp D ν O ρ acc i s)
  (S:Sit k A envs aJ (P++W)) (hcl:aJ.locals=C) (hC:C∈W) (hW:∀ a∈W,h0.get? a=none) (ic:ie P envs) (hPW:∀ a∈W,a∉P)
  (H:∀ e s',Exc B envs P μ [] h0 e row s'->E e s'):∀ e s',Exc B envs (P++W) (μ++ν) [] s.heap e row s'->notedBy (cr B.prog B.w) A aJ (fun e s'=>compPost (cr B.prog B.w) A E use Q S3 C (.error e) s') e s':=fun e s' x=>by
 refine ab fun Z gG=>?_;obtain⟨e0,rest,L0,h1,h2,h3⟩:=S.frm;refine gG ?_;clear gG
 refine qc S.frames h1 h2 h3 x fun s2 x2 n2=>?_;have U3:∃ oC,s.heap.get? C=some oC:=L.I.dom C (aq _ (aq _ hC));refine ab fun Z gG=>?_;obtain⟨oC,Li⟩:=U3;refine gG ?_;clear gG
 refine ab fun Z gG=>?_;obtain⟨m,o,es,ep,ho,hd,hk,hf⟩:∃ m,s.heap.Ns C m:=let⟨m,hm,_⟩:=L.r;⟨m,hcl▸hm⟩
 refine gG ?_;clear gG
 refine ab fun Z gG=>?_;obtain⟨sl,N5,_⟩:=x2.kept C o ho (fun m=>L.I.apart C m (aq _ hC)) nofun
 refine gG ?_;clear gG
 have fZ:s2.heap.Ns C m:=⟨_,es,ep,N5,hd,hk,hf⟩
 have nf:NF envs C:=fun e' he hq=>by
  refine ab fun Z gG=>?_;obtain⟨L',h4,h5⟩:=ic e' he;refine gG ?_;clear gG
  rw[hq]at h4;obtain rfl:=si h4
  exact hPW C hC h5
 have key:∀ h',fq C s2.heap h'->∀ C1:YY,C1.locals=C->wpAny (cr B.prog B.w) A (adg "comprehension.variables-let-go" e C1:Xm am) (fun Z Z=>False) E { s2 with heap:=h' }:=fun h' hs C1 Z=>by
  refine ab fun Z gG=>?_;generalize((x2.letgo n2 ic L.g L.fr Li (hW C hC) (x2.base C (aq _ hC)) nf hs)).1=y;generalize((x2.letgo n2 ic L.g L.fr Li (hW C hC) (x2.base C (aq _ hC)) nf hs)).2=ny;refine gG ?_;clear gG
  exact Ay (s:={ s2 with heap:=h' }) y ny fun s3 y3 Z=>H e s3 y3
 induction use using aL<;>exact⟨m,fZ,key⟩
theorem Aft.opt2{δ:Type}{Y:List bQ}{h:ir}{x:Option α}{g:α->R (γ×U)}{g2:γ×U->R (δ×U)}{K:δ->List bQ->aO->Prop}(H:Aft B envs P μ Y h (((ah x).bind g).bind g2) K E) :
  ∃ a,x=some a/\Aft B envs P μ Y h ((g a).bind g2) K E:=by
 induction x using aL with
 | none=>exact(H:False).elim
 | some a=>exact⟨a,rfl,H⟩
theorem LF.append{A:bY}(L:LF B envs aJ P W μ h0 dA us St fp D ν O ρ acc (i+1) s)
  (tn:Turns B.prog B.w A target I0 fp wr N Pp St) (S:Sit k A envs aJ (P++W)) (hD:D∈W) (hDC:aJ.locals≠D) (hDc:∀ x a,aJ.cells.lookup x=some a->a≠D) (hDf:D∉fp) (hW:∀ a∈W,h0.get? a=none)
  (R:Rep B s.heap (μ++ν) ((μ++ν)++(P++W)) v u) (Xr:acc.length<=i) (hi:i<N) (hN:N<=ai) (q:∀ s',LF B envs aJ P W μ h0 dA us St fp D ν O ρ (acc++[v]) (i+1) s'->Q .none s') :
  wpAny (cr B.prog B.w) A (call (.builtin "list.append") [.ref D,u]) Q E s:=by
 obtain⟨ys,hl,hr⟩:=L.dl;have ck:=hr.length;refine wpAny_list_append hl (fun h' AO cC=>?_) (by
  have:ys.size=acc.length:=by simpa using ck
  rw[this];exact eU (by lia))
 have hk:∀ b o,b∉[D]->s.heap.get? b=some o->h'.get? b=some o:=fun b o hb e=>cC.extBut b o (fun z=>hb (by simp[z])) e
 have qk:∀ a∈[D],a∈P++W:=fun a m=>by rw[a8 m];exact aq _ hD
 have hd:∀ a∈[D],∃ o,h'.get? a=some o:=fun a m=>by rw[a8 m];obtain⟨o,e,_⟩:=AO;exact⟨o,e⟩
 refine q { s with heap:=h' } ⟨L.fr,L.I.touch (tk:=s.toks) hk qk hd (o7 L.I.frs cC (.inr fun o es m ho eK=>?_)),⟨fun a o e n1 n2=>hk a o (fun z=>by rw[a8 z,hW D hD]at e;exact nn e) (L.g.kp a o e n1 n2),fun a o e=>?_⟩,L.r.touch hk qk (fun z=>hDC (a8 z)) (fun x a e z=>hDc x a e (a8 z)),L.R0.touch hk qk,tn.frame _ _ _ L.st (fun b hb o e=>hk b o (fun z=>hDf (a8 z▸hb)) e),⟨_,AO,?_⟩,by simp;assumption,L.fpn⟩
 ·obtain⟨o',fe,_,n',gx⟩:=hl;rw[ho]at fe;cases fe;rw[eK]at gx;cases gx
 ·obtain⟨o',e'⟩:=L.g.dm a o e;exact⟨o',hk a o' (fun z=>by rw[a8 z,hW D hD]at e;exact nn e) e'⟩
 ·rw[show(ys.push u).toList=ys.toList++[u]by simp];exact(hr.touch hk qk).append (zC (R.touch hk qk) z0)
theorem LF.bind{A:bY}{Q:Unit->aO->Prop}(L:LF B envs aJ P W μ h0 dA us St fp D ν O ρ acc i s)
  (tn:Turns B.prog B.w A target I0 fp wr N Pp St) (S:Sit k A envs aJ (P++W)) (hC:aJ.locals∈W) (hD:D∈W) (hDC:aJ.locals≠D) (hCf:aJ.locals∉fp) (hW:∀ a∈W,h0.get? a=none) (hb:bx (gU aJ.scope) target v ρ=some aU)
  (R:Rep B s.heap (μ++ν) ((μ++ν)++(P++W)) v u) (q:∀ s',LF B envs aJ P W μ h0 dA us St fp D ν O aU acc i s'->Q () s'):wpAny (cr B.prog B.w) A (aaj target aJ u) Q E s:=by
 have tu:∀ a∈[aJ.locals],a∈P++W:=fun a m=>by rw[a8 m];exact aq _ hC
 refine bind_ok S (FQ aJ) tu target L.I L.r R hb fun s' I' g' r'=>q s' ⟨L.fr,I',⟨fun a o e n1 n2=>g'.kp a o (L.g.kp a o e n1 n2) (fun m=>?_) (fun m=>?_),fun a o e=>?_⟩,r',L.R0.goY g' tu,tn.frame _ _ _ L.st fun b hb o e=>g'.kp b o e (L.fpn b hb) fun z=>hCf (a8 z▸hb),?_,L.al,L.fpn⟩
 ·rcases bU m with m|m
  ·exact n1 m
  ·rw[L.fr a m]at e;exact nn e
 ·rw[a8 m,hW _ hC]at e;exact nn e
 ·obtain⟨o',e'⟩:=L.g.dm a o e;exact g'.dm a o' e'
 ·obtain⟨ys,⟨o,ho,r⟩,hr⟩:=L.dl;exact⟨ys,⟨o,g'.kp D o ho (fun m=>L.I.apart D m (aq _ hD)) (fun m=>hDC (a8 m).symm),r⟩,hr.goY g' tu⟩
theorem LF.draw{A:bY}(L:LF B envs aJ P W μ h0 dA us St fp D ν O ρ acc i s)
  (eh:CV B A target vs dA us I0 fp wr Pp St) (S:Sit k A envs aJ (P++W)) (hwr:∀ a∈wr,a∈W) (hC:aJ.locals∉wr) (hD:D∉wr) (hcells:∀ x a,aJ.cells.lookup x=some a->a∉wr) (hW:∀ a∈W,h0.get? a=none) (ic:ie P envs) (hPW:∀ a∈W,a∉P) (hi:i<vs.length)
  (q:∀ v u s',vs[i]?=some v->Rep B s'.heap (μ++ν) ((μ++ν)++(P++W)) v u->LF B envs aJ P W μ h0 dA us St fp D ν O ρ acc (i+1) s'->Q u s') :
  wpAny (cr B.prog B.w) A (Z4 (.ref I0)) (fun r s₁=>∃ v,r=some v/\wpAny (cr B.prog B.w) A (Zb target (.ref I0) v) (fun Z iU=>Q v iU) E s₁) E s:=by
 refine eh.tn.item i s Q E hi L.st fun u h' tk hP oY hk=>?_;have qk:∀ a∈wr,a∈P++W:=fun a m=>aq _ (hwr a m)
 have hd:∀ a∈wr,∃ o,h'.get? a=some o:=fun a m=>eh.tn.live _ _ oY a (eh.tn.sub a m)
 have R0:=L.R0.touch hk qk;obtain⟨y,hy,ry⟩:=eh.give i u s.heap h' (μ++ν) ((μ++ν)++(P++W)) R0 (fun a m=>L.I.dom a m) hP;refine q y u { s with heap:=h',toks:=tk } hy ry ⟨L.fr,L.I.touch hk qk hd (fun e he=>?_),⟨fun a o e n1 n2=>hk a o (fun z=>by rw[hW a (hwr a z)]at e;exact nn e) (L.g.kp a o e n1 n2),fun a o e=>?_⟩,L.r.touch hk qk hC hcells,R0,oY,?_,acp L.al,L.fpn⟩
 ·obtain⟨iV,L',h1,h2,o,es,n,ho,gx⟩:=L.I.frs e he;obtain⟨U4,C2,FX⟩:=ic e he;rw[h1]at C2;obtain rfl:=si C2
  exact⟨iV,L',h1,h2,o,es,n,hk L' o (fun z=>hPW L' (hwr _ z) FX) ho,gx⟩
 ·obtain⟨o',e'⟩:=L.g.dm a o e;exact⟨o',hk a o' (fun z=>by rw[hW a (hwr a z)]at e;exact nn e) e'⟩
 ·obtain⟨ys,⟨o,ho,r⟩,hr⟩:=L.dl;exact⟨ys,⟨o,hk D o hD ho,r⟩,hr.touch hk qk⟩
end
noncomputable def yK(B:bw)(A:bY)(envs:List YY)(P:List bQ)(h0:ir)(E:am->aO->Prop)(use:Option (am->Xm Unit))(Q:am->aO->Prop):List V×U->List bQ->aO->Prop:=fun a bV s =>
 ∀ C D,Inv B envs (P++[C]) bV a.2 s->C∉P->h0.get? C=none->(∃ m,s.heap.Ns C m)->Rep B s.heap bV (bV++(P++[C])) (.lst a.1) (.ref D)->D≠C->compPost (cr B.prog B.w) A E use Q (.ref D) C (.ok .next) s
noncomputable def mj(acc:List V)(r:R (List V×U)):R ((List V×U)×U):=r.bind fun r=>.ok ((acc++r.1,r.2),r.2)
theorem FY{r:R (List V×U)} : mj [] r=r.bind fun r=>.ok ((r.1,r.2),r.2):=by cases r<;>rfl
theorem o9{x:R α}{y:α->R (List V×U)} : mj acc (x.bind y)=x.bind fun a=>mj acc (y a):=R.bind_assoc
theorem C3{a:V}{r:R (List V×U)} : (mj acc (r.bind fun r=>.ok (a::r.1,r.2)))=mj (acc++[a]) r:=by
 cases r with
 | ok b=>show R.ok ((acc++a::b.1,b.2),b.2)=R.ok (((acc++[a])++b.1,b.2),b.2);rw[cJ];rfl
 | exc=>rfl
 | stuck=>rfl
theorem FZ{A:bY}{Q:Bool->aO->Prop}{ifs:List Expr}(iht:∀ e,fh B T k n e)(S:Sit k A envs env P)(I:Inv B envs P μ O s)(r:SR B env P μ ρ s.heap)
  (H:Aft B envs P μ [] s.heap (iT (ev T n) env.scope ifs ρ O) (fun b _ s'=>Q b s') E) :
  wpAny (cr B.prog B.w) A (forIn ifs true fun c r=>if r=true then do let ok<-ad3 c env (eval c env);pure (Y0 ok)else pure (Y0 r)) Q E s:=by
 rcases ifs with _|⟨t,_|⟨_,_⟩⟩
 ·exact wpAny_tests_nil (Aft.here (b:=true) (O:=O) H I)
 ·exact wpAny_tests_one (iht t S I r H)
 ·exact H.elim
theorem C4{A:bY}{R:abf->aO->Prop}{K:List V×U->List bQ->aO->Prop}{aJ:YY}{W:List bQ}{ifs:List Expr}{D:bQ}{J:aO->Prop}{Q1:Option am->aO->Prop}
  (ih:∀ e,aY B T k n e) (iht:∀ e,fh B T k n e) (eh:CV B A target vs dA us I0 fp wr Pp St) (hwrW:∀ a∈wr,a∈W) (hW:∀ a∈W,h0.get? a=none) (S:Sit k A envs aJ (P++W)) (hC:aJ.locals∈W) (hD:D∈W) (AP:aJ.locals≠D) (hCf:aJ.locals∉fp) (hDf:D∉fp)
  (cells:∀ x a,aJ.cells.lookup x=some a->a∉W) (ic:ie P envs) (hPW:∀ a∈W,a∉P) (bk:vs.length<=ai) (L:LF B envs aJ P W μ h0 dA us St fp D ν O ρ acc i s) (hlt:i<vs.length)
  (H:Aft B envs P μ [] h0 (mj acc (dY (ev T n) aJ.scope elt target ifs ρ (vs.drop i) O)) K E)
  (err:∀ {ν O ρ acc j s},LF B envs aJ P W μ h0 dA us St fp D ν O ρ acc j s->∀ row,(∀ e s2,Exc B envs P μ [] h0 e row s2->E e s2)->∀ e s3,Exc B envs (P++W) (μ++ν) [] s.heap e row s3->notedBy (cr B.prog B.w) A aJ (fun e s'=>R (.error e) s') e s3)
  (hq:∀ v s₁,wpAny (cr B.prog B.w) A (Zb target (.ref I0) v) (fun _ iU=>kZ B.prog B.w A elt target ifs (.ref D) aJ R J v iU) (notedBy (cr B.prog B.w) A aJ (fun e s'=>R (.error e) s')) s₁->Q1 (some v) s₁)
  (next:∀ {ν O ρ acc s},LF B envs aJ P W μ h0 dA us St fp D ν O ρ acc (i+1) s->Aft B envs P μ [] h0 (mj acc (dY (ev T n) aJ.scope elt target ifs ρ (vs.drop (i+1)) O)) K E->J s) :
  wpAny (cr B.prog B.w) A (Z4 (.ref I0)) Q1 (notedBy (cr B.prog B.w) A aJ (fun e s'=>R (.error e) s')) s:=by
 refine Yj (L.draw (Q:=fun v s=>kZ B.prog B.w A elt target ifs (.ref D) aJ R J v s) eh S hwrW (fun m=>hCf (eh.tn.sub _ m)) (fun m=>hDf (eh.tn.sub D m)) (fun x a e m=>cells x a e (hwrW a m)) hW ic hPW hlt fun v u s1 hv Rv L1=>?_) (fun r s₁ aF=>by obtain⟨v,rfl,h⟩:=aF;exact hq v s₁ h) fun _ _ e=>e
 unfold kZ;rw[uJ hlt,show vs[i]=v from kH ((fL hlt).symm.trans hv)]at H;obtain⟨bj,hb,H⟩:=Aft.opt (g:=fun bj=>mj acc ((iT (ev T n) aJ.scope ifs bj O).bind fun c=>match c.1 with
   | false=>dY (ev T n) aJ.scope elt target ifs bj (vs.drop (i+1)) c.2
   | true=>(ev T n aJ.scope elt bj c.2).bind fun a=>(dY (ev T n) aJ.scope elt target ifs bj (vs.drop (i+1)) a.2).bind fun r=>.ok (a.1::r.1,r.2))) (o9▸H)
 refine L1.bind eh.tn S hC hD AP hCf hW hb Rv fun s2 L2=>?_;rw[o9]at H;refine FZ iht S L2.I L2.r (Aft.inner H (fun c HU um s3 _ f3 I3 g3 H3=>?_) (err L2));generalize(L2.step eh.tn S hD f3 I3 g3)=L3;cases c
 ·exact next L3 H3
 ·refine ih elt S L3.I L3.r (Aft.inner (o9▸H3) (fun a Xs Xu s4 _ f4 I4 g4 H4 u4 R4=>?_) (err L3));generalize(L3.step eh.tn S hD f4 I4 g4)=L4;rw[fC]at R4;exact L4.append eh.tn S hD AP (fun x a e z=>cells x a e (z▸hD)) hDf hW R4 L.al hlt bk fun s5 L5=>next L5 (C3▸H4)
theorem C5{W:List bQ}(f:ie P envs):ie (P++W) envs:=fun e he=>by
 obtain⟨L,h1,h2⟩:=f e he;exact⟨L,h1,bo _ h2⟩
theorem F0{A:bY}{E1:am->aO->Prop}{Q1:Option am->aO->Prop}{use:Option (am->Xm Unit)}{aJ:YY}{D:bQ}
  (eh:CV B A target vs dA us I0 fp wr Pp St) (ic:ie P envs) (hPW:∀ a∈[aJ.locals]++(wr++[D]),a∉P) (hwrW:∀ a∈wr,a∈[aJ.locals]++(wr++[D])) (F1:aJ.locals∈[aJ.locals]++(wr++[D])) (Lj:D∈[aJ.locals]++(wr++[D])) (AP:aJ.locals≠D) (hCf:aJ.locals∉fp) (hDf:D∉fp)
  (hW:∀ a∈[aJ.locals]++(wr++[D]),h0.get? a=none) (L:LF B envs aJ P ([aJ.locals]++(wr++[D])) μ h0 dA us St fp D ν O ρ acc i s) (H:Aft B envs P μ [] h0 (mj acc (R.ok ([],O))) (yK B A envs P h0 E use Q) E) (hi:i=vs.length) (hq:∀ s',compPost (cr B.prog B.w) A E use Q (.ref D) aJ.locals (.ok .next) s'->Q1 none s') :
  wpAny (cr B.prog B.w) A (Z4 (.ref I0)) Q1 E1 s:=by
 subst hi;refine eh.tn.done _ _ _ L.st fun h' tk hk=>?_;rw[show mj acc (R.ok ([],O))=R.ok ((acc,O),O)from by unfold mj;show R.ok ((acc++[],O),O)=_;rw[bP]]at H;generalize(fun b o hb e=>hk b o (fun m=>hb (bo _ m)) e:∀ b o,b∉wr++[D]->s.heap.get? b=some o->h'.get? b=some o)=S4;have hPC:∀ a∈wr++[D],a∉P++[aJ.locals]:=fun a m q=>by
  rcases bU q with q|q
  ·exact hPW a (aq _ m) q
  ·rw[a8 q]at m;rcases bU m with m|m
   ·exact hCf (eh.tn.sub _ m)
   ·exact AP (a8 m)
 generalize((cJ ..).symm:P++([aJ.locals]++(wr++[D]))=(P++[aJ.locals])++(wr++[D]))=eW;have IC:Inv B envs (P++[aJ.locals]) (μ++ν) O { s with heap:=h',toks:=tk }:=Inv.drop (W:=wr++[D]) (eW▸L.I) (C5 ic) hPC S4;generalize(fun b o e z=>by rw[hW b (hwrW b z)]at e;exact nn e:∀ b o,h0.get? b=some o->b∉wr)=kp;have gP:Go μ [] h0 h':=⟨fun a o e n1 n2=>hk a o (kp a o e) (L.g.kp a o e n1 n2),fun a o e=>by
  obtain⟨o',e'⟩:=L.g.dm a o e;exact⟨o',hk a o' (kp a o e) e'⟩⟩
 obtain⟨m,hm,_⟩:=L.r;obtain⟨ys,⟨o,ho,hr⟩,N6⟩:=L.dl;exact hq _ (H ν { s with heap:=h',toks:=tk } L.fr (IC.less ic) gP aJ.locals D IC (hPW _ F1) (hW _ F1) ⟨m,hm.at' fun o e=>hk _ o (fun m=>hCf (eh.tn.sub _ m)) e⟩
  ⟨D,ys,rfl,fun q=>(bU q).elim (fun q=>L.I.apart D q (aq _ Lj)) (hPC D (aq _ aW)),⟨o,hk D o (fun m=>hDf (eh.tn.sub D m)) ho,hr⟩,(eW▸N6).drop S4⟩ (Ne.symm AP))
theorem F2{A:bY}{use:Option (am->Xm Unit)}{aJ:YY}{ifs:List Expr}{pos:YZ}{D C:bQ}{yL:U}{fO:af}
  (ih:∀ e,aY B T k n e) (iht:∀ e,fh B T k n e) (eh:CV B A target vs dA us I0 fp wr Pp St) (hW:∀ a∈[C]++(wr++[D]),s'.heap.get? a=none) (S:Sit k A envs aJ (P++([C]++(wr++[D])))) (hcl:aJ.locals=C) (AP:C≠D) (hCf:C∉fp) (hDf:D∉fp)
  (hcells:∀ x a,aJ.cells.lookup x=some a->a∈P) (I':Inv B envs P μ yL s') (bk:vs.length<=ai)
  (L:LF B envs aJ P ([C]++(wr++[D])) μ s'.heap dA us St fp D [] yL fO [] 0 s)
  (H:Aft B envs P μ [] s'.heap ((dY (ev T n) aJ.scope elt target ifs fO vs yL).bind fun r=>.ok ((r.1,r.2),r.2)) (yK B A envs P s'.heap E use Q) E) :
  codeAny (cr B.prog B.w) A (.compLoop (.ListComp elt [⟨target,iter,ifs,0⟩] scope pos) 0 (.ref I0) (.ref D) aJ) (compPost (cr B.prog B.w) A E use Q (.ref D) C) s:=by
 subst hcl;have ic:ie P envs:=I'.frIn;have hPW:∀ a∈[aJ.locals]++(wr++[D]),a∉P:=fun a m q=>by obtain⟨o,e⟩:=I'.dom a (aq _ q);rw[hW a m]at e;exact nn e
 have hwrW:∀ a∈wr,a∈[aJ.locals]++(wr++[D]):=fun a m=>aq _ (bo _ m)
 have F1:aJ.locals∈[aJ.locals]++(wr++[D]):=aW;have Lj:D∈[aJ.locals]++(wr++[D]):=aq _ (aq _ aW);refine CZ (fun m s=>∃ i ν O ρ acc,m=vs.length+1-i/\i<=vs.length/\LF B envs aJ P ([aJ.locals]++(wr++[D])) μ s'.heap dA us St fp D ν O ρ acc i s /\
  Aft B envs P μ [] s'.heap (mj acc (dY (ev T n) aJ.scope elt target ifs ρ (vs.drop i) O)) (yK B A envs P s'.heap E use Q) E) ?_ (vs.length+1)
  ⟨0,[],yL,fO,[],rfl,YC _,L,by rw[FY];exact H⟩
 rintro m s ⟨i,ν,O,ρ,acc,rfl,hi,L,H⟩;by_cases hlt:i<vs.length
 ·exact C4 ih iht eh hwrW hW S F1 Lj AP hCf hDf (fun x a e m=>hPW a m (hcells x a e)) ic hPW bk L hlt H (fun L row h=>AN L S rfl F1 hW ic hPW h) (fun _ _ h=>h) fun L5 H5=>⟨vs.length+1-(i+1),adT (aei hlt) (ZG i),i+1,_,_,_,_,rfl,hlt,L5,H5⟩
 ·exact F0 eh ic hPW hwrW F1 Lj AP hCf hDf hW L (by rwa[Yq hi (pH hlt),aa2]at H) (Yq hi (pH hlt)) fun _ h=>h
theorem AQ{A:bY}{use:Option (am->Xm Unit)}{ifs:List Expr}{pos S5:YZ}{fO:af}(BO:aP B)
  (ih:∀ e,aY B T k n e) (iht:∀ e,fh B T k n e) (hset:∀ sc es q p ρ O,ev T n sc (.Set es q p) ρ O= .stuck) (ht:cM target=true) (eC:lM scope=true) (hc:io scope env.scope ρ=some fO) (S:Sit k A envs env P) (I:Inv B envs P μ O s) (r:SR B env P μ ρ s.heap)
  (H:Aft B envs P μ [] s.heap ((dX (fun e O=>ev T n env.scope e ρ O) (bd env.scope ρ) (eB target) iter O).bind fun a =>
    if a.1.length<=ai then(dY (ev T n) (bK scope env.scope) elt target ifs fO a.1 a.2).bind fun r=>.ok ((r.1,r.2),r.2)else .stuck) (yK B A envs P s.heap E use Q) E) :
  wpAny (cr B.prog B.w) A (agx (.ListComp elt [⟨target,iter,ifs,0⟩] scope pos) scope env S5 (newList []) false (eval iter env) use) Q E s:=by
 have Nh:=eC;generalize((bM Nh)).1=Ni;generalize((bM Nh)).2=uK;generalize((bM Ni)).1=qj;generalize((bM Ni)).2=iX;have qj:scope.kind= .function:=of_decide_eq_true qj;have iX:(scope.names.map (·.1)).Nodup:=of_decide_eq_true iX;generalize((iW hc iX)).1=i1;have N7:∀ y∈scope.names,y.2≠.cell:=fun y hy q=>by rcases i1 y hy with z|z|z<;>rw[z]at q<;>cases q
 have Lk:∀ y∈scope.names,y.2= .local->scope.names.lookup y.1=some .local:=fun y hy q=>dj iX (by obtain⟨a,b⟩:=y;subst q;exact hy)
 have fZ:dX (fun e O=>ev T n env.scope e ρ O) (bd env.scope ρ) (eB target) iter O≠.stuck:=fun e=>by rw[e]at H;exact H
 obtain⟨N8,_⟩:=rV (k:=k) (A:=A) (envs:=envs) (W:=[s.heap.objs.size]) (C:=s.heap.objs.size) (h:=s.heap.push { cls:=.type "dict",data:=.dict #[] }) S r eC hc (by simp) (fun a m=>by rw[a8 m];exact bp _) (fun b o e=>ag _ e) (Heap.Ns.new ..);refine wpAny_comprehension_free (use:=use) rfl (AK (fun es q p O=>hset _ es q p ρ O) fZ) N8 qj Lk ?_;refine E3 BO ih ht S I r (H.bind fun vs aS aT s1 Z f1 I1 g1 H1=>?_);obtain⟨bk,H1⟩:=Aft.ite H1;intro I0 fp wr dA us Pp St h2 tk eh st0 kp R0 hwr hfp;have r1:=r.go g1 f1 I.apart S.own S.cellsIn;refine Yg (wpAny_newFunctionEnv N7 (by intro y hy;simp at hy) (fun h3 E5 E6=>?_) qj);dsimp only at E5 E6 ⊢;generalize N9:h2.push { cls:=.type "list",dict:=none,data:=.seq ([]:List am).toArray }=H2 at E5 E6 ⊢;have hC:H2.objs.size=h2.objs.size+1:=by rw[<- N9,Yw]
 have hDC:h2.objs.size≠H2.objs.size:=by rw[hC];exact jr (ZG _)
 have old:∀ b o,h2.get? b=some o->h3.get? b=some o:=fun b o e=>E6.extBut b o (fun q=>by have:=cR e;rw[q,hC]at this;exact absurd this (Nat.not_lt.mpr (Y9 _))) (ag _ (N9▸ag _ e))
 have xh:h3.IsList h2.objs.size #[]:=⟨_,E6.extBut _ _ hDC (ag _ (N9▸ct _ rfl)),rfl,_,rfl⟩
 have n2:∀ a,h2.get? a=none->s1.heap.get? a=none:=fun a e=>by
  induction q:s1.heap.get? a using aL with
  | none=>rfl
  | some o=>rw[kp a o q]at e;exact oQ e
 have nD:s1.heap.get? h2.objs.size=none:=n2 _ (bp _);have nC:s1.heap.get? H2.objs.size=none:=n2 _ (ku (by rw[hC];exact Y9 _));have hW:∀ a∈[H2.objs.size]++(wr++[h2.objs.size]),s1.heap.get? a=none:=fun a m=>by
  simp at m;rcases m with rfl|m|rfl
  ·exact nC
  ·exact hwr a m
  ·exact nD
 have C6:∀ b∈fp,∃ o,h2.get? b=some o:=eh.tn.live _ _ st0;have Ll:∀ b o,s1.heap.get? b=some o->h3.get? b=some o:=fun b o e=>old b o (kp b o e)
 have dW:∀ a∈[H2.objs.size]++(wr++[h2.objs.size]),∃ o,h3.get? a=some o:=fun a m=>by
  simp at m;rcases m with rfl|m|rfl
  ·obtain⟨o,_,_,e,_⟩:=E5;exact⟨o,e⟩
  ·obtain⟨o,e⟩:=C6 a (eh.tn.sub a m);exact⟨o,old a o e⟩
  ·obtain⟨o,e,_⟩:=xh;exact⟨o,e⟩
 have hCf:H2.objs.size∉fp:=fun m=>by obtain⟨o,e⟩:=C6 _ m;have:=cR e;rw[hC]at this;exact absurd this (Nat.not_lt.mpr (Y9 _))
 have hDf:h2.objs.size∉fp:=fun m=>by obtain⟨o,e⟩:=C6 _ m;exact Yl _ (cR e)
 generalize((rV (k:=k) (A:=A) (envs:=envs) (μ:=μ++aT) (W:=[H2.objs.size]++(wr++[h2.objs.size])) (C:=H2.objs.size) (s:=s1) (h:=h3) S r1 eC hc (by simp) hW Ll (by simpa using E5))).2=fr;have I3:Inv B envs (P++([H2.objs.size]++(wr++[h2.objs.size]))) (μ++aT) aS { s1 with heap:=h3,toks:=tk+([]:List (fw×am)).length }:=I1.more Ll hW dW;have mm:∀ a∈(μ++aT)++(P++([H2.objs.size]++(wr++[h2.objs.size]))),a∈(μ++aT)++P\/s1.heap.get? a=none:=gJ hW;have R3:Reps B h3 (μ++aT) ((μ++aT)++(P++([H2.objs.size]++(wr++[h2.objs.size])))) dA us:=Reps.move dA R0 (Kp.of_keeps Ll) (fun Z Z e=>e) mm;have Nj:St 0 h3:=eh.tn.frame _ _ _ st0 fun b Z o e=>old b o e
 have L:LF B envs (agp scope (gZ env scope.names []) H2.objs.size env) P ([H2.objs.size]++(wr++[h2.objs.size])) (μ++aT) s1.heap dA us St fp h2.objs.size [] aS fO [] 0 { s1 with heap:=h3,toks:=tk+([]:List (fw×am)).length } :=
  ⟨nofun,by rw[bP];exact I3,Go.of_keeps Ll,by rw[bP];exact fr.sr,by rw[bP];exact R3,Nj,⟨#[],xh,z0⟩,kG _,fun b hb m=>hfp b hb (bo _ (by rwa[bP]at m))⟩
 have loop:=F2 (use:=use) (Q:=Q) (E:=E) (elt:=elt) (iter:=iter) (ifs:=ifs) (scope:=scope) (pos:=pos) ih iht eh hW fr.sit rfl (Ne.symm hDC) hCf hDf (fun x a e=>S.cellsIn x a (fB e)) I1 bk L
  (Aft.mono H1 fun acc bV s' h C D a b c d e f=>h C D a b (by
   induction q:s.heap.get? C using aL with
   | none=>rfl
   | some o=>obtain⟨o',e'⟩:=g1.dm C o q;rw[c]at e';exact nn e') d e f)
 exact codeAny_compStart_list loop (eh.tn.self 0 _ _ _ Nj loop)
theorem F3{h:ir}{r:R (α×U)}{c:α->Prop}[DecidablePred c]{y:α->U->R (List V×U)}{K:V->List bQ->aO->Prop}{K':List V×U->List bQ->aO->Prop}
  (H:Aft B envs P μ [] h ((r.bind fun a=>if c a.1 then y a.1 a.2 else .stuck).bind fun r=>.ok (.lst r.1,r.2)) K E)
  (k:∀ a aS aT s1,(∀ a∈aT,h.get? a=none)->Inv B envs P (μ++aT) aS s1->Go μ [] h s1.heap->(∀ ν s',(∀ a∈ν,h.get? a=none)->Inv B envs P (μ++ν) aS s'->Go μ [] h s'.heap->K (.lst a) (μ++ν) s')->K' (a,aS) (μ++aT) s1) :
  Aft B envs P μ [] h (r.bind fun a=>if c a.1 then(y a.1 a.2).bind fun r=>.ok ((r.1,r.2),r.2)else .stuck) K' E:=by
 cases r with
 | stuck=>exact H
 | exc row=>exact H
 | ok a =>
  have H':Aft B envs P μ [] h ((if c a.1 then y a.1 a.2 else .stuck).bind fun r=>.ok (.lst r.1,r.2)) K E:=H;show Aft B envs P μ [] h (if c a.1 then(y a.1 a.2).bind fun r=>.ok ((r.1,r.2),r.2)else .stuck) K' E;by_cases q:c a.1
  ·rw[if_pos q]at H' ⊢;cases hy:y a.1 a.2 with
   | stuck=>rw[hy]at H';exact H'
   | exc row=>rw[hy]at H';exact H'
   | ok b=>rw[hy]at H';exact fun ν s' h1 h2 h3=>k b.1 b.2 ν s' h1 h2 h3 H'
  ·rw[if_neg q]at H';exact H'.elim
theorem ww{ifs:List Expr}{pos:YZ}(BO:aP B)(ih:∀ e,aY B T k n e)(iht:∀ e,fh B T k n e)(hset:∀ sc es q p ρ O,ev T n sc (.Set es q p) ρ O= .stuck) :
  aY B T k (n+1) (.ListComp elt [⟨target,iter,ifs,0⟩] scope pos):=by
 intro A envs env P μ O s ρ Q E S I r H;have H':Aft B envs P μ [] s.heap (if(cM target&&lM scope)=true then(ah (io scope env.scope ρ)).bind fun fO=>((dX (fun e O=>ev T n env.scope e ρ O) (bd env.scope ρ) (eB target) iter O).bind fun a =>
    if a.1.length<=ai then dY (ev T n) (bK scope env.scope) elt target ifs fO a.1 a.2 else .stuck).bind fun r=>.ok (.lst r.1,r.2)
    else .stuck) (KV B P Q) E:=H
 generalize((Aft.ite H')).1=hc;generalize((Aft.ite H')).2=H';generalize((bM hc)).1=ht;generalize((bM hc)).2=eC;obtain⟨fO,yM,H'⟩:=H'.opt;rw[eval_ListComp];refine AQ BO ih iht hset ht eC yM S I r (F3 (r:=dX (fun e O=>ev T n env.scope e ρ O) (bd env.scope ρ) (eB target) iter O) (c:=fun l=>l.length<=ai) (y:=fun l O=>dY (ev T n) (bK scope env.scope) elt target ifs fO l O) H' fun a aS aT s1 f1 I1 g1 H1 C D IC hCP AL hm R hne=>?_);obtain⟨m,hm⟩:=hm;refine⟨m,hm,fun h' cC=>?_⟩;have hk:∀ b o,b∉[C]->s1.heap.get? b=some o->h'.get? b=some o:=fun b o hb e=>cC.extBut b o (fun z=>hb (by simp[z])) e
 have hPC:∀ a∈[C],a∉P:=fun a m=>by rw[a8 m];exact hCP
 have I2:Inv B envs P (μ++aT) aS { s1 with heap:=h' }:=Inv.drop (tk:=s1.toks) IC I.frIn hPC hk;have g2:Go μ [] s.heap h':=⟨fun a o e n1 n2=>hk a o (fun z=>by rw[a8 z,AL]at e;exact nn e) (g1.kp a o e n1 n2),fun a o e=>by
  obtain⟨o',e'⟩:=g1.dm a o e;exact⟨o',hk a o' (fun z=>by rw[a8 z,AL]at e;exact nn e) e'⟩⟩
 refine H1 aT { s1 with heap:=h' } f1 I2 g2 _ ?_;obtain⟨a',xs,e,nD,⟨o,ho,hl⟩,hr⟩:=AE R;cases e
 exact zL (fun q=>nD (by
  rcases bU q with q|q
  ·exact bo _ q
  ·exact aq _ (bo _ q))) (⟨o,hk D o (fun z=>hne (a8 z)) ho,hl⟩) (hr.drop hk)
theorem rW{h:ir}{μ X:List bQ} : ∀ {l:List V} {q:List Atom} {us:List am},Reps B h μ X l us->dC l=some q->ItemsAre (gE B.prog B.w) q us
 | [],q,us,r,e=>by
  obtain rfl:=b8 r;obtain rfl:=si e;exact .nil
 | v::vs,q,us,r,e=>by
  replace r:=ba r;obtain⟨u,r0,rfl,r1,r2⟩:=r;have e:((pK v).bind fun a=>(dC vs).map fun r=>a::r)=some q:=e;induction ha:pK v using aL with
  | none=>rw[ha]at e;exact nn e
  | some a =>
   induction hp:dC vs using aL with
   | none=>rw[ha,hp]at e;exact nn e
   | some p =>
    rw[ha,hp]at e;obtain rfl:=si e;refine .cons ?_ (rW r2 hp);induction v using V.casesOn with
    | int i=>obtain rfl:=si ha;obtain⟨t,rfl⟩:=uF r1;simp[gE,Atom.isOf,adt]
    | str s=>obtain rfl:=si ha;obtain⟨t,rfl⟩:=AF r1;simp[gE,Atom.isOf,abQ]
    | _=>exact nn ha
theorem Iy{h:ir}{q:List Atom}(r:Rep B h μ X v u)(e:fg v=some q):∃ a,u= .ref a/\a∉X/\(bt B.prog B.w).is h q a/\Ad h a:=by
 induction v using V.casesOn with
 | tup l =>
  replace r:=iR r;refine ab fun Z gG=>?_;obtain⟨a,xs,rfl,na,⟨o,m,ho,hc,oj,hd⟩,hr⟩:=r;refine gG ?_;clear gG
  exact⟨a,rfl,na,⟨o,xs,m,ho,hc,hd,rW hr e⟩,o,ho,oj⟩
 | _=>exact nn e
theorem Exc.outer0{W Y:List bQ}(x:Exc B envs (P++W) μ Y' aF e row s)(f:ie P envs)(g:Go μ Y h₀ aF)(hY:∀ a∈Y',a∈Y\/h₀.get? a=none):Exc B envs P μ Y h₀ e row s :=
 Exc.outer (P:=P) (W:=W) (μ:=μ) (ν:=[]) (Y':=Y') (by rw[bP];exact x) f g nofun hY
theorem Iz{A:bY}(h:A.units<=6000):(bt B.prog B.w).room A:=by
 show A.units<ZZ;show A.units<9900;exact lB ‹_<=6000› rfl
theorem C7{ke ve:Expr}{pos:YZ}(ih:∀ e,aY B T k n e):aY B T k (n+1) (.Dict [some ke] [ve] pos):=by
 intro A envs env P μ O s ρ Q E S I r H;have H':Aft B envs P μ [] s.heap ((ev T n env.scope ke ρ O).bind fun a=>(ev T n env.scope ve ρ a.2).bind fun b=>(ah (fg a.1)).bind fun k=>.ok (.dct [k] [b.1],b.2)) (KV B P Q) E:=H;rw[arm_eval_Dict,show(evalEachOpt [some ke] env).zip ((acM [ve] env).map fun v=>do let x<-v;standAt pos;pure x)=([(eval ke env,do let x<-eval ve env;standAt pos;pure x)]:List (Xm am×Xm am)).map fun p=>(some p.1,p.2)from rfl,dictDisplay_pairs _ (by simp) (by simp)];refine aa (Ye (aa ?_));unfold subDict;refine aa (aes ?_);refine aa (eG ?_);rw[if_pos (by simp)];have Oa:s.heap.get? s.heap.objs.size=none:=bp _;have kp:∀ b o,s.heap.get? b=some o->(s.heap.push { cls:=.type "dict",data:=.dict #[] }).get? b=some o:=fun b o e=>ag _ e
 have hW:∀ a∈[s.heap.objs.size],s.heap.get? a=none:=fun a m=>by rw[a8 m];exact Oa
 have gd:(s.heap.push { cls:=.type "dict",data:=.dict #[] }).get? s.heap.objs.size=some { cls:=.type "dict",data:=.dict #[] }:=ct _ rfl;have I1:Inv B envs (P++[s.heap.objs.size]) μ O { s with heap:=s.heap.push { cls:=.type "dict",data:=.dict #[] } }:=I.more (tk:=s.toks) kp hW fun a m=>by rw[a8 m];exact⟨_,gd⟩
 have r1:SR B env (P++[s.heap.objs.size]) μ ρ (s.heap.push { cls:=.type "dict",data:=.dict #[] }):=r.more kp hW;have S1:Sit k A envs env (P++[s.heap.objs.size]):=S.more;have n0:∀ a,(s.heap.push { cls:=.type "dict",data:=.dict #[] }).get? a=none->s.heap.get? a=none:=fun a e=>by
  induction q:s.heap.get? a using aL with
  | none=>rfl
  | some o=>rw[kp a o q]at e;exact oQ e
 refine aa (evalPairs_cons (ih ke S1 I1 r1 (Aft.inner H' (fun a ky eY s2 Z f2 I2 g2 H2 u2 R2=>?_) fun row h e s' x=>h e s' (x.outer0 I.frIn (Go.of_keeps kp) nofun))));replace g2:Go μ [] (s.heap.push { cls:=.type "dict",data:=.dict #[] }) s2.heap:=g2;have r2:=r1.go g2 f2 I1.apart S1.own S1.cellsIn;have Ob:Go μ [] s.heap s2.heap:=(Go.of_keeps kp).trans g2;have Oc:∀ a∈eY,s.heap.get? a=none:=fun a m=>n0 a (f2 a m)
 refine aa (ih ve S1 I2 r2 (Aft.inner H2 (fun b HU um s3 Z f3 I3 g3 H3 u3 R3=>aa (Ye (ae ?_))) fun row h e s' x=>h e s' (x.outer I.frIn Ob Oc nofun)));refine evalPairs_nil ?_;obtain⟨q,hq,H3⟩:=H3.opt;have Ra:=R2.go g3 f3 nofun
 obtain⟨a',rfl,na,hk,Od⟩:=Iy Ra hq;have hdm:s.heap.objs.size∉(μ++eY)++um:=fun m=>I3.apart _ m (aq _ (by simp))
 have hdm2:s.heap.objs.size∉μ++eY:=fun m=>hdm (bo _ m)
 have U5:s3.heap.get? s.heap.objs.size=some { cls:=.type "dict",data:=.dict #[] }:=g3.kp _ _ (g2.kp _ _ gd (fun m=>hdm2 (bo _ m)) nofun) hdm2 nofun
 have hm:s3.heap.DictOfH (bt B.prog B.w) s.heap.objs.size []:=⟨_,#[],0,U5,⟨rfl,rfl,rfl⟩,rfl,rfl,fun Z hx=>by simp at hx,Z2⟩
 refine eG ?_;rw[aaq];refine aa (aa (aa (aeU (Iz S.units') hk hm (fun h' uL cC=>ae ?_) (by simp[aeu]))));show wpAny (cr B.prog B.w) A (pure adG:Xm PUnit) _ _ _;refine ae (ae (ae (ae ?_)));have hkk:∀ b o,b∉[s.heap.objs.size]->s3.heap.get? b=some o->h'.get? b=some o:=fun b o hb e=>cC.extBut b o (fun z=>hb (by simp[z])) e
 have hPW:∀ a∈[s.heap.objs.size],a∉P:=fun a m q=>by obtain⟨o,e⟩:=I.dom a (aq _ q);rw[hW a m]at e;exact nn e
 have S6:Go μ [] s.heap s3.heap:=Ob.trans_new Oc g3;have U6:∀ a∈eY++um,s.heap.get? a=none:=fun a m=>by
  rcases bU m with m|m
  ·exact Oc a m
  ·exact Ob.none (f3 a m)
 rw[fC]at I3 R3 hdm Ra;refine H3 (eY++um) { s3 with heap:=h',toks:=_ } U6 (Inv.drop I3 I.frIn hPW hkk) ⟨fun a o e n1 n2=>hkk a o (fun z=>by rw[hW a z]at e;exact nn e) (S6.kp a o e n1 n2),fun a o e=>?_⟩ _ ?_
 ·obtain⟨o',e'⟩:=S6.dm a o e;exact⟨o',hkk a o' (fun z=>by rw[hW a z]at e;exact nn e) e'⟩
 ·show Exists _;refine⟨s.heap.objs.size,[u3],rfl,fun z=>?_,⟨[(q,a',u3)],uL,rfl,fun x hx=>?_,rfl⟩,?_⟩
  ·rcases bU z with z|z
   ·exact hdm z
   ·exact hPW _ (by simp) z
  ·rw[a8 hx];refine⟨?_,?_⟩;rotate_left
   ·obtain⟨ob,hb,hbd⟩:=Od;exact⟨ob,hkk a' ob (fun z=>na (aq _ (aq _ z))) hb,hbd⟩
   intro z;apply na;rcases bU z with z|z
   ·exact bo _ (by rw[fC];exact z)
   ·exact aq _ (bo _ z)
  ·show Exists _;have:Reps B s3.heap (μ++(eY++um)) ((μ++(eY++um))++(P++[s.heap.objs.size])) [b] [u3]:=z1 R3;have:=this.drop hkk;exact this
structure jj(B:bw):Prop where
 bin:∀ op,HS B (abz op) (b9 op)
 neg:∀ {A:bY} {s:aO} {i:Int} {t:BY} {Q:am->aO->Prop} {E:am->aO->Prop},(∀ tk t',Q (.int (-i) t') { s with toks:=tk })->wpAny (cr B.prog B.w) A (unaryOp .USub (.int i t)) Q E s
 cmp:oV B
 item:tK B
 slice:pW B
 funs:CN B
 meth:yx B
theorem ix{e:Expr}(h:∀ sc ρ O,ev T n sc e ρ O= .stuck):aY B T k n e:=by
 intro A envs env P μ O s ρ Q E S I r H;rw[h]at H;exact H.elim
theorem yN:∀ (n:Nat) (sc:gK) (es:List Expr) (q:Nat) (p:YZ) (ρ:af) (O:U),ev T n sc (.Set es q p) ρ O= .stuck
 | 0,_,_,_,_,_,_=>rfl
 | _+1,_,_,_,_,_,_=>rfl
theorem sN:(YO:Option fw)=none:=rfl
theorem aN:(YO:Option (Expr×fw×YZ))=none:=rfl
theorem IA{P:Prop}{f:Expr}(h1:∀ g p,f= .Name g p->P)(h2:∀ o m p,f= .Attribute o m p->P)(h3:ik f=none->HI f=none->P):P:=by
 induction f using ge with
 | Name g p=>exact h1 g p rfl
 | Attribute o m p=>exact h2 o m p rfl
 | _=>exact h3 sN aN
theorem AR{gens:List aaA}{x:Expr×Expr×List Expr}(h:mG gens=some x):gens=[⟨x.1,x.2.1,x.2.2,0⟩]:=by
 obtain⟨⟨t,i,f,a⟩,e,h⟩:=Option.bind_eq_some_iff.mp h;rw[gB e,<- (ifs h).2];obtain rfl:a=0:=(ifs h).1;rfl
theorem rX{ks:List (Option Expr)}{vs:List Expr}{x:Expr×Expr}(h:mH ks vs=some x):ks=[some x.1]/\vs=[x.2]:=by
 obtain⟨k,e,h⟩:=Option.bind_eq_some_iff.mp h;obtain⟨k,rfl,h⟩:=Option.bind_eq_some_iff.mp h;obtain⟨v,e2,h⟩:=Option.map_eq_some_iff.mp h;rw[gB e,gB e2,<- h];exact⟨rfl,rfl⟩
theorem F4(BO:aP B)(TO:dn B k T)(OO:jj B)(ih:∀ e,aY B T k n e)(iht:∀ e,fh B T k n e):∀ e,aY B T k (n+1) e:=fun e=>by
 induction e using ge with
 | Constant c q pos=>exact wj
 | Name x pos=>exact FI BO TO
 | BoolOp op es pos=>exact Am ih
 | BinOp l op r pos=>exact CI ih (OO.bin op)
 | UnaryOp op x pos=>exact yq ih OO.neg
 | IfExp t a b pos=>exact CJ ih iht
 | Compare l cA es pos=>exact yr OO.cmp ih
 | Tuple es q pos=>exact CK ih
 | List es pos=>exact CL ih
 | Subscript o i pos=>exact un OO.item OO.slice ih
 | Attribute o x pos=>exact uq TO ih
 | Call f args pN pos =>
  induction pN using cz with
  | nil =>
   refine IA (f:=f) (fun g p q=>?_) (fun o m p q=>?_) fun h1 h2=>ix fun Z Z Z=>?_
   ·rw[q];exact wm BO TO OO.funs ih
   ·rw[q];exact wo TO OO.meth ih
   ·show yk _ _ _ _ _ _ _ (ik f) (HI f)=_;rw[h1,h2];rfl
  | cons kw pN=>exact ix fun Z Z Z=>rfl
 | ListComp elt gens scope pos =>
  induction h:mG gens using aL with
  | none =>
   refine ix fun Z Z Z=>?_;show(match mG gens with|some x=>_|none=>_)=_;rw[h]
  | some x =>
   rw[AR h];exact ww BO ih iht fun sc es q p ρ O=>yN n sc es q p ρ O
 | Dict ks vs pos =>
  induction h:mH ks vs using aL with
  | none =>
   refine ix fun Z Z Z=>?_;show(match mH ks vs with|some x=>_|none=>_)=_;rw[h]
  | some x =>
   rw[(rX h).1,(rX h).2];exact C7 ih
 | _=>exact ix fun Z Z Z=>rfl
theorem F5:∀ e,aY B T k 0 e:=fun Z=>ix fun Z Z Z=>rfl
theorem F6:∀ e,fh B T k 0 e:=fun e=>by
 intro A envs env P μ O s ρ Q E S I r H;exact H.elim
theorem gb(BO:aP B)(TO:dn B k T)(OO:jj B):∀ n,(∀ e,aY B T k n e)/\∀ e,fh B T k n e
 | 0=>⟨F5,F6⟩
 | n+1=>by
  generalize((gb BO TO OO n)).1=a;generalize((gb BO TO OO n)).2=b;generalize(F4 BO TO OO a b)=c;exact⟨c,FM OO.cmp a b c⟩
noncomputable def k7(B:bw)(F:gK->Expr->af->U->R (V×U))(k:Nat)(e:Expr):Prop :=
 ∀ {A:bY} {envs:List YY} {env:YY} {P μ:List bQ} {O:U} {s:aO} {ρ:af} {Q:am->aO->Prop} {E:am->aO->Prop},Sit k A envs env P->Inv B envs P μ O s->SR B env P μ ρ s.heap ->
  Aft B envs P μ [] s.heap (F env.scope e ρ O) (KV B P Q) E->wpAny (cr B.prog B.w) A (eval e env) Q E s
theorem C8{F:gK->Expr->af->U->R (V×U)}(ih:∀ e,k7 B F k e)(iu:∀ sc q p ρ O,F sc (.Starred q p) ρ O= .stuck){A:bY}{pos:YZ}(S:Sit k A envs env P) :
  ∀ {μ:List bQ} {O:U} {s:aO} {Q:List am->aO->Prop},Inv B envs P μ O s->SR B env P μ ρ s.heap ->
   Aft B envs P μ [] s.heap (a9 (fun e O=>F env.scope e ρ O) es O) (K0 B P Q) E->wpAny (cr B.prog B.w) A (acJ (Yx pos (j8 es env))) Q E s:=by
 induction es with
 | nil =>
  intro μ O s Q I r H;exact aaC (Aft.here (O:=O) H I [] z0)
 | cons e es uf =>
  intro μ O s Q I r H;have H':Aft B envs P μ [] s.heap ((F env.scope e ρ O).bind fun a=>(a9 (fun e O=>F env.scope e ρ O) es a.2).bind fun q=>.ok (a.1::q.1,q.2)) (K0 B P Q) E:=H;have he:j8 (e::es) env=(false,eval e env)::j8 es env:=by
   induction e using ge with
   | Starred q p =>
    exfalso;rw[iu]at H';exact H'
   | _=>rfl
  refine afq (ih e S I r (H'.bind fun a aS aT s1 Z f1 I1 g1 H1 u1 R1=>?_)) he;refine uf I1 (r.go g1 f1 I.apart S.own S.cellsIn) (H1.bind fun q ky eY s2 Z f2 I2 g2 H2 us R2=>?_);exact H2.here I2 (u1::us) (zC (R1.go g2 f2 nofun) R2)
theorem yP:∀ (n:Nat) (sc:gK) (q:Expr) (p:YZ) (ρ:af) (O:U),bT T n sc (.Starred q p) ρ O= .stuck
 | 0,_,_,_,_,_=>rfl
 | 1,_,_,_,_,_=>rfl
 | _+2,_,_,_,_,_=>rfl
theorem yQ(h:μ.length=O.length)(a:bQ):(μ++[a])[O.length]?=some a:=by
 rw[<- h,eM (kG _),Z5];rfl
theorem C9{pos:YZ}(ih:∀ e,aY B T k n e):k7 B (bT T (n+1)) k (.List es pos):=by
 intro A envs env P μ O s ρ Q E S I r H;generalize(H:Aft B envs P μ [] s.heap ((a9 (fun e O=>ev T n env.scope e ρ O) es O).bind fun a=>if a.1.length<=ai/\V.cleans a.1=true then .ok (.ref a.2.length,a.2++[.list a.1])else .stuck) (KV B P Q) E)=H';refine wpAny_List (fz ih S I r (H'.bind fun vs aS aT s1 Z f1 I1 g1 H1 us R1=>?_));generalize((H1.ite)).1=hc;generalize((H1.ite)).2=H1;refine⟨by rw[R1.length];exact eU hc.1,?_⟩;have I2:Inv B envs P ((μ++aT)++[s1.heap.objs.size]) (aS++[.list vs]) { s1 with heap:=s1.heap.push { cls:=.type "list",data:=.seq us.toArray } } :=
  I1.cell rfl ⟨hc.2,us.toArray,⟨_,_,ct _ rfl,rfl,rfl,rfl⟩,by simpa using R1.go (ν:=[s1.heap.objs.size]) (Go.push (μ++aT) [] _ _) (fun a m=>by rw[a8 m];exact bp _) nofun⟩
 refine H1 [s1.heap.objs.size] { s1 with heap:=_ } (fun a m=>by rw[a8 m];exact bp _) I2 (Go.push _ _ _ _) _ ?_;exact zR (yQ I1.len _)
theorem rY{pos:YZ}{A:bY}(h:Q (.ref s.heap.objs.size) { s with heap:=s.heap.push { cls:=.type "dict",data:=.dict #[] } }):wpAny M A (eval (.Dict [] [] pos) env) Q E s:=by
 rw[eval_Dict_empty];refine aa (Ye ?_);unfold newDict;first
  | exact aa (aes (ae h))
  | exact Yg h
theorem Db{pos:YZ} : k7 B (bT T (n+1)) k (.Dict [] [] pos):=by
 intro A envs env P μ O s ρ Q E S I r H;generalize(H:Aft B envs P μ [] s.heap (.ok (.ref O.length,O++[.dict [] []])) (KV B P Q) E)=H';refine rY ?_;have I2:Inv B envs P (μ++[s.heap.objs.size]) (O++[.dict [] []]) { s with heap:=s.heap.push { cls:=.type "dict",data:=.dict #[] } } :=
  I.cell rfl ⟨rfl,[],⟨[],adc _,rfl,nofun,rfl⟩,z0⟩
 refine H' [s.heap.objs.size] { s with heap:=_ } (fun a m=>by rw[a8 m];exact bp _) I2 (Go.push _ _ _ _) _ ?_;exact zR (yQ I.len _)
theorem AS{pos:YZ}(ih:∀ e,k7 B (bT T n) k e):k7 B (bT T (n+1)) k (.Tuple es q pos):=by
 intro A envs env P μ O s ρ Q E S I r H;generalize(H:Aft B envs P μ [] s.heap ((a9 (fun e O=>bT T n env.scope e ρ O) es O).bind fun a=>if a.1.length<=ai then .ok (.tup a.1,a.2)else .stuck) (KV B P Q) E)=H';refine wpAny_Tuple (C8 (F:=bT T n) ih (fun sc q p ρ O=>yP n sc q p ρ O) S I r (H'.bind fun vs aS aT s1 Z f1 I1 g1 H1 us R1=>?_));generalize((H1.ite)).1=hc;generalize((H1.ite)).2=H1;refine⟨by rw[R1.length];exact eU hc,?_⟩;exact H1.at0 (s:={ s1 with heap:=_ }) (I1.grow fun Z Z e=>ag _ e) (Go.push _ _ _ _) _ (Al I1 R1)
theorem xi(BO:aP B)(TO:dn B k T)(OO:jj B):∀ n,∀ e,k7 B (bT T n) k e
 | 0,e=>fun Z Z Z H=>H.elim
 | n+1,e=>by
  generalize((gb BO TO OO n).1)=ih;have other:(∀ sc ρ O,bT T (n+1) sc e ρ O=ev T n sc e ρ O)->k7 B (bT T (n+1)) k e:=fun h=>by
   intro A envs env P μ O s ρ Q E S I r H;rw[h]at H;exact ih e S I r H
  induction e using ge with
  | List es pos=>exact C9 ih
  | Tuple es q pos=>exact AS (xi BO TO OO n)
  | Dict ks vs pos =>
   induction ks using cz with
   | nil =>
    induction vs using cz with
    | nil=>exact Db
    | cons v vs=>exact other fun Z Z Z=>rfl
   | cons x ks=>exact other fun Z Z Z=>rfl
  | _=>exact other fun Z Z Z=>rfl
theorem uM{A:bY}{m:fw}{pos:YZ}{f:V×U->R (α×U)}{K:α->List bQ->aO->Prop}
  (TO:dn B k T) (ih:∀ e,aY B T k n e) (hc:bW args=true) (ji:(p.endLine==pos.line)=true) (S:Sit k A envs env P) (I:Inv B envs P μ O s) (r:SR B env P μ ρ s.heap)
  (H:Aft B envs P μ [] s.heap ((ev T n env.scope o ρ O).bind f) K E)
  (q:∀ a aS aT s1 u1,(∀ b∈aT,s.heap.get? b=none)->Go μ [] s.heap s1.heap->Inv B envs P (μ++aT) aS s1->SR B env P (μ++aT) ρ s1.heap->Rep B s1.heap (μ++aT) ((μ++aT)++P) a u1->Aft B envs P (μ++aT) [] s1.heap (f (a,aS)) K E ->
   ∃ (T id:String),PlainAttrs T/\Slot T m id/\typeOf (.builtin id)=pure (.type "method_descriptor")/\s1.TypeIs u1 T/\(∀ a,u1= .ref a->∃ ob,s1.heap.get? a=some ob/\ob.dict=none) /\
    wpAny (cr B.prog B.w) A (acJ (Yx pos (j8 args env))) (fun us s'=>wpAny (cr B.prog B.w) A (call (.builtin id) (u1::us) []) Q E s') E s1) :
  wpAny (cr B.prog B.w) A (eval (.Call (.Attribute o m p) args [] pos) env) Q E s:=by
 obtain⟨hs,ck⟩:=bM hc;have hp:(Yx pos (j8 args env)).any (·.1)=false:=by rw[aR hs];exact et
 have Dc:adq (args.length+([]:List adn).length) (Yx pos (j8 args env)) (acb pos (aaD [] env))=true:=by
  have h1:(Yx pos (j8 args env)).all (fun x=>!x.1)=true:=by
   rw[aR hs];simp[Yx]
  have h2:args.length<30:=by simpa using ck
  show(_&&_&&_)=true;rw[h1];simp[h2,show acb pos (aaD [] env)=[]from rfl]
 have IB:ZY true o env p pos=pure pos:=by unfold ZY;simp[ji]
 show wpAny _ _ (do
  let ov<-Z0 o m env (eval o env)
  standAt p.atName
  methodCall o m p pos env ov (args.length+([]:List adn).length) (Yx pos (j8 args env)) (acb pos (aaD [] env))) Q E s
 refine aa (uo TO ih S I r (H.bind fun a aS aT s1 Z f1 I1 g1 H1 u1 R1=>aa (Ye ?_)));obtain⟨Tn,id,pa,slot,HZ,hT,hd,oW⟩:=q a aS aT s1 u1 f1 g1 I1 (r.go g1 f1 I.apart S.own S.cellsIn) R1 H1;unfold methodCall;rw[Dc];refine aa (eG (aff hT pa slot HZ hd ?_));refine aa (aaB IB ?_);exact cj hp (.inr rfl) (gX hs (Yj oW (fun us s' h=>⟨fun Q' q=>ae q,h⟩) fun Z Z e=>e))
theorem Aft.bindN{Y:List bQ}{h:ir}{r:R (β×U)}{g:β×U->R (γ×U)}{K:γ->List bQ->aO->Prop}{K':β->List bQ->aO->Prop}
  (x:Aft B envs P μ Y h (r.bind g) K E) (k:∀ b ar ν s',r= .ok (b,ar)->(∀ a∈ν,h.get? a=none)->Inv B envs P (μ++ν) ar s'->Go μ [] h s'.heap->Aft B envs P (μ++ν) Y s'.heap (g (b,ar)) K E->K' b (μ++ν) s') :
  Aft B envs P μ [] h r K' E:=by
 induction r using R.casesOn with
 | ok a=>exact fun ν s' h1 h2 h3=>k a.1 a.2 ν s' rfl h1 h2 h3 (Aft.shift x h3.of_nil h1)
 | exc row=>exact fun e s' h1=>x e s' (h1.wide nofun)
 | stuck=>exact x
theorem Inv.setc(x:Inv B envs P μ O s){c:Cell}(ha:μ[i]?=some a)(hs:fq a s.heap h')(he:∃ o,h'.get? a=some o)(hc:CellAt B h' μ (μ++P) c a) :
  Inv B envs P μ (fY O i c) { s with heap:=h',toks:=tk }/\Go μ [] s.heap h':=by
 have hm:a∈μ:=fU ha;have kp:∀ b o,b≠a->s.heap.get? b=some o->h'.get? b=some o:=fun b o hb e=>hs.extBut b o hb e
 have kX:Kp (μ++P) s.heap h':=fun b o e m=>kp b o (fun q=>m (q▸bo _ hm)) e
 refine⟨⟨fun b o e=>kp b o (fun q=>by rw[q,x.new a (bo _ hm)]at e;exact nn e) (x.stays b o e),x.gens,x.os,x.new,fun b m=>?_,x.nodup,x.apart,by simp[fY,x.len],fun j c' b h1 h2=>?_,fun e to=>?_⟩,⟨fun b o e n1 Z=>kp b o (fun q=>n1 (q▸hm)) e,fun b o e=>?_⟩⟩
 ·by_cases q:b=a
  ·subst q;exact he
  ·obtain⟨o,e⟩:=x.dom b m;exact⟨o,kp b o q e⟩
 ·unfold fY at h1;by_cases hij:i=j
  ·subst hij;have hlt:i<O.length:=by rw[<- x.len];exact(iQ ha).1
   rw[abb hlt]at h1;rw[ha]at h2;obtain rfl:=si h1;obtain rfl:=si h2
   exact hc
  ·rw[abH hij]at h1;have Oe:b≠a:=fun q=>hij (by
    have h3:=iQ ha;have h4:=iQ h2;exact(ael x.nodup).mp (h3.2.trans (q▸h4.2.symm)))
   exact(x.cells j c' b h1 h2).move kX (fun o e=>kp b o Oe e) (fun Z Z e=>e) fun Z m=>.inl m
 ·refine ab fun Z gG=>?_;obtain⟨iV,L,h1,h2,o,es,n,ho,hd⟩:=x.frs e to;refine gG ?_;clear gG
  exact⟨iV,L,h1,h2,o,es,n,kp L o (fun q=>x.apart a hm (q▸h2)) ho,hd⟩
 ·by_cases q:b=a
  ·subst q;exact he
  ·exact⟨o,kp b o q e⟩
noncomputable def ID(B:bw):Prop :=
 ∀ {A:bY} {envs:List YY} {P μ:List bQ} {O ar:U} {s:aO} {a b v:V} {u w x:am} {Q:Unit->aO->Prop} {E:am->aO->Prop},A.handled=none->A.depth<=600->A.units<=6000->Inv B envs P μ O s->Rep B s.heap μ (μ++P) a u->Rep B s.heap μ (μ++P) b w->Rep B s.heap μ (μ++P) v x ->
   cW a b v O=some ar->(∀ s',Inv B envs P μ ar s'->Go μ [] s.heap s'.heap->Q () s')->wpAny (cr B.prog B.w) A (afb u w x) Q E s
noncomputable def IE(B:bw):Prop :=
 ∀ {A:bY} {envs:List YY} {P μ:List bQ} {O ar:U} {s:aO} {a:V} {u:am} {r:bQ} {lo hi:Int} {t1 t2 t3:BY} {Q:am->aO->Prop} {E:am->aO->Prop},A.handled=none->A.depth<=600->A.units<=6000->Inv B envs P μ O s->Rep B s.heap μ (μ++P) a u ->
   s.heap.get? r=some { cls:=.type "range",dict:=none,data:=.fields #[.int lo t1,.int hi t2,.int 1 t3],slots:=#[] }->r∉μ++P->lo<2 ^ 31->-(2 ^ 31)<lo->hi<2 ^ 31->-(2 ^ 31)<hi->gW a (bc lo (hi-lo).toNat) O=some ar ->
   (∀ s',Inv B envs P μ ar s'->Go μ [] s.heap s'.heap->Q .none s')->wpAny (cr B.prog B.w) A (call (.builtin "list.extend") [u,.ref r] []) Q E s
noncomputable def jK(xv:am):Xm aaV:=do
 let e<-holding [] (excFromValue xv "exceptions must derive from BaseException")
 let e<-if<-isType xv then holding [e] (raisedFor xv e)else raisedInstance e
 setFlight e none
 raiseNew e
noncomputable def AT(B:bw):Prop :=
 ∀ {A:bY} {envs:List YY} {P μ:List bQ} {O:U} {s:aO} {l:List Nat} {row:Int} {t t2:BY} {Q:aaV->aO->Prop} {E:am->aO->Prop},A.frames=some envs->A.handled=none->A.depth<=600->A.units<=6000->Inv B envs P μ O s ->
   (∀ e s',Exc B envs P μ [] s.heap e row s'->E e s')->wpAny (cr B.prog B.w) A (call (.ref B.cE) [.str (aB l) t,.int row t2] []) (fun xv s1=>wpAny (cr B.prog B.w) A (jK xv) Q E s1) E s
structure uN(B:bw):Prop where
 set:ID B
 ext:IE B
 rse:AT B
 err:B.mg (ac "SettingError")=some (.ref B.cE)
 errk:Kept B (.ref B.cE)
noncomputable def KF(B:bw)(env:YY)(P:List bQ)(Q:aaV->aO->Prop):Fl×af->List bQ->aO->Prop:=fun a μ s=>SR B env P μ a.2 s.heap->match a.1 with
 | .next=>Q .next s
 | .cont=>Q .cont s
 | .brk=>Q .brk s
 | .ret v=>∀ u,Rep B s.heap μ (μ++P) v u->Q (.ret u) s
noncomputable def d5(B:bw)(F:gK->lI->af->U->b7)(k:Nat)(st:lI):Prop :=
 ∀ {A:bY} {envs:List YY} {env:YY} {P μ:List bQ} {O:U} {s:aO} {ρ:af} {Q:aaV->aO->Prop} {E:am->aO->Prop},Fit k A envs env P->Inv B envs P μ O s->SR B env P μ ρ s.heap ->
  Aft B envs P μ (own env) s.heap (F env.scope st ρ O) (KF B env P Q) E->wpAny (cr B.prog B.w) A (exec st env) Q E s
theorem SR.goO{h:ir}{A:bY}(S:Fit k A envs env P)(x:SR B env P μ ρ h)(g:Go μ [] h h')(hν:∀ a∈ν,h.get? a=none)(ap:∀ a∈μ,a∉P):SR B env P (μ++ν) ρ h' :=
 x.go g hν ap S.own S.cellsIn
theorem jL{F:gK->lI->af->U->b7}(ih:∀ st,d5 B F k st){A:bY}{envs:List YY}{env:YY}{P:List bQ}{Q:aaV->aO->Prop}{E:am->aO->Prop}(S:Fit k A envs env P):∀ (ss:List lI) {μ:List bQ} {O:U} {s:aO} {ρ:af},Inv B envs P μ O s->SR B env P μ ρ s.heap ->
  Aft B envs P μ (own env) s.heap (ay (F env.scope) ss ρ O) (KF B env P Q) E->wpAny (cr B.prog B.w) A (adR ss env) Q E s
 | [],μ,O,s,ρ,I,r,H=>YJ (Aft.here (O:=O) (b:=(Fl.next,ρ)) H I r)
 | st::ss,μ,O,s,ρ,I,r,H=>by
  have H':Aft B envs P μ (own env) s.heap ((F env.scope st ρ O).bind fun a=>match a.1.1 with
   | .next=>ay (F env.scope) ss a.1.2 a.2
   | _=>.ok a) (KF B env P Q) E:=H
  refine Yd (ih st S I r (H'.bind fun a aS aT s1 Z f1 I1 g1 H1 r1=>?_));obtain⟨fl,bj⟩:=a;induction fl using Fl.casesOn with
  | next=>exact jL ih S ss I1 r1 H1
  | cont=>exact Aft.here (O:=aS) (b:=(Fl.cont,bj)) H1 I1 r1
  | brk=>exact Aft.here (O:=aS) (b:=(Fl.brk,bj)) H1 I1 r1
  | ret v=>exact fun u hu=>Aft.here (O:=aS) (b:=(Fl.ret v,bj)) H1 I1 r1 u hu
section
set_option backward.match.sparseCases true
theorem AU{e:Expr}{pos:YZ}(ihc:∀ e,k7 B (bT T n) k e):d5 B (ex T (n+1)) k (.Return (some e) pos):=by
 intro A envs env P μ O s ρ Q E S I r H;generalize(H:Aft B envs P μ (own env) s.heap ((bT T n env.scope e ρ O).bind fun a=>.ok ((.ret a.1,ρ),a.2)) (KF B env P Q) E)=H';refine aah (ihc e S.toSit I r (H'.bindN fun v aS aT s1 Z f1 I1 g1 H1 u R=>?_));exact Aft.here (O:=aS) (b:=(Fl.ret v,ρ)) H1 I1 (r.goO S g1 f1 I.apart) u R
theorem wx{pos:YZ} : d5 B (ex T (n+1)) k (.Continue pos):=by
 intro A envs env P μ O s ρ Q E S I r H;exact wpAny_Continue (Aft.here (O:=O) (b:=(Fl.cont,ρ)) H I r)
theorem Lm{a b:List lI}{pos:YZ}(iht:∀ e,fh B T k n e)(om:∀ st,d5 B (ex T n) k st):d5 B (ex T (n+1)) k (.If t a b pos):=by
 intro A envs env P μ O s ρ Q E S I r H;have H':Aft B envs P μ (own env) s.heap ((tst (ev T n env.scope t ρ O)).bind fun c=>match c.1 with
   | true=>ay (ex T n env.scope) a ρ c.2
   | false=>ay (ex T n env.scope) b ρ c.2) (KF B env P Q) E:=H
 refine wpAny_If (iht t S.toSit I r (H'.bindN fun c aS aT s1 Z f1 I1 g1 H1=>?_));generalize(r.goO S g1 f1 I.apart)=r1;induction c using iN with
 | true=>exact jL om S a I1 r1 H1
 | false=>exact jL om S b I1 r1 H1
theorem kA{value:Expr}{pos:YZ}{A:bY}{Q:aaV->aO->Prop}(hs:ZW [t] value pos.line env=pure false)(hw:swappedStores [t] value env=pure none)(iu:ZL [t] env=[(false,aaj t env)])
  (h:wpAny M A (eval value env) (fun v s₁=>wpAny M A (aaj t env v) (fun Z=>Q .next) E s₁) E s):wpAny M A (exec (.Assign [t] value pos) env) Q E s:=by
 rw[exec_Assign];refine aa (Ye ?_);rw[hs];refine aa (ae ?_);rw[if_neg (by decide)];refine aa (Yj h (fun v s₁ aF=>?_) fun Z Z x=>x);rw[hw,iu];refine aa (ae ?_);show wpAny M A (do assignAll v [aaj t env];pure .next) Q E s₁;exact aa (Yj aF (fun Z Z x=>ae x) fun Z Z x=>x)
theorem Dd{i:Expr}(e:Expr):ZW [.Subscript o i p] e line env=pure false:=by cases e<;>rfl
theorem AV{i:Expr}(e:Expr):swappedStores [.Subscript o i p] e env=pure none:=by cases e<;>rfl
theorem uO{i e:Expr}{pos:YZ}(SO:uN B)(ih:∀ e,aY B T k n e):d5 B (ex T (n+1)) k (.Assign [.Subscript o i p] e pos):=by
 intro A envs env P μ O s ρ Q E S I r H;have H':Aft B envs P μ (own env) s.heap ((ev T n env.scope e ρ O).bind fun v=>(ev T n env.scope o ρ v.2).bind fun a=>(ev T n env.scope i ρ a.2).bind fun b=>(ah (cW a.1 b.1 v.1 b.2)).bind fun ar=>.ok ((.next,ρ),ar)) (KF B env P Q) E:=H;refine kA (Dd e) (AV e) rfl (ih e S.toSit I r (H'.bindN fun v aS aT s1 Z f1 I1 g1 H1 u1 R1=>?_));have r1:=r.goO S g1 f1 I.apart;show wpAny _ _ (do
  let ov<-holding [u1] (eval o env)
  let iv<-holding [u1,ov] (eval i env)
  standAt p
  holding [u1,ov,iv] (afb ov iv u1)
  release (match i with | .Slice _ _ none _=>[iv,u1,ov]|_=>[u1,ov,iv]) []) _ E s1
 refine aa (eG (ih o S.toSit I1 r1 (H1.bindN fun a ky eY s2 Z f2 I2 g2 H2 u2 R2=>?_)));generalize(r1.goO S g2 f2 I1.apart)=r2;refine aa (eG (ih i S.toSit I2 r2 (H2.bindN fun b HU um s3 Z f3 I3 g3 H3 u3 R3=>aa (Ye (aa (eG ?_))))));generalize(r2.goO S g3 f3 I2.apart)=r3;obtain⟨ar,bF,H3⟩:=H3.opt;generalize((R1.go g2 f2 nofun).go g3 f3 nofun)=Rv;refine SO.set S.handled S.depth' S.units' I3 (R2.go g3 f3 nofun) R3 Rv bF fun s4 I4 g4=>wpAny_release' ?_;exact Aft.at0 (O:=ar) (b:=(Fl.next,ρ)) H3 I4 g4.of_nil (r3.step g4 I3.apart S.own S.cellsIn)
theorem F7(h:∀ q p,t≠.Starred q p):ZL [t] env=[(false,aaj t env)]:=by
 induction t using ge with
 | Starred q p=>exact absurd rfl (h q p)
 | _=>rfl
theorem lU{e:Expr}{pos:YZ}(ihc:∀ e,k7 B (bT T n) k e)(ht:(∃ x p,t= .Name x p)\/∃ es q p,t= .Tuple es q p)(hsw:∀ env:YY,env.scope.kind= .function->ZW [t] e pos.line env=pure false){A:bY}{Q:aaV->aO->Prop}(S:Fit k A envs env P)(hw:swappedStores [t] e env=pure none)(I:Inv B envs P μ O s)(r:SR B env P μ ρ s.heap)
  (H:Aft B envs P μ (own env) s.heap ((bT T n env.scope e ρ O).bind fun a=>(ah (bx (cL env.scope) t a.1 ρ)).bind fun aU=>.ok ((.next,aU),a.2)) (KF B env P Q) E):wpAny (cr B.prog B.w) A (exec (.Assign [t] e pos) env) Q E s:=by
 refine kA (hsw env S.kind) hw (F7 fun q p h=>by rcases ht with⟨x,p,rfl⟩|⟨es,q,p,rfl⟩<;>cases h) (ihc e S.toSit I r (H.bindN fun v aS aT s1 Z f1 I1 g1 H1 u1 R1=>?_));generalize(r.goO S g1 f1 I.apart)=r1;obtain⟨aU,yM,H1⟩:=H1.opt;exact bind_ok S.toSit (kY env) S.ownIn t I1 r1 R1 yM fun s2 I2 g2 r2=>Aft.at0 (O:=aS) (b:=(Fl.next,aU)) H1 I2 g2 r2
theorem De{Y:List bQ}{h:ir}{r:R (α×U)}{c:α->Prop}[DecidablePred c]{y:α->U->R (List V×U)}{g:V×U->R (γ×U)}{K:γ->List bQ->aO->Prop}{K':List V×U->List bQ->aO->Prop}
  (H:Aft B envs P μ Y h ((r.bind fun a=>if c a.1 then y a.1 a.2 else .stuck).bind fun r=>(R.ok (.lst r.1,r.2)).bind g) K E)
  (k:∀ a aS aT s1,(∀ a∈aT,h.get? a=none)->Inv B envs P (μ++aT) aS s1->Go μ [] h s1.heap->Aft B envs P μ Y h (g (.lst a,aS)) K E->K' (a,aS) (μ++aT) s1) :
  Aft B envs P μ [] h (r.bind fun a=>if c a.1 then(y a.1 a.2).bind fun r=>.ok ((r.1,r.2),r.2)else .stuck) K' E:=by
 induction r using R.casesOn with
 | stuck=>exact H
 | exc row=>exact fun e s' x=>H e s' (x.wide nofun)
 | ok a =>
  have H':Aft B envs P μ Y h ((if c a.1 then y a.1 a.2 else .stuck).bind fun r=>(R.ok (.lst r.1,r.2)).bind g) K E:=H;show Aft B envs P μ [] h (if c a.1 then(y a.1 a.2).bind fun r=>.ok ((r.1,r.2),r.2)else .stuck) K' E;by_cases q:c a.1
  ·rw[if_pos q]at H' ⊢;induction hy:y a.1 a.2 using R.casesOn with
   | stuck=>rw[hy]at H';exact H'
   | exc row=>rw[hy]at H';exact fun e s' x=>H' e s' (x.wide nofun)
   | ok b=>rw[hy]at H';exact fun ν s' h1 h2 h3=>k b.1 b.2 ν s' h1 h2 h3 H'
  ·rw[if_neg q]at H';exact H'.elim
theorem tw{pos:YZ}{e:Expr}{ifs:List Expr}{xj:YZ}(BO:aP B)(ih:∀ e,aY B T k n e)(iht:∀ e,fh B T k n e)(he:e= .ListComp elt [⟨target,iter,ifs,0⟩] scope xj){A:bY}{Q:aaV->aO->Prop}(S:Fit k A envs env P)(I:Inv B envs P μ O s)(r:SR B env P μ ρ s.heap)
  (hsw:ZW [.Name x p] e pos.line env=pure true)
  (H:Aft B envs P μ (own env) s.heap ((ev T (n+1) env.scope e ρ O).bind fun a=>(ah (bx (cL env.scope) (.Name x p) a.1 ρ)).bind fun aU=>.ok ((.next,aU),a.2)) (KF B env P Q) E):wpAny (cr B.prog B.w) A (exec (.Assign [.Name x p] e pos) env) Q E s:=by
 subst he;rw[exec_Assign];refine aa (Ye ?_);rw[hsw];refine aa (ae ?_);rw[if_pos rfl];have H':Aft B envs P μ (own env) s.heap ((if(cM target&&lM scope)=true then(ah (io scope env.scope ρ)).bind fun fO=>((dX (fun e O=>ev T n env.scope e ρ O) (bd env.scope ρ) (eB target) iter O).bind fun a =>
    if a.1.length<=ai then dY (ev T n) (bK scope env.scope) elt target ifs fO a.1 a.2 else .stuck).bind fun r=>.ok (.lst r.1,r.2)
    else .stuck).bind fun a=>(ah (bx (cL env.scope) (.Name x p) a.1 ρ)).bind fun aU=>.ok ((.next,aU),a.2)) (KF B env P Q) E:=H
 by_cases hc:(cM target&&lM scope)=true
 ·rw[if_pos hc]at H';generalize((bM hc)).1=ht;generalize((bM hc)).2=eC;obtain⟨fO,yM,H'⟩:=H'.opt2;rw[R.bind_assoc]at H';refine aa ?_;show wpAny (cr B.prog B.w) A (agx (.ListComp elt [⟨target,iter,ifs,0⟩] scope xj) scope env (firstIterPos [⟨target,iter,ifs,0⟩] xj) (newList []) false (eval iter env) (some fun v=>assignAll v [aaj (.Name x p) env])>>=fun Z=>pure ()) _ E s;refine aa (AQ BO ih iht (fun sc es q p ρ O=>yN n sc es q p ρ O) ht eC yM S.toSit I r (De (r:=dX (fun e O=>ev T n env.scope e ρ O) (bd env.scope ρ) (eB target) iter O) (c:=fun l=>l.length<=ai) (y:=fun l O=>dY (ev T n) (bK scope env.scope) elt target ifs fO l O) H' fun a aS aT s1 f1 I1 g1 H1 C D IC hCP AL hm R hne=>?_));obtain⟨m,hm⟩:=hm;obtain⟨aU,S7,H1⟩:=H1.opt;have gc:s1.heap.get? C≠none:=fun e=>by obtain⟨o,_,_,e',_⟩:=hm;rw[e]at e';exact nn e'
  have r1:SR B env (P++[C]) (μ++aT) ρ s1.heap:=r.move (g1.kpX nofun) (fun o e=>g1.kp _ o e (fun q=>I.apart _ q S.own) nofun) (fun x a e o eo=>g1.kp _ o eo (fun q=>I.apart _ q (S.cellsIn x a e)) nofun) mI (fun a m=>by
   rcases bU m with m|m
   ·rcases bU m with m|m
    ·exact .inl (bo _ m)
    ·exact .inr (f1 a m)
   ·rcases bU m with m|m
    ·exact .inl (aq _ m)
    ·rw[a8 m];exact .inr AL)
  have U7:C∉own env:=fun m=>hCP (S.ownIn C m)
  show wpAny _ _ (aaj (.Name x p) env (.ref D)) _ _ _;refine bind_ok (S.toSit.more (W:=[C])) (kY env) (fun a m=>bo _ (S.ownIn a m)) (.Name x p) IC r1 R S7 fun s2 I2 g2 r2=>?_;have U8:C∉μ++aT:=fun q=>IC.apart C q (by simp)
  obtain⟨oC,es,ep,Li,rest⟩:=hm;refine⟨m,⟨oC,es,ep,g2.kp C oC Li U8 U7,rest⟩,fun h' cC=>?_⟩;refine ae (ae ?_);have hk:∀ b o,b∉[C]->s2.heap.get? b=some o->h'.get? b=some o:=fun b o hb e=>cC.extBut b o (fun z=>hb (by simp[z])) e
  have hPC:∀ a∈[C],a∉P:=fun a m=>by rw[a8 m];exact hCP
  have I3:Inv B envs P (μ++aT) aS { s2 with heap:=h' }:=Inv.drop (tk:=s2.toks) I2 I.frIn hPC hk;have r3:SR B env P (μ++aT) aU h':=r2.move (fun b o e m=>hk b o (fun z=>m (aq _ (aq _ z))) e) (fun o e=>hk _ o (fun z=>hCP (a8 z▸S.own)) e)
   (fun x a e o eo=>hk _ o (fun z=>hCP (a8 z▸S.cellsIn x a e)) eo) (fun Z Z e=>e) fA
  refine H1 aT { s2 with heap:=h' } f1 I3 ⟨fun a o e n1 n2=>hk a o (fun z=>by rw[a8 z,AL]at e;exact nn e) (g2.kp a o (g1.kp a o e n1 nofun) (fun z=>?_) n2),fun a o e=>?_⟩ r3
  ·rcases bU z with z|z
   ·exact n1 z
   ·rw[f1 a z]at e;exact nn e
  ·obtain⟨o1,e1⟩:=g1.dm a o e;obtain⟨o2,e2⟩:=g2.dm a o1 e1;exact⟨o2,hk a o2 (fun z=>by rw[a8 z,AL]at e;exact nn e) e2⟩
 ·rw[if_neg hc]at H';exact H'.elim
end
section
set_option backward.match.sparseCases true
noncomputable def nameAt(env:YY)(line:Nat):Expr->Option fw
 | .Name id pos=>if(env.kindOf id==some .local&&pos.line==line)=true then some id else none
 | _=>none
theorem yR(h:nameAt env line t=some x):∃ p,t= .Name x p:=by
 induction t using ge with
 | Name id pos=>exact⟨pos,(ifs (show(if(env.kindOf id==some .local&&pos.line==line)=true then some id else none)=some x from h)).2▸rfl⟩
 | _=>exact nn h
theorem Of{P:Xm α->Prop}{b1 b2 b3 b4 b5:Bool}{n u s:Xm α}(hn:P n)(h5:b5=false)(hs:b1=false->b3=false->P s):P (if b1=true then n else if b2=true then n else if b3=true then n else if b4=true then n else if b5=true then u else s):=by
 rw[h5];cases b1<;>cases b2<;>cases b3<;>cases b4<;>first|exact hn|exact hs rfl rfl
theorem uP{vs:List Expr}{q':Nat}{p':YZ}(hk:env.scope.kind= .function)(hc:vs.all (aca 8)=false) :
  swappedStores [.Tuple ts q p] (.Tuple vs q' p') env=pure none\/∃ line names,swappedStores [.Tuple ts q p] (.Tuple vs q' p') env=pure (some names)/\ts.filterMap (nameAt env line)=names/\names.length=ts.length/\(ts.length=2\/ts.length=3)/\names.eraseDups.length=names.length:=by
 have key:swappedStores [.Tuple ts q p] (.Tuple vs q' p') env=(if(!(ts.length==2||ts.length==3)||vs.length != ts.length||env.blockKind != .function)=true then pure none
   else if(vs.any fun | .Starred ..=>true|_=>false)=true then pure none
   else if((ts.filterMap (nameAt env ((ts.head?.map (·.pos.line)).getD 0))).length != ts.length||(ts.filterMap (nameAt env ((ts.head?.map (·.pos.line)).getD 0))).eraseDups.length != (ts.filterMap (nameAt env ((ts.head?.map (·.pos.line)).getD 0))).length)=true then pure none
   else if vs.all (foldedForSure 8)=true then pure none
   else if vs.all (aca 8)=true then unsupported "assign.tuple-of-constant-expressions:order-of-the-stores"
   else pure (some (ts.filterMap (nameAt env ((ts.head?.map (·.pos.line)).getD 0))))):=by
  have hf:(fun t:Expr=>match t with
    | .Name id pos=>if(env.kindOf id==some .local&&pos.line==(ts.head?.map (·.pos.line)).getD 0)=true then some id else none
    | _=>none)=nameAt env ((ts.head?.map (·.pos.line)).getD 0):=by
   funext t
   cases t<;>rfl
  unfold swappedStores;rw[<- hf];rfl
 rw[key];exact Of (P:=fun m=>m=pure none\/∃ line names,m=pure (some names)/\ts.filterMap (nameAt env line)=names/\names.length=ts.length/\(ts.length=2\/ts.length=3)/\names.eraseDups.length=names.length) (.inl rfl) hc fun h1 h3=>.inr ⟨_,_,rfl,rfl,bne_eq_false_iff_eq.mp (Bool.or_eq_false_iff.mp h3).1,by
  generalize((Bool.or_eq_false_iff.mp (Bool.or_eq_false_iff.mp h1).1).1)=h;rw[adY,Bool.or_eq_true_iff,beq_iff_eq,beq_iff_eq]at h;exact h,bne_eq_false_iff_eq.mp (Bool.or_eq_false_iff.mp h3).2⟩
theorem Ln{a b:fw}(h:([a,b]:List fw).eraseDups.length=2):a≠b:=by
 intro e;subst e;simp[YU]at h
theorem yS{a b c:fw}(h:([a,b,c]:List fw).eraseDups.length=3):a≠b/\a≠c/\b≠c:=by
 refine⟨fun e=>?_,fun e=>?_,fun e=>?_⟩
 ·subst e;have h1:([a,a,c]:List fw).eraseDups.length<=2:=by
   simp only[YU];by_cases hc:c=a
   ·subst hc;simp
   ·have:(c==a)=false:=by simpa using hc
    simp[this,YU]
  exact r4 ‹_› ‹_›
 ·subst e;have h1:([a,b,a]:List fw).eraseDups.length<=2:=by
   simp only[YU];by_cases hc:b=a
   ·subst hc;simp
   ·have:(b==a)=false:=by simpa using hc
    simp[this,YU]
  exact r4 ‹_› ‹_›
 ·subst e;have h1:([a,b,b]:List fw).eraseDups.length<=2:=by
   simp only[YU];by_cases hc:b=a
   ·subst hc;simp
   ·have:(b==a)=false:=by simpa using hc
    simp[this,YU]
  exact r4 ‹_› ‹_›
theorem oB(h:bx ok (.Name x p) v ρ=some aU):ok x=true/\aV x v ρ=some aU:=NG h
theorem IF(h:bx ok (.Tuple ts q p) v ρ=some aU):∃ ws,v= .tup ws/\dB ok ts ws ρ=some aU:=by
 induction v using V.casesOn with
 | tup ws=>exact⟨ws,rfl,h⟩
 | _=>exact nn h
theorem AW{l:List α}(h:l.length=2):∃ a b,l=[a,b]:=by
 rcases l with _|⟨a,_|⟨b,_|_⟩⟩<;>first|exact⟨_,_,rfl⟩|exact nomatch h
theorem S8{l:List α}(h:l.length=3):∃ a b c,l=[a,b,c]:=by
 rcases l with _|⟨a,l⟩
 ·exact nomatch h
 ·obtain⟨b,c,rfl⟩:=AW (aeh h);exact⟨_,_,_,rfl⟩
theorem Df(h:dB ok (.Name x p::ts) vs ρ=some aU):∃ v ws bj,vs=v::ws/\ok x=true/\aV x v ρ=some bj/\dB ok ts ws bj=some aU:=by
 induction vs using cz with
 | nil=>exact nn h
 | cons v ws =>
  obtain⟨bj,h1,h2⟩:=ib h;exact⟨v,ws,bj,rfl,(oB h1).1,(oB h1).2,h2⟩
theorem xk(h:dB ok [] vs ρ=some aU):vs=[]/\ρ=aU:=by
 induction vs using cz with
 | nil=>exact⟨rfl,si h⟩
 | cons v ws=>exact nn h
theorem AX{names:List fw}(h:(t::ts).filterMap (nameAt env line)=names)(hl:names.length=ts.length+1):∃ x p ns,t= .Name x p/\names=x::ns/\ts.filterMap (nameAt env line)=ns/\ns.length=ts.length:=by
 induction h1:nameAt env line t using aL with
 | none =>
  rw[List.filterMap_cons_none h1]at h;have:=List.length_filterMap_le (nameAt env line) ts;rw[h]at this;lia
 | some x =>
  obtain⟨p,rfl⟩:=yR h1;rw[aaX h1]at h;subst h;exact⟨x,p,_,rfl,rfl,rfl,aeh hl⟩
theorem ql{names:List fw}{P:List V->List fw->Prop}(h:(t::ts).filterMap (nameAt env line)=names)(hl:names.length=ts.length+1)(hb:dB ok (t::ts) vs ρ=some aU)
  (k:∀ x v ws ns bj,ts.filterMap (nameAt env line)=ns->ns.length=ts.length->ok x=true->aV x v ρ=some bj->dB ok ts ws bj=some aU->P (v::ws) (x::ns)):P vs names:=by
 obtain⟨x,p,ns,rfl,rfl,h1,h2⟩:=AX h hl;obtain⟨v,ws,bj,rfl,o,s,hb⟩:=Df hb;exact k x v ws ns bj h1 h2 o s hb
theorem E7{names:List fw}{P:List V->List fw->Prop}(hl:names.length=0)(hb:dB ok [] vs ρ=some aU)(k:ρ=aU->P [] []):P vs names:=by
 generalize((xk hb)).1=e;generalize((xk hb)).2=e';rw[e,List.length_eq_zero_iff.mp hl];exact k e'
theorem nS{y:fw}{u:V}{bj F8:af}(hxy:x≠y)(h1:aV x u ρ=some bj)(h2:aV y v bj=some F8):∃ q6,aV y v ρ=some q6/\aV x u q6=some F8 :=
 ib (show(aV y v ρ).bind (aV x u)=some F8 by rw[<- qe hxy,h1];exact h2)
theorem IG{P:List V->List fw->Prop}(h2:∀ a b v1 v2 q6,ok b=true->aV b v2 ρ=some q6->ok a=true->aV a v1 q6=some aU->P [v1,v2] [a,b])
  (h3:∀ a b c v1 v2 v3 q6 IH,ok c=true->aV c v3 ρ=some q6->ok b=true->aV b v2 q6=some IH->ok a=true->aV a v1 IH=some aU->P [v1,v2,v3] [a,b,c]) {ts:List Expr} {vs:List V} {names:List fw} (hn:ts.filterMap (nameAt env line)=names) (hl:names.length=ts.length) (wy:ts.length=2\/ts.length=3) (hd:names.eraseDups.length=names.length)
  (hb:dB ok ts vs ρ=some aU):P vs names:=by
 let F (l:List V) (m:List fw) (vs:List V) (ns:List fw):Prop:=(m++ns).eraseDups.length=(m++ns).length->P (l++vs) (m++ns)
 rcases wy with wy|wy
 ·obtain⟨t1,t2,rfl⟩:=AW wy;refine ql (P:=F [] []) hn hl hb (fun a v1 Z Z bj hn hl o1 s1 hb=>ql (P:=F [v1] [a]) hn hl hb fun b v2 Z Z F8 Z hl o2 s2 hb=>E7 (P:=F [v1,v2] [a,b]) hl hb fun e hd=>?_) hd;obtain⟨q6,sx,sy⟩:=nS (Ln hd) s1 s2;exact h2 a b v1 v2 q6 o2 sx o1 (e▸sy)
 ·obtain⟨t1,t2,t3,rfl⟩:=S8 wy;refine ql (P:=F [] []) hn hl hb (fun a v1 Z Z bj hn hl o1 s1 hb=>ql (P:=F [v1] [a]) hn hl hb fun b v2 Z Z F8 hn hl o2 s2 hb=>ql (P:=F [v1,v2] [a,b]) hn hl hb fun c v3 Z Z U9 Z hl o3 s3 hb=>E7 (P:=F [v1,v2,v3] [a,b,c]) hl hb fun e hd=>?_) hd;generalize((yS hd)).1=II;generalize(((yS hd)).2).1=Va;generalize(((yS hd)).2).2=Vb;obtain⟨q6,sx,sy⟩:=nS Vb s2 s3;obtain⟨IH,tx,ty⟩:=nS Va s1 sx;obtain⟨Vc,ux,uy⟩:=nS II ty sy;exact h3 a b c v1 v2 v3 IH Vc o3 tx o2 ux o1 (e▸uy)
theorem AY{A:bY}{names:List fw}{Q:Unit->aO->Prop}(S:Fit k A envs env P)(hn:ts.filterMap (nameAt env line)=names)(hl:names.length=ts.length)(wy:ts.length=2\/ts.length=3)(hd:names.eraseDups.length=names.length)
  (I:Inv B envs P μ O s) (r:SR B env P μ ρ s.heap) (R:Reps B s.heap μ (μ++P) vs us) (hb:dB (cL env.scope) ts vs ρ=some aU) (q:∀ s',Inv B envs P μ O s'->Go μ (own env) s.heap s'.heap->SR B env P μ aU s'.heap->Q () s') :
  wpAny (cr B.prog B.w) A (adF (names.reverse.map fun n=>bindName env n) us.reverse) Q E s:=by
 generalize(kY env)=hY;generalize(S.ownIn)=tu;refine IG (P:=fun vs names=>Reps B s.heap μ (μ++P) vs us->wpAny (cr B.prog B.w) A (adF (names.reverse.map fun n=>bindName env n) us.reverse) Q E s) (fun a b v1 v2 q6 o2 sx o1 sy R=>?_) (fun a b c v1 v2 v3 q6 IH o3 tx o2 ux o1 uy R=>?_) hn hl wy hd hb R
 ·refine ab fun Z gG=>?_;obtain⟨u1,u2,rfl,R1,R2⟩:=uD R;refine gG ?_;clear gG
  refine YS (acY (jy S.toSit I r R2 hY o2 sx fun s' I' g' r'=>?_));exact YS (acY (jy S.toSit I' r' (R1.goY g' tu) hY o1 sy fun wn Ip Lo Og=>abe (q wn Ip (g'.trans Lo) Og)))
 ·replace R:=ba R;refine ab fun Z gG=>?_;obtain⟨u1,_,rfl,R1,u2,_,rfl,R2,u3,_,rfl,R3,rfl⟩:=R;refine gG ?_;clear gG
  refine YS (acY (jy S.toSit I r R3 hY o3 tx fun s' I' g' r'=>?_));refine YS (acY (jy S.toSit I' r' (R2.goY g' tu) hY o2 ux fun wn Ip Lo Og=>?_));exact YS (acY (jy S.toSit Ip Og ((R1.goY g' tu).goY Lo tu) hY o1 uy fun s3 I3 g3 r3=>abe (q s3 I3 ((g'.trans Lo).trans g3) r3)))
theorem wz{vs:List Expr}{q':Nat}{p' pos:YZ}(ihc:∀ e,k7 B (bT T n) k e)(hsw:vs.all (aca 8)=false){A:bY}{Q:aaV->aO->Prop}(S:Fit k A envs env P)(I:Inv B envs P μ O s)(r:SR B env P μ ρ s.heap)
  (H:Aft B envs P μ (own env) s.heap ((bT T n env.scope (.Tuple vs q' p') ρ O).bind fun a=>(ah (bx (cL env.scope) (.Tuple ts q p) a.1 ρ)).bind fun aU=>.ok ((.next,aU),a.2)) (KF B env P Q) E) :
  wpAny (cr B.prog B.w) A (exec (.Assign [.Tuple ts q p] (.Tuple vs q' p') pos) env) Q E s:=by
 refine ab fun Z gG=>?_;rcases uP (ts:=ts) (q:=q) (q':=q') (p:=p) (p':=p') S.kind hsw with hw|⟨line,names,hw,hn,hl,wy,hd⟩<;>refine gG ?_<;>clear gG
 ·exact lU ihc (.inr ⟨ts,q,p,rfl⟩) (fun env Z=>rfl) S hw I r H
 ·refine Assign_Tuple_swapped (ihc (.Tuple vs q' p') S.toSit I r (H.bindN fun v aS aT s1 Z f1 I1 g1 H1 u1 R1=>?_)) rfl hw;generalize(r.goO S g1 f1 I.apart)=r1;refine ab fun Z gG=>?_;obtain⟨aU,yM,H1⟩:=H1.opt;refine gG ?_;clear gG
  refine ab fun Z gG=>?_;obtain⟨ws,rfl,hb⟩:=IF yM;refine gG ?_;clear gG
  refine ab fun Z gG=>?_;obtain⟨a,xs,rfl,na,ht,hr⟩:=uE R1;refine gG ?_;clear gG
  have ck:names.length=xs.size:=by
   refine ab fun Z gG=>?_;generalize(((f9 (env:=env) (tN _ hb))).2).1=e1;generalize(((f9 (env:=env) (tN _ hb))).2).2=e2;refine gG ?_;clear gG
   rw[hl,<- bR (as:=ts),<- e2,e1,<- hr.length,Yk]
  rw[ck];refine wpAny_unpackItems_tuple S.handled ht fun h' cC=>?_;generalize(fun b o e=>cC b o (fun z=>by rw[z,bp]at e;exact nn e) e:∀ b o,s1.heap.get? b=some o->h'.get? b=some o)=hk;have I2:Inv B envs P (μ++aT) aS { s1 with heap:=h' }:=I1.grow (tk:=s1.toks) hk;refine AY S hn hl wy hd I2 (r1.goY hk) (hr.go0 (Go.of_keeps hk)) hb fun s2 I3 g3 r3=>?_;exact Aft.at0 (O:=aS) (b:=(Fl.next,aU)) H1 I3 ((Go.of_keeps hk).trans g3) r3
theorem qm(e:Expr):swappedStores [.Name x p] e env=pure none:=by cases e<;>rfl
theorem AZ(e:Expr):(∃ vs q p,e= .Tuple vs q p)\/swappedStores [.Tuple ts q p] e env=pure none:=by
 induction e using ge with
 | Tuple vs q p=>exact .inl ⟨vs,q,p,rfl⟩
 | _=>exact .inr rfl
theorem Dg(e:Expr):ZW [.Tuple ts q p] e line env=pure false:=by cases e<;>rfl
theorem IJ(e:Expr):(∃ elt gens sc q,e= .ListComp elt gens sc q)\/(∀ n sc ρ O,bT T n sc e ρ O= .stuck)\/∀ env,ZW [.Name x p] e line env=pure false:=by
 induction e using ge with
 | ListComp elt gens sc q=>exact .inl ⟨elt,gens,sc,q,rfl⟩
 | SetComp _ _ _ _=>exact .inr (.inl fun n Z Z Z=>by cases n with|zero=>rfl|succ m=>cases m<;>rfl)
 | DictComp _ _ _ _ _=>exact .inr (.inl fun n Z Z Z=>by cases n with|zero=>rfl|succ m=>cases m<;>rfl)
 | _=>exact .inr (.inr fun Z=>rfl)
theorem F9{gens:List aaA}{pos:YZ} : (∃ target iter ifs,gens=[⟨target,iter,ifs,0⟩])\/∀ sc ρ O,ev T (j+1) sc (.ListComp elt gens scope pos) ρ O= .stuck:=by
 induction gens using cz with
 | nil=>exact .inr fun Z Z Z=>rfl
 | cons g gs =>
  obtain⟨target,iter,ifs,a⟩:=g;cases a with
  | negSucc m=>induction gs using cz<;>exact .inr fun Z Z Z=>rfl
  | ofNat m=>induction m using ZU with
   | succ m=>induction gs using cz<;>exact .inr fun Z Z Z=>rfl
   | zero=>induction gs using cz with
    | nil=>exact .inl ⟨target,iter,ifs,rfl⟩
    | cons g gs=>exact .inr fun Z Z Z=>rfl
theorem A1{gens:List aaA}{pos:YZ} : ∃ b:Bool,ZW [.Name x p] (.ListComp elt gens scope pos) line env=pure b :=
 ⟨env.blockKind==.function&&env.kindOf x==some .local&&p.line==(Expr.ListComp elt gens scope pos).pos.line&&!(scope.names.any fun(n,k)=>n==x&&(k==.local||k==.cell)),rfl⟩
theorem tz{e:Expr}{pos:YZ}(BO:aP B)(all:∀ m,(∀ e,aY B T k m e)/\∀ e,fh B T k m e)(ihc:∀ e,k7 B (bT T n) k e){A:bY}{Q:aaV->aO->Prop}(S:Fit k A envs env P)(I:Inv B envs P μ O s)(r:SR B env P μ ρ s.heap)
  (H:Aft B envs P μ (own env) s.heap ((bT T n env.scope e ρ O).bind fun a=>(ah (bx (cL env.scope) (.Name x p) a.1 ρ)).bind fun aU=>.ok ((.next,aU),a.2)) (KF B env P Q) E) :
  wpAny (cr B.prog B.w) A (exec (.Assign [.Name x p] e pos) env) Q E s:=by
 have dead:(∀ sc ρ O,bT T n sc e ρ O= .stuck)->False:=fun h=>by rw[h]at H;exact H
 rcases IJ (T:=T) (x:=x) (p:=p) (line:=pos.line) e with⟨elt,gens,scope,xj,rfl⟩|h|h
 ·match n with
  | 0=>exact(dead fun Z Z Z=>rfl).elim
  | 1=>exact(dead fun Z Z Z=>rfl).elim
  | j+2 =>
   rcases F9 (T:=T) (elt:=elt) (gens:=gens) (scope:=scope) (pos:=xj) (j:=j)with⟨target,iter,ifs,rfl⟩|h
   ·obtain⟨b,hsw⟩:=A1 (x:=x) (p:=p) (elt:=elt) (gens:=[⟨target,iter,ifs,0⟩]) (scope:=scope) (pos:=xj) (line:=pos.line) (env:=env);induction b using iN with
    | true=>exact tw BO (all j).1 (all j).2 rfl S I r hsw H
    | false =>
     refine kA hsw (qm _) rfl ((all (j+1)).1 _ S.toSit I r (Aft.bindN H fun v aS aT s1 Z f1 I1 g1 H1 u1 R1=>?_));obtain⟨aU,yM,H1⟩:=H1.opt;exact bind_ok S.toSit (kY env) S.ownIn (.Name x p) I1 (r.goO S g1 f1 I.apart) R1 yM fun s2 I2 g2 r2=>Aft.at0 (O:=aS) (b:=(Fl.next,aU)) H1 I2 g2 r2
   ·exact(dead fun sc ρ O=>h sc ρ O).elim
 ·exact(dead (h n)).elim
 ·exact lU ihc (.inl ⟨x,p,rfl⟩) (fun env Z=>h env) S (qm e) I r H
theorem Dh(h:cM t=true):(∃ x p,t= .Name x p)\/∃ ts q p,t= .Tuple ts q p:=by
 induction t using ge with
 | Name x p=>exact .inl ⟨x,p,rfl⟩
 | Tuple ts q p=>exact .inr ⟨ts,q,p,rfl⟩
 | _=>exact nomatch h
theorem A2{e:Expr}{pos:YZ}(BO:aP B)(all:∀ m,(∀ e,aY B T k m e)/\∀ e,fh B T k m e)(ihc:∀ e,k7 B (bT T n) k e)(fZ:pR t=none):d5 B (ex T (n+1)) k (.Assign [t] e pos):=by
 intro A envs env P μ O s ρ Q E S I r H;replace H:Aft B envs P μ (own env) s.heap (kN T n env.scope t e (pR t) ρ O) (KF B env P Q) E:=H;rw[fZ]at H;obtain⟨hc,H⟩:=Aft.ite H;obtain⟨Vd,hsw⟩:=bM hc;rcases Dh Vd with⟨x,p,rfl⟩|⟨ts,q,p,rfl⟩
 ·exact tz BO all ihc S I r H
 ·rcases AZ (ts:=ts) (q:=q) (p:=p) (env:=env) e with⟨vs,q',p',rfl⟩|h
  ·exact wz ihc ((ZA _).mp hsw) S I r H
  ·exact lU ihc (.inr ⟨ts,q,p,rfl⟩) (fun Z Z=>Dg e) S h I r H
end
theorem iy(h:env.scope.kind= .function):interactive env=false:=by unfold interactive;rw[h];rfl
theorem oD{f:Expr}{q r':YZ}(ih:∀ e,aY B T k n e){A:bY}{Q:aaV->aO->Prop}(S:Fit k A envs env P)(I:Inv B envs P μ O s)(r:SR B env P μ ρ s.heap)
  (H:Aft B envs P μ (own env) s.heap ((ev T n env.scope (.Call f args [] q) ρ O).bind fun a=>match a.1 with
   | .none=>.ok ((.next,ρ),a.2)
   | _=>.stuck) (KF B env P Q) E):wpAny (cr B.prog B.w) A (exec (.Expr (.Call f args [] q) r') env) Q E s:=by
 refine acw (ih _ S.toSit I r (H.bindN fun v aS aT s1 Z f1 I1 g1 H1 u R=>?_)) (iy S.kind) rfl;induction v using V.casesOn with
 | none =>
  replace R:=iS R;subst R;exact Aft.here (O:=aS) (b:=(Fl.next,ρ)) H1 I1 (r.goO S g1 f1 I.apart)
 | _=>exact H1.elim
theorem uQ{a:V}(I:Inv B envs P μ O s)(R:Rep B s.heap μ (μ++P) a u)(h:bX a O=true):∃ i c l xs,a= .ref i/\u= .ref c/\μ[i]?=some c/\O[i]?=some (.list l)/\aav s.heap c xs/\Reps B s.heap μ (μ++P) l xs.toList:=by
 delta bX at h;induction a using V.casesOn with
 | ref i =>
  replace R:=dU R;obtain⟨c,rfl,hc⟩:=R;induction bF:O[i]? using aL with
  | none=>simp only[bF]at h;cases h
  | some cl =>
   induction cl using Cell.casesOn with
   | list l =>
    obtain⟨_,xs,hp,hr⟩:=I.cells i _ c bF hc;exact⟨i,c,l,xs,rfl,rfl,hc,bF,hp,hr⟩
   | dict ks vs=>simp only[bF]at h;cases h
 | _=>cases h
theorem rZ{h:ir}(x:aav h a xs):∃ ob,h.get? a=some ob/\ob.dict=none:=let⟨o,_,e,_,d,_⟩:=x;⟨o,e,d⟩
theorem Ga{A:bY}{a:V}{x:am}(I:Inv B envs P μ O s)(Ra:Rep B s.heap μ (μ++P) a u)(Rv:Rep B s.heap μ (μ++P) v x)(h:kx a v O=some ar)
  (q:∀ s',Inv B envs P μ ar s'->Go μ [] s.heap s'.heap->Q .none s'):wpAny (cr B.prog B.w) A (call (.builtin "list.append") [u,x] []) Q E s:=by
 unfold kx at h;induction a using V.casesOn with
 | ref i =>
  replace Ra:=dU Ra;obtain⟨c,rfl,hc⟩:=Ra;induction bF:O[i]? using aL with
  | none=>simp only[bF]at h;exact nn h
  | some cl =>
   induction cl using Cell.casesOn with
   | dict ks vs=>simp only[bF]at h;exact nn h
   | list l =>
    simp only[bF]at h;by_cases bk:l.length<=ai/\V.clean v=true
    ·rw[if_pos bk]at h;obtain rfl:=si h;obtain⟨hcl,xs,hp,hr⟩:=I.cells i _ c bF hc;have ck:xs.size=l.length:=by have:=hr.length;simpa using this
     refine list_append_plainL hp (fun h' qn cC=>?_) (by rw[ck];exact eU bk.1);generalize(Kp.of_same cC (bo _ (fU hc)):Kp (μ++P) s.heap h')=kX;obtain⟨I',g'⟩:=I.setc (tk:=s.toks) hc cC (by obtain⟨o,_,e,_⟩:=qn;exact⟨o,e⟩) (c:=.list (l++[v])) ⟨by
      have:∀ l:List V,V.cleans l=true->V.cleans (l++[v])=true:=by
       intro l;induction l with
       | nil=>exact fun Z=>HD ⟨bk.2,rfl⟩
       | cons y ys uf=>exact fun h=>HD ⟨(bM h).1,uf (bM h).2⟩
      exact this l hcl,xs.push x,qn,by
      rw[show(xs.push x).toList=xs.toList++[x]by simp];exact(Reps.move l hr kX (fun Z Z e=>e) fun Z m=>.inl m).append (zC (Rep.move v Rv kX (fun Z Z e=>e) (fun Z m=>.inl m)) z0)⟩
     exact q _ I' g'
    ·rw[if_neg bk]at h;exact nn h
 | _=>exact nn h
theorem r7{f:Expr}{a:Expr×fw×YZ×Expr}(h:methP f args=some a):f= .Attribute a.1 a.2.1 a.2.2.1/\args=[a.2.2.2]:=by
 induction f using ge with
 | Attribute o m p =>
  obtain⟨z,h1,rfl⟩:=mD h;exact⟨rfl,gB h1⟩
 | _=>exact nn h
theorem Di{a:Expr×Expr}(h:pR t=some a):∃ p,t= .Subscript a.1 a.2 p:=by
 induction t using ge with
 | Subscript o i p=>exact⟨p,si h▸rfl⟩
 | _=>exact nn h
theorem yT{e c:Option Expr}{a:fw×Expr×Expr}(h:pS e c=some a):∃ p q,e=some (.Call (.Name a.1 p) [a.2.1,a.2.2] [] q)/\c=none:=by
 induction c using aL with
 | some c=>exact nn h
 | none =>
  obtain⟨e,rfl,h1⟩:=ib h;obtain⟨b,hb,h2⟩:=ib h1;obtain⟨x,hx,h3⟩:=ib h2;obtain⟨y,hy,rfl⟩:=mD h3;obtain⟨p,hp⟩:=mU hx;exact⟨p,b.2.2,by rw[kb hb,hp,o8 hy],rfl⟩
theorem Dj{sc:gK}{e:Expr}(h:kM sc ρ e=true):∃ gp x y cp,e= .Call (.Name (ac "range") gp) [x,y] [] cp/\bd sc ρ (ac "range")=true:=by
 unfold kM at h;induction ha:im e using aL with
 | none=>rw[ha]at h;exact nomatch h
 | some a =>
  rw[ha]at h;dsimp only at h;induction hg:ik a.1 using aL with
  | none=>rw[hg]at h;exact nomatch h
  | some g =>
   rw[hg]at h;obtain⟨h,h3⟩:=bM h;obtain⟨h1,h2⟩:=bM h;obtain⟨xy,hxy⟩:=Option.isSome_iff_exists.mp h1;obtain⟨p,hp⟩:=mU hg;generalize(eq_of_beq h2)=e2;subst e2;exact⟨p,xy.1,xy.2,a.2.2,by rw[kb ha,hp,o8 hxy],h3⟩
theorem A3{arg:Expr}{q r':YZ}(TO:dn B k T)(ih:∀ e,aY B T k n e){A:bY}{Q:aaV->aO->Prop}(S:Fit k A envs env P)(I:Inv B envs P μ O s)(r:SR B env P μ ρ s.heap)
  (hc:(bW [arg]&&(p.endLine==q.line))=true)
  (H:Aft B envs P μ (own env) s.heap ((ev T n env.scope o ρ O).bind fun a=>if bX a.1 a.2=true then(ev T n env.scope arg ρ a.2).bind fun v =>
     (ah (kx a.1 v.1 v.2)).bind fun ar=>.ok ((.next,ρ),ar)
    else .stuck) (KF B env P Q) E):wpAny (cr B.prog B.w) A (exec (.Expr (.Call (.Attribute o (ac "append") p) [arg] [] q) r') env) Q E s:=by
 obtain⟨hc,hl⟩:=bM hc;refine acw (uM TO ih hc hl S.toSit I r H.narrow fun a aS aT s1 u1 f1 g1 I1 r1 R1 H1=>?_) (iy S.kind) rfl;generalize((Aft.ite H1)).1=Im;generalize((Aft.ite H1)).2=H1;obtain⟨i,c,l,xs,rfl,rfl,A4,bF,hp,hr⟩:=uQ I1 R1 Im;refine⟨"list","list.append",acS,slot_list_append,type_list_append,hp.isList.typeIs,fun a e=>by cases e;exact rZ hp,?_⟩;rw[aR (bM hc).1];refine aai (ih arg S.toSit I1 r1 (H1.bind fun v ky eY s2 Z f2 I2 g2 H2 u2 R2=>aaC ?_));obtain⟨ar,h',H2⟩:=H2.opt;exact Ga I2 (R1.go g2 f2 nofun) R2 h' fun s3 I3 g3=>Aft.at0 (O:=ar) (b:=(Fl.next,ρ)) H2 I3 g3 ((r1.go g2 f2 I1.apart S.own S.cellsIn).step g3 I2.apart S.own S.cellsIn)
theorem Lp(h:vs.length=2)(e:kJ vs=some l):∃ z,pM vs=some z/\nN z=some l:=by
 match vs,h with
 | [a,b],_=>exact⟨(a,b),rfl,e⟩
theorem A5{arg:Expr}{q r':YZ}(BO:aP B)(TO:dn B k T)(SO:uN B)(ih:∀ e,aY B T k n e){A:bY}{Q:aaV->aO->Prop}(S:Fit k A envs env P)(I:Inv B envs P μ O s)(r:SR B env P μ ρ s.heap)
  (hc:(kM env.scope ρ arg&&(p.endLine==q.line))=true)
  (H:Aft B envs P μ (own env) s.heap ((ev T n env.scope o ρ O).bind fun a=>if bX a.1 a.2=true then(dX (fun e O=>ev T n env.scope e ρ O) (bd env.scope ρ) false arg a.2).bind fun v =>
     (ah (gW a.1 v.1 v.2)).bind fun ar=>.ok ((.next,ρ),ar)
    else .stuck) (KF B env P Q) E):wpAny (cr B.prog B.w) A (exec (.Expr (.Call (.Attribute o (ac "extend") p) [arg] [] q) r') env) Q E s:=by
 generalize((bM hc)).1=FT;generalize((bM hc)).2=hl;obtain⟨gp,x,y,cp,rfl,S9⟩:=Dj FT;refine acw (uM TO ih (args:=[.Call (.Name (ac "range") gp) [x,y] [] cp]) rfl hl S.toSit I r H.narrow fun a aS aT s1 u1 f1 g1 I1 r1 R1 H1=>?_) (iy S.kind) rfl;generalize((Aft.ite H1)).1=Im;generalize((Aft.ite H1)).2=H1;obtain⟨i,c,l,xs,rfl,rfl,A4,bF,hp,hr⟩:=uQ I1 R1 Im;refine⟨"list","list.extend",acS,PySem.F.slot_list_extend,PySem.F.type_list_extend,hp.isList.typeIs,fun a e=>by cases e;exact rZ hp,?_⟩;rw[aR (show noStar [.Call (.Name (ac "range") gp) [x,y] [] cp]=true from rfl)];refine aai ?_;dsimp only[dX,lL,im,ik,pO,Option.bind,acE]at H1;rw[if_pos ⟨rfl,S9⟩]at H1;by_cases wA:bW [x,y]=true
 ·rw[if_pos wA,R.bind_assoc]at H1;refine lR BO ih S9 (bM wA).1 BO.rng S.toSit I1 r1 H1 fun vs us ky eY s2 I2 R2 H2 f2 g2 ck=>?_;unfold iF at H2;rw[R.bind_assoc]at H2;obtain⟨l2,e,H2⟩:=Aft.opt H2;obtain⟨ar,A6,H3⟩:=Aft.opt (show Aft B envs P ((μ++aT)++eY) [] s2.heap ((ah (gW (.ref i) l2 ky)).bind fun ar=>.ok (((Fl.next,ρ):Fl×af),ar)) (KF B env P Q) E from H2);obtain⟨zz,z,e⟩:=Lp ck e;obtain⟨lo,hi,e1,e2,hb,rfl⟩:=qg e;obtain⟨ua,ub,rfl,Ra,Rb⟩:=uI z R2;obtain⟨tk,rfl⟩:=d4 e1 Ra;obtain⟨AJ,rfl⟩:=d4 e2 Rb;refine call_range_2 (aaC ?_);have kp:∀ b o,s2.heap.get? b=some o->(s2.heap.push { cls:=.type "range",data:=.fields #[.int lo tk,.int hi AJ,.int 1 s2.toks] }).get? b=some o:=fun b o e=>ag _ e
  have I3:Inv B envs P ((μ++aT)++eY) ky { s2 with heap:=s2.heap.push { cls:=.type "range",data:=.fields #[.int lo tk,.int hi AJ,.int 1 s2.toks] },toks:=s2.toks+1 }:=I2.grow kp;refine SO.ext S.handled S.depth' S.units' I3 ((R1.go g2 f2 nofun).go0 (Go.of_keeps kp)) (ct _ rfl) (gr I2) hb.1 hb.2.1 hb.2.2.1 hb.2.2.2 A6 fun s4 I4 g4=>?_;exact Aft.at0 (O:=ar) (b:=(Fl.next,ρ)) H3 I4 ((Go.of_keeps kp).trans g4) ((r1.go g2 f2 I1.apart S.own S.cellsIn).step ((Go.of_keeps kp).trans g4) I2.apart S.own S.cellsIn)
 ·rw[if_neg wA]at H1;exact H1.elim
theorem Fit.more{A:bY}{W:List bQ}(S:Fit k A envs env P):Fit k A envs env (P++W):={ toSit:=S.toSit.more,uniq:=S.uniq }
theorem mW{A:bY}{Q:aaV->aO->Prop}{W Y:List bQ}{h:ir}(S:Fit k A envs env P)(f:ie P envs)(g:Go μ (own env) h0 h)(hν:∀ a∈ν,h0.get? a=none)(hY:∀ a∈Y,a∈own env)
  (H:∀ e s',Exc B envs P μ (own env) h0 e row s'->E e s'):∀ e s',Exc B envs (P++W) (μ++ν) Y h e row s' ->
   notedBy (cr B.prog B.w) A env (fun e s'=>(fun(r:abf) s'=>match r with | .ok f=>Q f s' | .error e=>cameBackBy (cr B.prog B.w) A env E e s') (.error e) s') e s':=fun e s' x=>by
 refine ab fun Z gG=>?_;obtain⟨e0,rest,L0,h1,h2,h3⟩:=S.frm;refine gG ?_;clear gG
 refine qc S.frames h1 h2 h3 x fun s2 x2 n2=>?_;exact tq x2 n2 fun s3 x3 Z=>H e s3 (x3.outer f g hν fun a m=>.inl (hY a m))
theorem A7{A:bY}{E':am->aO->Prop}{Q:aaV->aO->Prop}{R:abf->aO->Prop}{J:aO->Prop}{W:List bQ}{again:af->U->b7}(om:∀ st,d5 B (ex T n) k st)(S:Fit k A envs env (P++W))(ic:ie P envs)
  (fr:∀ a∈ν,h0.get? a=none) (g:Go μ (own env) h0 s.heap) (I:Inv B envs (P++W) (μ++ν) O s) (r:SR B env (P++W) (μ++ν) ρ s.heap)
  (H:Aft B envs P μ (own env) h0 ((ay (ex T n env.scope) body ρ O).bind (yl again)) (KF B env P Q) E)
  (err:∀ row,(∀ e s',Exc B envs P μ (own env) h0 e row s'->E e s')->∀ e s',Exc B envs (P++W) (μ++ν) (own env) s.heap e row s'->E' e s') (rt:∀ u s,Q (.ret u) s->R (.ok (.ret u)) s)
  (next:∀ {jF ar aU s'},(∀ a∈jF,s.heap.get? a=none)->Inv B envs (P++W) ((μ++ν)++jF) ar s'->Go (μ++ν) (own env) s.heap s'.heap->SR B env (P++W) ((μ++ν)++jF) aU s'.heap->Aft B envs P μ (own env) h0 (again aU ar) (KF B env P Q) E->J s') :
  wpAny (cr B.prog B.w) A (adR body env) (fun f k4=>match f with
      | .next | .cont=>J k4
      | .brk=>R (.ok .next) k4
      | .ret v=>R (.ok (.ret v)) k4) E' s:=by
 refine jL om S body I r (Aft.inner H (fun a HU um s3 Z f3 I3 g3 H3 r3=>?_) err);rcases a with⟨_|_|_|v,U9⟩
 ·exact next f3 I3 g3 r3 H3
 ·exact next f3 I3 g3 r3 H3
 ·exact H3.elim
 ·intro u hu;rw[fC]at hu I3 r3;exact rt u s3 (H3 _ s3 (fun a m=>(bU m).elim (fr a) fun m=>g.none (f3 a m)) (I3.less ic) (g.trans_new fr g3) r3.less u (hu.sub fA))
structure WL(B:bw)(envs:List YY)(env:YY)(P μ:List bQ)(h0:ir)(ν:List bQ)(O:U)(ρ:af)(s:aO):Prop where
 fr:∀ a∈ν,h0.get? a=none
 I:Inv B envs P (μ++ν) O s
 g:Go μ (own env) h0 s.heap
 r:SR B env P (μ++ν) ρ s.heap
theorem WL.step{jF:List bQ}(L:WL B envs env P μ h0 ν O ρ s)(f:∀ a∈jF,s.heap.get? a=none)(I':Inv B envs P ((μ++ν)++jF) ar s')(g:Go (μ++ν) (own env) s.heap s'.heap)(r':SR B env P ((μ++ν)++jF) aU s'.heap) :
  WL B envs env P μ h0 (ν++jF) ar aU s' :=
 ⟨fun a m=>(bU m).elim (L.fr a) fun m=>L.g.none (f a m),by rw[<- fC];exact I',L.g.trans_new L.fr g,by rw[<- fC];exact r'⟩
theorem Dk{pos:YZ}(iht:∀ e,fh B T k n e)(om:∀ st,d5 B (ex T n) k st):d5 B (ex T (n+1)) k (.While t body [] pos):=by
 intro A envs env P μ O s ρ Q E S I r H;refine wpAny_While (codeAny_whileLoop (fun m s1=>∃ ν aS bj,WL B envs env P μ s.heap ν aS bj s1/\Aft B envs P μ (own env) s.heap (pQ (fun ρ O=>ev T n env.scope t ρ O) (ay (ex T n env.scope) body) m bj aS) (KF B env P Q) E) ?_ lN
  ⟨[],O,ρ,⟨nofun,by rw[bP];exact I,Go.refl _ _ _,by rw[bP];exact r⟩,H⟩)
 rintro m s1 ⟨ν,aS,bj,L,H⟩;rcases m with _|m
 ·exact H.elim
 refine iht t S.toSit L.I L.r (Aft.inner H (fun c ky eY s2 Z f2 I2 g2 H3=>?_) (fun row h e s' x=>mW (W:=[]) (Y:=[]) (Q:=Q) S I.frIn L.g L.fr nofun h e s' (by rw[bP];exact x)));have L2:=L.step f2 I2 g2.of_nil (L.r.goO S g2 f2 L.I.apart);cases c
 ·exact YJ (H3 _ s2 L2.fr L2.I L2.g L2.r)
 ·exact A7 (W:=[]) (R:=fun r s'=>match r with | .ok f=>Q f s' | .error e=>cameBackBy (cr B.prog B.w) A env E e s') om (by rw[bP];exact S) I.frIn L2.fr L2.g (by rw[bP];exact L2.I) (by rw[bP];exact L2.r) H3 (fun row=>mW (Q:=Q) S I.frIn L2.g L2.fr fun Z m=>m) (fun Z Z h=>h)
   fun f3 I3 g3 r3 H4=>⟨m,ZG _,_,_,_,L2.step f3 (by rwa[bP]at I3) g3 (by rwa[bP]at r3),H4⟩
structure FL(B:bw)(envs:List YY)(env:YY)(P W μ:List bQ)(h0:ir)(dA:List V)(us:List am)(St:Nat->ir->Prop)(fp:List bQ)(ν:List bQ)(O:U)(ρ:af)(i:Nat)(s:aO):Prop extends WL B envs env (P++W) μ h0 ν O ρ s where
 R0:Reps B s.heap (μ++ν) ((μ++ν)++(P++W)) dA us
 st:St i s.heap
 fpn:∀ b∈fp,b∉μ++ν
theorem FL.step{A:bY}{W:List bQ}{jF:List bQ}(L:FL B envs env P W μ h0 dA us St fp ν O ρ i s)
  (tn:Turns B.prog B.w A target I0 fp wr N Pp St) (hoP:∀ a∈own env,a∈P) (hfo:∀ b∈fp,b∉own env) (f:∀ a∈jF,s.heap.get? a=none) (I':Inv B envs (P++W) ((μ++ν)++jF) ar s') (g:Go (μ++ν) (own env) s.heap s'.heap) (r':SR B env (P++W) ((μ++ν)++jF) aU s'.heap) :
  FL B envs env P W μ h0 dA us St fp (ν++jF) ar aU i s':=by
 refine⟨L.toWL.step f I' g r',by rw[<- fC];exact L.R0.go g f (fun a m=>bo _ (hoP a m)),tn.frame _ _ _ L.st fun b hb o e=>g.kp b o e (L.fpn b hb) (hfo b hb),fun b hb m=>?_⟩;rw[<- fC]at m;rcases bU m with m|m
 ·exact L.fpn b hb m
 ·obtain⟨o,e⟩:=tn.live _ _ L.st b hb;rw[f b m]at e;exact nn e
theorem Go.own{Y:List bQ}{h:ir}(g:Go μ Y h0 h)(hwr:∀ a∈wr,h0.get? a=YO)(hk:∀ b o,b∉wr->h.get? b=some o->h'.get? b=some o):Go μ Y h0 h' :=
 have n:∀ a o,h0.get? a=some o->a∉wr:=fun a o e z=>by rw[hwr a z]at e;exact nn e
 ⟨fun a o e n1 n2=>hk a o (n a o e) (g.kp a o e n1 n2),fun a o e=>by
  obtain⟨o',e'⟩:=g.dm a o e;exact⟨o',hk a o' (n a o e) e'⟩⟩
theorem Dl{h:ir}(x:∀ e∈envs,FrAt h P' e)(ic:ie P envs)(hPW:∀ a∈wr,a∉P)(hk:∀ b o,b∉wr->h.get? b=some o->h'.get? b=some o):∀ e∈envs,FrAt h' P' e:=fun e he=>by
 refine ab fun Z gG=>?_;obtain⟨iV,L',h1,h2,o,es,n,ho,gx⟩:=x e he;refine gG ?_;clear gG
 refine ab fun Z gG=>?_;obtain⟨U4,C2,FX⟩:=ic e he;refine gG ?_;clear gG
 exact⟨iV,L',h1,h2,o,es,n,hk L' o (fun z=>hPW L' z (kH (C2.symm.trans h1)▸FX)) ho,gx⟩
theorem Gb{A:bY}{R:abf->aO->Prop}{Q:aaV->aO->Prop}{J:aO->Prop}{Q1:Option am->aO->Prop}
  (om:∀ st,d5 B (ex T n) k st) (eh:CV B A target vs dA us I0 fp wr Pp St) (S:Fit k A envs env P) (ic:ie P envs) (hPW:∀ a∈wr,a∉P) (hwr:∀ a∈wr,h0.get? a=none) (hfo:∀ b∈fp,b∉own env) (hlt:i<vs.length)
  (L:FL B envs env P wr μ h0 dA us St fp ν O ρ i s) (H:Aft B envs P μ (own env) h0 (oq env.scope target (ay (ex T n env.scope) body) (vs.drop i) ρ O) (KF B env P Q) E)
  (err:∀ {ν O ρ i s},FL B envs env P wr μ h0 dA us St fp ν O ρ i s->∀ row,(∀ e s2,Exc B envs P μ (own env) h0 e row s2->E e s2)->∀ e s2,Exc B envs (P++wr) (μ++ν) (own env) s.heap e row s2->notedBy (cr B.prog B.w) A env (fun e s'=>R (.error e) s') e s2)
  (rt:∀ u s,Q (.ret u) s->R (.ok (.ret u)) s)
  (hq:∀ v s₁,wpAny (cr B.prog B.w) A (Zb target (.ref I0) v) (fun Z yJ=>wpAny (cr B.prog B.w) A (aaj target env v) (fun Z iU=>wpAny (cr B.prog B.w) A (adR body env) (fun f k4=>match f with
      | .next | .cont=>J k4
      | .brk=>R (.ok .next) k4
      | .ret v=>R (.ok (.ret v)) k4) (notedBy (cr B.prog B.w) A env fun e s'=>R (.error e) s') iU) (notedBy (cr B.prog B.w) A env fun e s'=>R (.error e) s') yJ) (notedBy (cr B.prog B.w) A env fun e s'=>R (.error e) s') s₁->Q1 (some v) s₁)
  (next:∀ {ν O ρ s},FL B envs env P wr μ h0 dA us St fp ν O ρ (i+1) s->Aft B envs P μ (own env) h0 (oq env.scope target (ay (ex T n env.scope) body) (vs.drop (i+1)) ρ O) (KF B env P Q) E->J s) :
  wpAny (cr B.prog B.w) A (Z4 (.ref I0)) Q1 (notedBy (cr B.prog B.w) A env fun e s'=>R (.error e) s') s:=by
 have S1:Fit k A envs env (P++wr):=S.more;have qk:∀ a∈wr,a∈P++wr:=fun a m=>aq _ m
 refine Yj (eh.tn.item i s _ _ hlt L.st fun u h' tk hP oY hk=>?_) (fun r s₁ aF=>by obtain⟨v,rfl,h⟩:=aF;exact hq v s₁ h) fun Z Z e=>e
 have R0:=L.R0.touch hk qk;refine ab fun Z gG=>?_;obtain⟨y,hy,ry⟩:=eh.give i u s.heap h' (μ++ν) ((μ++ν)++(P++wr)) R0 (fun a m=>L.I.dom a m) hP;refine gG ?_;clear gG
 have L1:FL B envs env P wr μ h0 dA us St fp ν O ρ (i+1) { s with heap:=h',toks:=tk } :=
  ⟨⟨L.fr,L.I.touch hk qk (fun a m=>eh.tn.live _ _ oY a (eh.tn.sub a m)) (Dl L.I.frs ic hPW hk),L.g.own hwr hk,L.r.touch hk qk (fun m=>hPW _ m S.own) fun x a e m=>hPW _ m (S.cellsIn x a e)⟩,R0,oY,L.fpn⟩
 rw[uJ hlt,show vs[i]=y from kH ((fL hlt).symm.trans hy)]at H;refine ab fun Z gG=>?_;obtain⟨bj,hb,H⟩:=Aft.opt (g:=fun bj=>(ay (ex T n env.scope) body bj O).bind (yl (oq env.scope target (ay (ex T n env.scope) body) (vs.drop (i+1))))) H;refine gG ?_;clear gG
 refine bind_ok S1.toSit (kY env) S1.ownIn target L1.I L1.r ry hb fun s2 I2 g2 r2=>?_;have L2:=L1.step (jF:=[]) eh.tn S.ownIn hfo nofun (by rw[bP];exact I2) g2 (by rw[bP];exact r2)
 rw[bP]at L2;exact A7 om S1 ic L2.fr L2.g I2 r2 H (err L2) rt fun f3 I3 g3 r3 H4=>next (L2.step eh.tn S.ownIn hfo f3 I3 g3 r3) H4
theorem IK{A:bY}{Q:aaV->aO->Prop}{yL:U}{Oh:af}
  (om:∀ st,d5 B (ex T n) k st) (eh:CV B A target vs dA us I0 fp wr Pp St) (S:Fit k A envs env P) (hwr:∀ a∈wr,s'.heap.get? a=none) (hfp:∀ a∈fp,a∉μ++P) (I':Inv B envs P μ yL s')
  (L:FL B envs env P wr μ s'.heap dA us St fp [] yL Oh 0 s)
  (H:Aft B envs P μ (own env) s'.heap (oq env.scope target (ay (ex T n env.scope) body) vs Oh yL) (KF B env P Q) E) :
  codeAny (cr B.prog B.w) A (.forLoop target (.ref I0) body [] env) (fun r s'=>match r with | .ok f=>Q f s' | .error e=>cameBackBy (cr B.prog B.w) A env E e s') s:=by
 have ic:ie P envs:=I'.frIn;have hPW:∀ a∈wr,a∉P:=fun a m q=>by obtain⟨o,e⟩:=I'.dom a (aq _ q);rw[hwr a m]at e;exact nn e
 have hfo:∀ b∈fp,b∉own env:=fun b hb m=>hfp b hb (aq _ (S.ownIn b m))
 refine codeAny_forLoop_any (fun m s=>∃ i ν O ρ,m=vs.length+1-i/\i<=vs.length/\FL B envs env P wr μ s'.heap dA us St fp ν O ρ i s/\Aft B envs P μ (own env) s'.heap (oq env.scope target (ay (ex T n env.scope) body) (vs.drop i) ρ O) (KF B env P Q) E) ?_ (vs.length+1)
  ⟨0,[],yL,Oh,rfl,YC _,L,H⟩
 rintro m s ⟨i,ν,O,ρ,rfl,hi,L,H⟩;by_cases hlt:i<vs.length
 ·exact Gb (R:=fun r s'=>match r with | .ok f=>Q f s' | .error e=>cameBackBy (cr B.prog B.w) A env E e s') om eh S ic hPW hwr hfo hlt L H (fun L row h=>mW (Q:=Q) S ic L.g L.fr (fun Z m=>m) h) (fun Z Z h=>h) (fun Z Z h=>h) fun L2 H2=>⟨vs.length+1-(i+1),adT (aei hlt) (ZG i),i+1,_,_,_,rfl,hlt,L2,H2⟩
 ·have hin:i=vs.length:=Yq hi (pH hlt);subst hin;refine eh.tn.done _ _ _ L.st fun h' tk hk=>?_;rw[aa2]at H;exact YJ ((show Aft B envs P μ (own env) s'.heap (R.ok ((Fl.next,ρ),O)) (KF B env P Q) E from H) ν { s with heap:=h',toks:=tk } L.fr (Inv.drop L.I ic hPW hk) (L.g.own hwr hk)
   (L.r.move (fun b o e m=>hk b o (fun z=>m (aq _ (aq _ z))) e) (fun o e=>hk _ o (fun m=>hPW _ m S.own) e) (fun x a e o eo=>hk _ o (fun m=>hPW _ m (S.cellsIn x a e)) eo) (fun Z Z e=>e) fA))
theorem IL{it:Expr}{pos:YZ}(BO:aP B)(ih:∀ e,aY B T k n e)(om:∀ st,d5 B (ex T n) k st):d5 B (ex T (n+1)) k (.For t it body [] pos):=by
 intro A envs env P μ O s ρ Q E S I r H;generalize(H:Aft B envs P μ (own env) s.heap (if cM t=true then(dX (fun e O=>ev T n env.scope e ρ O) (bd env.scope ρ) (eB t) it O).bind fun a=>oq env.scope t (ay (ex T n env.scope) body) a.1 ρ a.2 else .stuck) (KF B env P Q) E)=H';generalize((Aft.ite H')).1=ht;generalize((Aft.ite H')).2=H';have fZ:dX (fun e O=>ev T n env.scope e ρ O) (bd env.scope ρ) (eB t) it O≠.stuck:=fun e=>by rw[e]at H';exact H'
 refine wpAny_For (E3 BO ih ht S.toSit I r (H'.bindN fun vs aS aT s1 Z f1 I1 g1 H1=>?_)) (AK (fun es q p O=>yN n env.scope es q p ρ O) fZ);intro I0 fp wr dA us Pp St h2 tk eh st0 kp R0 hwr hfp;generalize(r.goO S g1 f1 I.apart)=r1;refine IK om eh S hwr hfp I1 ⟨⟨nofun,?_,Go.of_keeps kp,?_⟩,?_,st0,fun b hb m=>hfp b hb (bo _ (by rwa[bP]at m))⟩ H1
 ·rw[bP];exact I1.more kp hwr fun a m=>eh.tn.live _ _ st0 a (eh.tn.sub a m)
 ·rw[bP];exact r1.more kp hwr
 ·rw[bP];exact Reps.move dA R0 (Kp.of_keeps kp) (fun Z Z e=>e) (gJ hwr)
theorem yU(e:Expr)(pos:YZ)(env:YY):exec (.Raise (some e) none pos) env=(do standAt pos;let xv<-(do let v<-eval e env;standAt pos;pure v);jK xv):=by rfl
theorem Dm{m r':Expr}{q pos:YZ}(BO:aP B)(SO:uN B)(ih:∀ e,aY B T k n e):d5 B (ex T (n+1)) k (.Raise (some (.Call (.Name x p) [m,r'] [] q)) none pos):=by
 intro A envs env P μ O s ρ Q E S I r H;have H':Aft B envs P μ (own env) s.heap (if(x==ac "SettingError"&&bd env.scope ρ x&&bW [m,r'])=true then(ev T n env.scope m ρ O).bind fun a=>(ev T n env.scope r' ρ a.2).bind fun b=>(ah (j9 a.1)).bind fun _=>(ah (dO b.1)).bind fun row=>.exc row else .stuck) (KF B env P Q) E:=H;obtain⟨hc,Ha⟩:=Aft.ite H';clear H' H;obtain⟨hc,eC⟩:=bM hc;obtain⟨hx,hg⟩:=bM hc;have hx:x=ac "SettingError":=by simpa using hx
 subst hx;obtain⟨hg,hd⟩:=bM hg;obtain⟨_,hg⟩:=bM hg;have hl:env.scope.names.lookup (ac "SettingError")=some .globalImplicit:=by simpa using hg
 have hd:(ac "SettingError"==ac "__debug__")=false:=by simpa using hd
 have hs:=(bM eC).1;rw[yU];refine aa (Ye (aa (aa ?_)));show wpAny _ _ (do callWith q (<- eval (.Name (ac "SettingError") p) env) [] (Yx q (j8 [m,r'] env)) []) _ E s;have hp:(Yx q (j8 [m,r'] env)).any (·.1)=false:=by rw[aR hs];exact et
 obtain⟨κ,mL,hk⟩:=SO.errk;refine aa (fy BO S.kind S.glob I hl hd SO.err ?_);refine cj hp mL (gX hs ?_);rw[aR hs];refine aai (ih m S.toSit I r (Ha.bindN fun a aS aT s1 Z f1 I1 g1 H1 u1 R1=>?_));have r1:=r.goO S g1 f1 I.apart;refine aai (ih r' S.toSit I1 r1 (H1.bindN fun b ky eY s2 Z f2 I2 g2 H2 u2 R2=>aaC ⟨fun Q' q=>hk I2.stays q,?_⟩));show wpAny _ _ (call (.ref B.cE) [u1,u2] []) (fun v s3=>wpAny _ _ (standAt pos>>=fun Z=>pure v) (fun xv s4=>wpAny _ _ (jK xv) Q E s4) E s3) E s2;obtain⟨l,hl,H2⟩:=H2.opt;obtain⟨row,hr,H2⟩:=H2.opt;rw[show a=_ from uH hl]at R1;rw[show b=_ from uG hr]at R2;obtain⟨t,rfl⟩:=AF (R1.go g2 f2 nofun);obtain⟨t2,rfl⟩:=uF R2;exact Yj (SO.rse S.frames S.handled S.depth' S.units' I2 fun e s' x=>H2 e s' (x.wide nofun)) (fun xv s3 h=>aa (Ye (ae h))) fun Z Z e=>e
theorem sR:(R.stuck:b7)= .stuck:=rfl
theorem fi{st:lI}(h:∀ sc ρ O,ex T n sc st ρ O= .stuck):d5 B (ex T n) k st:=by
 intro A envs env P μ O s ρ Q E S I r H;rw[h]at H;exact H.elim
theorem Gc{f:Expr}{q pos:YZ}(BO:aP B)(TO:dn B k T)(SO:uN B)(ih:∀ e,aY B T k n e):d5 B (ex T (n+1)) k (.Expr (.Call f args [] q) pos):=by
 intro A envs env P μ O s ρ Q E S I r H;replace H:Aft B envs P μ (own env) s.heap (tI T n env.scope f args q (methP f args) ρ O) (KF B env P Q) E:=H;induction h:methP f args using aL with
 | none=>rw[h]at H;exact oD ih S I r H
 | some a =>
  rw[h]at H;obtain rfl:=((r7 h)).1;obtain rfl:=((r7 h)).2;obtain⟨o,m,p,arg⟩:=a;dsimp only[tI]at H;by_cases h1:m=ac "append"
  ·rw[if_pos h1]at H;subst h1;obtain⟨hc,H⟩:=Aft.ite H;exact A3 TO ih S I r hc H
  ·rw[if_neg h1]at H;by_cases h2:m=ac "extend"
   ·rw[if_pos h2]at H;subst h2;generalize((Aft.ite H)).1=hc;generalize((Aft.ite H)).2=H;exact A5 BO TO SO ih S I r hc H
   ·rw[if_neg h2]at H;exact oD ih S I r H
theorem Gd(BO:aP B)(TO:dn B k T)(SO:uN B)(all:∀ m,(∀ e,aY B T k m e)/\∀ e,fh B T k m e)(ih:∀ e,aY B T k n e)(iht:∀ e,fh B T k n e)(ihc:∀ e,k7 B (bT T n) k e)(om:∀ st,d5 B (ex T n) k st):∀ st,d5 B (ex T (n+1)) k st:=fun st=>by
 induction st using afi with
 | Return v pos =>
  induction v using aL with
  | none=>exact fi fun Z Z Z=>rfl
  | some e=>exact AU ihc
 | Continue pos=>exact wx
 | If t a b pos=>exact Lm iht om
 | Assign ts e pos =>
  induction h:fX ts using aL with
  | none=>exact fi fun sc ρ O=>by show(match fX ts with|some t=>kN T n sc t e (pR t) ρ O|none=>.stuck)=_;rw[h]
  | some t =>
   rw[gB h];induction h:pR t using aL with
   | some a =>
    obtain⟨p,hp⟩:=Di h;rw[hp];exact uO SO ih
   | none=>exact A2 BO all ihc h
 | Expr e pos =>
  induction h:im e using aL with
  | none=>exact fi fun sc ρ O=>by show yn T n sc (im e) ρ O=_;rw[h];rfl
  | some a=>rw[kb h];exact Gc BO TO SO ih
 | For t it body yV pos =>
  induction yV using cz with
  | nil=>exact IL BO ih om
  | cons x xs=>exact fi fun Z Z Z=>rfl
 | While t body yV pos =>
  induction yV using cz with
  | nil=>exact Dk iht om
  | cons x xs=>exact fi fun Z Z Z=>rfl
 | Raise e c pos =>
  induction h:pS e c using aL with
  | none=>exact fi fun sc ρ O=>by show t6 T n sc (pS e c) ρ O=_;rw[h];rfl
  | some a =>
   obtain⟨p,q,he,hc⟩:=yT h;rw[he,hc];exact Dm BO SO ih
 | _=>exact fi fun Z Z Z=>rfl
theorem k8(BO:aP B)(TO:dn B k T)(OO:jj B)(SO:uN B):∀ n,∀ st,d5 B (ex T n) k st
 | 0=>fun Z=>fi fun Z Z Z=>rfl
 | n+1=>Gd BO TO SO (gb BO TO OO) (gb BO TO OO n).1 (gb BO TO OO n).2 (xi BO TO OO n) (k8 BO TO OO SO n)
theorem oE{kindOf:fw->Option YB}{x:fw} : ∀ {eX:List (fw×am)} {m:fw->Option am},(eX.map (·.1)).Nodup->bindL kindOf eX m x=match eX.lookup x with
  | some v=>if kindOf x=some .local then some v else m x
  | none=>m x
 | [],m,_=>rfl
 | (y,v)::r,m,h=>by
  generalize(z9 (show(y::r.map (·.1)).Nodup from h))=h';unfold bindL;rw[oE h'.2];by_cases e:x=y
  ·subst e;have:r.lookup x=none:=by
    induction q:r.lookup x using aL with
    | none=>rfl
    | some w=>exact absurd (List.mem_map.mpr ⟨(x,w),bZ q,rfl⟩) h'.1
   rw[this];simp only[dR,beq_self_eq_true];by_cases hk:kindOf x=some .local
   ·rw[if_pos hk,if_pos hk];simp
   ·rw[if_neg hk,if_neg hk]
  ·have hb:(x==y)=false:=by simpa using e
   simp only[dR,hb];induction r.lookup x using aL with
   | some w=>by_cases hk:kindOf y=some .local<;>by_cases yC:kindOf x=some .local<;>simp[hk,yC,e]
   | none=>by_cases hk:kindOf y=some .local<;>simp[hk,e]
theorem oF{kindOf:fw->Option YB}{x:fw} : ∀ {eX:List (fw×am)} {m:fw->Option am},(eX.map (·.1)).Nodup->bindC kindOf eX m x=match eX.lookup x with
  | some v=>if kindOf x=some .local then m x else some v
  | none=>m x
 | [],m,_=>rfl
 | (y,v)::r,m,h=>by
  generalize(z9 (show(y::r.map (·.1)).Nodup from h))=h';unfold bindC;rw[oF h'.2];by_cases e:x=y
  ·subst e;have:r.lookup x=none:=by
    induction q:r.lookup x using aL with
    | none=>rfl
    | some w=>exact absurd (List.mem_map.mpr ⟨(x,w),bZ q,rfl⟩) h'.1
   rw[this];simp only[dR,beq_self_eq_true];by_cases hk:kindOf x=some .local
   ·rw[if_pos hk,if_pos hk]
   ·rw[if_neg hk,if_neg hk];simp
  ·have hb:(x==y)=false:=by simpa using e
   simp only[dR,hb];induction r.lookup x using aL with
   | some w=>by_cases hk:kindOf y=some .local<;>by_cases yC:kindOf x=some .local<;>simp[hk,yC,e]
   | none=>by_cases hk:kindOf y=some .local<;>simp[hk,e]
theorem so{h:ir}{μ X:List bQ}{x:fw} : ∀ {ps:List fw} {vs:List V} {us:List am},Reps B h μ X vs us->ORep B h μ X ((ps.zip vs).lookup x) ((ps.zip us).lookup x)
 | [],_,_,_=>trivial
 | _::_,[],us,r=>by obtain rfl:=b8 r;trivial
 | p::ps,v::vs,us,r=>by
  obtain⟨u,r0,rfl,r1,r2⟩:=ba r;simp only[YK,dR];induction hx:x==p using iN with
  | true=>exact r1
  | false=>exact so r2
theorem wB{names:List (fw×YB)}{eX:List (fw×V)}(iX:(names.map (·.1)).Nodup)(h:(dh names eX).lookup x=some ov):((x,NameKind.local)∈names\/(x,YI)∈names)/\ov=eX.lookup x:=by
 induction names with
 | nil=>exact nn h
 | cons y r ih =>
  obtain⟨y,kd⟩:=y;generalize(z9 (show(y::r.map (·.1)).Nodup from iX))=qh;have step:(dh r eX).lookup x=some ov->((x,NameKind.local)∈(y,kd)::r\/(x,YI)∈(y,kd)::r)/\ov=eX.lookup x:=fun h=>by
   obtain⟨a,b⟩:=ih qh.2 h;exact⟨a.imp (bG _) (bG _),b⟩
  have here:((y,eX.lookup y)::dh r eX).lookup x=some ov->(kd= .local\/kd= .cell)->((x,NameKind.local)∈(y,kd)::r\/(x,YI)∈(y,kd)::r)/\ov=eX.lookup x:=fun h hk=>by
   rw[dR]at h;induction hx:x==y using iN with
   | true =>
    rw[hx]at h;obtain rfl:=si h
    rw[eq_of_beq hx];exact⟨hk.imp (fun q=>by rw[q];exact aW) (fun q=>by rw[q];exact aW),rfl⟩
   | false=>rw[hx]at h;exact step h
  cases kd with
  | «local»=>exact here h (.inl rfl)
  | cell=>exact here h (.inr rfl)
  | _=>exact step h
theorem jM{x:fw}{a:bQ} : ∀ {names:List (fw×YB)} {i:Nat} {acc:List (fw×bQ)},(x,a)∈Z9 i names acc->(x,a)∈acc\/(x,YI)∈names
 | [],_,_,h=>.inl h
 | (y,kd)::r,i,acc,h=>by
  unfold Z9 at h;by_cases hk:(kd==.cell)=true
  ·rw[if_pos hk]at h;rcases jM h with h|h
   ·rcases cn h with e|h
    ·cases e
     right
     rw[show kd= .cell by simpa using hk];exact aW
    ·exact .inl h
   ·exact .inr (bG _ h)
  ·rw[if_neg hk]at h;exact(jM h).imp id (bG _)
theorem jN{p:fw×bQ} : ∀ {names:List (fw×YB)} {i:Nat} {acc:List (fw×bQ)},p∈acc->p∈Z9 i names acc
 | [],_,_,h=>h
 | (y,kd)::r,i,acc,h=>by
  unfold Z9;by_cases hk:(kd==.cell)=true
  ·rw[if_pos hk];exact jN (bG _ h)
  ·rw[if_neg hk];exact jN h
theorem g0{x:fw} : ∀ {names:List (fw×YB)} {i:Nat} {acc:List (fw×bQ)},(x,YI)∈names->∃ a,(x,a)∈Z9 i names acc
 | [],_,_,h=>by cases h
 | (y,kd)::r,i,acc,h=>by
  unfold Z9;rcases cn h with e|h
  ·cases e
   rw[if_pos (show(YI==YI)=true from rfl)];exact⟨i,jN aW⟩
  ·by_cases hk:(kd==.cell)=true
   ·rw[if_pos hk];exact g0 h
   ·rw[if_neg hk];exact g0 h
theorem fF:∀ {names:List (fw×YB)} {i:Nat} {acc:List (fw×bQ)},(names.map (·.1)).Nodup->(acc.map (·.1)).Nodup->(∀ x a,(x,a)∈acc->x∉names.map (·.1))->((Z9 i names acc).map (·.1)).Nodup
 | [],_,_,_,h,_=>h
 | (y,kd)::r,i,acc,hn,ha,hd=>by
  have yG:=z9 (show(y::r.map (·.1)).Nodup from hn);unfold Z9;by_cases hk:(kd==.cell)=true
  ·rw[if_pos hk];refine fF yG.2 (List.nodup_cons.mpr ⟨fun m=>?_,ha⟩) fun x a hx m=>?_
   ·obtain⟨⟨z,b⟩,hz,e⟩:=iP m;have e:z=y:=e;subst e;exact hd z b hz aW
   ·rcases cn hx with e|hx
    ·cases e;exact yG.1 m
    ·exact hd x a hx (bG _ m)
  ·rw[if_neg hk];exact fF yG.2 ha fun x a hx m=>hd x a hx (bG _ m)
theorem lV{x:fw}{a:bQ} : ∀ {l:List (fw×bQ)},(l.map (·.1)).Nodup->(x,a)∈l->l.lookup x=some a
 | [],_,h=>by cases h
 | (y,b)::r,iX,h=>by
  generalize(z9 (show(y::r.map (·.1)).Nodup from iX))=qh;rw[dR];rcases cn h with e|h
  ·cases e;simp
  ·have:(x==y)=false:=by
    have:x≠y:=fun q=>qh.1 (q▸List.mem_map.mpr ⟨(x,a),h,rfl⟩)
    simpa using this
   rw[this];exact lV qh.2 h
structure FnAt(B:bw)(a:bQ)(fd:Zf)(F:Fn):Prop where
 obj:∃ o,B.H.get? a=some o/\o.data= .func fd
 scope:fd.scope=F.scope
 body:fd.body= .stmts F.body
 clo:fd.closure=[]
 glob:fd.globals=Yi
 blt:fd.builtins=aau
 code:B.H.CodeRec fd.code fd.qualname
 kind:F.scope.kind= .function
 gen:F.scope.isGenerator=false
 co:F.scope.isCoroutine=false
 nd:(F.scope.names.map (·.1)).Nodup
 pnd:F.params.Nodup
 pk:∀ x∈F.params,(x,NameKind.local)∈F.scope.names\/(x,YI)∈F.scope.names
 ncd:∀ x∈F.scope.names,(x.1==ac "__classdict__")≠true
 bind:∀ (s:aO) (us:List am),B.H.StaysIn s.heap->us.length<=F.params.length->F.params.length<=us.length+F.dflts.length ->
  ∃ ds,adp s fd ⟨us,[]⟩ (F.params.zip (us++ds))/\Reps B B.H [] [] (F.dflts.drop (F.dflts.length-(F.params.length-us.length))) ds
theorem Exc.tail{Y:List bQ}(x:Exc B (env::envs) P μ Y h₀ e row s)(hf:∀ L,env.frame=some L->L∈Y):Exc B envs P μ Y h₀ e row s :=
 ⟨x.stays,x.gens,x.os,fun a o ha n m=>let⟨sl,h1,h2⟩:=x.kept a o ha n m;⟨sl,h1,fun nf=>h2 (be ⟨fun hl=>m (hf _ hl),nf⟩)⟩,x.dm,fun e he=>x.frs e (bG _ he),x.base,let⟨w,z⟩:=x.at_;⟨w,z.via (fun _ h=>h) (fun _ h e he=>h e (bG _ he)) fun _ o _ e=>⟨o.slots,e,rfl⟩⟩⟩
theorem Inv.tail(x:Inv B (env::envs) P μ O s):Inv B envs P μ O s :=
 { x with frs:=fun e he=>x.frs e (bG _ he) }
theorem Inv.cons(x:Inv B envs P μ O s)(f:FrAt s.heap P env):Inv B (env::envs) P μ O s:=by
 refine{ x with frs:=fun e he=>?_ };rcases cn he with rfl|he
 ·exact f
 ·exact x.frs e he
theorem xl{ps:List fw}{us:List α}(h:ps.length=us.length):(ps.zip us).map (·.1)=ps:=by
 rw[<- List.unzip_fst,List.unzip_zip h]
noncomputable def oG(body:af->U->b7)(F:Fn):aG:=fun vs O =>
 let given:=vs++F.dflts.drop (F.dflts.length-(F.params.length-vs.length))
 if vs.length<=F.params.length/\given.length=F.params.length then
  (body (dh F.scope.names (F.params.zip given)) O).bind fun a=>match a.1.1 with
   | .ret v=>.ok (v,a.2)
   | .next=>.ok (.none,a.2)
   | _=>.stuck
 else .stuck
noncomputable def yW(f:gK->lI->af->U->b7)(F:Fn):aG:=oG (ay (f F.scope) F.body) F
noncomputable def mX(B:bw)(Z:List YY->List bQ)(J:List YY->ir->ir->Prop)(k:Nat)(fu:am)(F:aG):Prop :=
 ∀ {A:bY} {envs:List YY} {P μ:List bQ} {O:U} {s:aO} {vs:List V} {us:List am} {Q:am->aO->Prop} {E:am->aO->Prop},A.frames=some envs->A.handled=none->A.depth+2*k<=600->A.units+200*k<=6000 ->
  Inv B envs P μ O s->Reps B s.heap μ (μ++P) vs us->Aft B envs P μ (Z envs) s.heap (F vs O) (fun v bV s'=>J envs s.heap s'.heap->KV B P Q v bV s') E->wpAny (cr B.prog B.w) A (call fu us []) Q E s
theorem tO{F:Fn}{W:YY->List YY->List bQ}{Z:List YY->List bQ}{J:List YY->ir->ir->Prop}{body:af->U->b7}(BO:aP B)(FA:FnAt B a fd F)
  (hW:∀ env envs x,env.frame=some env.locals->x∈W env (env::envs)->x∈own env\/x∈Z envs) (hL:∀ env envs,env.locals∈W env (env::envs)) (hJ:∀ envs h h1 h2,(∀ b o,h.get? b=some o->h1.get? b=some o)->J envs h1 h2->J envs h h2)
  (hbd:∀ {A:bY} {envs:List YY} {env:YY} {P μ:List bQ} {O:U} {s:aO} {ρ:af} {Q:aaV->aO->Prop} {E:am->aO->Prop},Fit k A envs env P->env.scope=F.scope->env.locals∉envs.tail.filterMap (·.frame)->Inv B envs P μ O s->SR B env P μ ρ s.heap ->
   Aft B envs P μ (W env envs) s.heap (body ρ O) (fun a bV s'=>J envs.tail s.heap s'.heap->KF B env P Q a bV s') E->wpAny (cr B.prog B.w) A (adR F.body env) Q E s):mX B Z J (k+1) (.ref a) (oG body F):=by
 intro A envs P μ O s vs us Q E gA hh iY on I R H;obtain⟨o,uR,Dn⟩:=FA.obj;have ho:s.heap.get? a=some o:=I.stays a o uR;by_cases hc:vs.length<=F.params.length/\(vs++F.dflts.drop (F.dflts.length-(F.params.length-vs.length))).length=F.params.length
 ·have H':Aft B envs P μ (Z envs) s.heap ((body (dh F.scope.names (F.params.zip (vs++F.dflts.drop (F.dflts.length-(F.params.length-vs.length))))) O).bind fun a=>match a.1.1 with
    | .ret v=>.ok (v,a.2)
    | .next=>.ok (.none,a.2)
    | _=>.stuck) (fun v bV s'=>J envs s.heap s'.heap->KV B P Q v bV s') E:=by
   have:oG body F vs O=(body (dh F.scope.names (F.params.zip (vs++F.dflts.drop (F.dflts.length-(F.params.length-vs.length))))) O).bind fun a=>match a.1.1 with
    | .ret v=>.ok (v,a.2)
    | .next=>.ok (.none,a.2)
    | _=>.stuck:=by
    unfold oG;exact if_pos hc
   rw[this]at H;exact H
  have ck:=R.length;obtain⟨CY,yX⟩:=hc;obtain⟨ds,hb,Rd⟩:=FA.bind s us I.stays (by exact HE ‹_› ‹_›) (by rw[bv,aaf]at yX;exact RE ‹_› ‹_›);rw[ck]at Rd;have Rall:Reps B s.heap μ (μ++P) (vs++F.dflts.drop (F.dflts.length-(F.params.length-vs.length))) (us++ds) :=
   R.append (Reps.move _ Rd (fun a o e _=>I.stays a o e) (fun n a e=>by simp at e) fun a m=>.inr (I.new a m))
  have CU:F.params.length=(us++ds).length:=by rw[Rall.length];exact yX.symm
  have IM:((F.params.zip (us++ds)).map (·.1)).Nodup:=by rw[xl CU];exact FA.pnd
  have tj:fd.scope.kind= .function:=by rw[FA.scope];exact FA.kind
  refine ZK (codeAny_call_function (by show A.depth<1000;exact QJ ‹_›) ho Dn (by rw[FA.scope];exact FA.co) (by rw[FA.scope];exact FA.gen) FA.body (FA.code.keeps I.stays) ?_);refine hb _ _ _ _ ?_;rw[FA.clo];refine wpAny_newFunctionEnv_cells tj (fun x hx=>?_) fun env he s1 X=>?_
  ·have Ge:x.1∈F.params:=by rw[<- xl CU];exact List.mem_map.mpr ⟨x,hx,rfl⟩
   rw[FA.scope];rcases FA.pk x.1 Ge with z|z
   ·exact .inl (dj FA.nd z)
   ·refine .inr ⟨dj FA.nd z,?_⟩;obtain⟨b,hb⟩:=g0 (i:=s.heap.objs.size+1) (acc:=[]) z;rw[lV (fF FA.nd (by simp) (fun _ _ m=>by cases m)) hb];rfl
  subst he;generalize hE:newEnv fd.scope s.heap.objs.size fd.globals (Z9 (s.heap.objs.size+1) fd.scope.names []) (fd.qualname++".<locals>.") (some a) fd.code none fd.builtins=env at X ⊢;have e1:env.scope=F.scope:=by rw[<- hE,<- FA.scope];rfl
  have e2:env.locals=s.heap.objs.size:=by rw[<- hE];rfl
  have e3:env.cells=Z9 (s.heap.objs.size+1) F.scope.names []:=by rw[<- hE,<- FA.scope];rfl
  have e4:env.globals=Yi:=by rw[<- hE,<- FA.glob];rfl
  have e5:env.builtins=aau:=by rw[<- hE,<- FA.blt];rfl
  have e6:env.frame=some s.heap.objs.size:=by rw[<- hE];rfl
  have kp:∀ b o,s.heap.get? b=some o->s1.heap.get? b=some o:=X.toInCall.keep;obtain⟨h1,Lq,hs1⟩:=X.toInCall.same;have hun1:∀ x a,(x,a)∈env.cells->env.cells.lookup x=some a:=fun x a h=>by
   rw[e3]at h ⊢;exact lV (fF FA.nd (by simp) (fun _ _ m=>by cases m)) h
  have hcl:∀ x a,env.cells.lookup x=some a->(x,YI)∈F.scope.names:=fun x a h=>by
   have:=bZ h;rw[e3]at this;rcases jM this with z|z
   ·cases z
   ·exact z
  have acL:∀ b∈own env,s.heap.get? b=none:=fun b m=>by
   rcases cn m with rfl|m
   ·rw[e2];exact bp _
   ·obtain⟨⟨x,c⟩,m',rfl⟩:=iP m;exact ku (YG (by have:=X.above x c m';rw[e2]at this;exact this))
  have live:∀ b∈own env,∃ o,s1.heap.get? b=some o:=fun b m=>by
   rcases cn m with rfl|m
   ·obtain⟨o,_,_,e,_⟩:=X.toInCall.ns;exact⟨o,e⟩
   ·obtain⟨⟨x,c⟩,m',rfl⟩:=iP m;obtain⟨o,e,_⟩:=X.cell x c (hun1 x c m');exact⟨o,e⟩
  have I1:Inv B (env::envs) (P++own env) μ O s1:=by
   have z:Inv B envs (P++own env) μ O s1:=by
    rw[hs1];exact I.more (by rw[hs1]at kp;exact kp) acL (by rw[hs1]at live;exact live)
   refine z.cons ⟨by rw[e1,FA.kind];decide,env.locals,by rw[e6,e2],aq _ aW,?_⟩;obtain⟨o,es,ep,e,hd,_⟩:=X.toInCall.ns;exact⟨o,es,ep,e,hd⟩
  have S:Fit k (A.deeper env) (env::envs) env (P++own env) :=
   {
    frames:=by show A.frames.map (env::·)=_;rw[gA];rfl
    handled:=hh
    depth:=by show A.depth+1+2*k<=600;exact Rl ‹_›
    units:=by show A.units+3+200*k<=6000;exact Sh ‹_›
    frm:=⟨env,envs,s.heap.objs.size,rfl,e6,e6⟩
    kind:=by rw[e1];exact FA.kind
    glob:=e4
    blt:=e5
    own:=aq _ aW
    cells:=fun x b e=>⟨aq _ (xd e),FA.ncd (x,.cell) (hcl x b e)⟩
    inj:=fun x y b h1 h2=>name_of_addr X.apart (bZ h1) (bZ h2)
    uniq:=hun1 }
  have r0:SR B env (P++own env) μ (dh F.scope.names (F.params.zip (vs++F.dflts.drop (F.dflts.length-(F.params.length-vs.length))))) s1.heap:=by
   refine⟨_,X.toInCall.ns,fun x ov hx=>?_⟩;obtain⟨hk,rfl⟩:=wB FA.nd hx;refine⟨(F.params.zip (us++ds)).lookup x,?_,(so Rall).move (Kp.of_keeps kp) (fun _ _ e=>e) (gJ acL)⟩;rcases hk with hk|hk
   ·have hl:env.kindOf x=some .local:=by show env.scope.names.lookup x=_;rw[e1];exact dj FA.nd hk
    refine .inl ⟨hl,?_⟩;rw[oE IM];induction (F.params.zip (us++ds)).lookup x using aL with
    | some v=>simp[hl]
    | none=>rfl
   ·have hl:env.kindOf x=some .cell:=by show env.scope.names.lookup x=_;rw[e1];exact dj FA.nd hk
    obtain⟨b,q7⟩:=g0 (i:=s.heap.objs.size+1) (acc:=[]) hk;have hbl:env.cells.lookup x=some b:=hun1 x b (by rw[e3];exact q7);obtain⟨oc,AB,Il⟩:=X.cell x b hbl;refine .inr ⟨.inl hl,b,oc,hbl,AB,?_⟩;rw[Il,oF IM];induction (F.params.zip (us++ds)).lookup x using aL with
    | some v=>simp[hl]
    | none=>rfl
  have IN:env.locals∉(env::envs).tail.filterMap (·.frame):=fun m=>by
   obtain⟨e',he,hf⟩:=List.mem_filterMap.mp m;obtain⟨_,L,h1,_,o',es',n',fe,_⟩:=I.frs e' he;rw[h1]at hf;have hf:=kH hf;rw[hf,e2,bp]at fe;exact nn fe
  refine⟨(BO.nolim.keeps I.stays).keeps kp,codeAny_func (hbd S e1 IN I1 r0 ?_)⟩;have ic:=I.frIn;have g1:Go μ [] s.heap s1.heap:=Go.of_keeps kp;have H2:Aft B envs P μ (Z envs) s.heap ((body (dh F.scope.names (F.params.zip (vs++F.dflts.drop (F.dflts.length-(F.params.length-vs.length))))) O).bind fun a=>match a.1.1 with
    | .ret v=>.ok (v,a.2)
    | .next=>.ok (.none,a.2)
    | _=>.stuck) (fun v bV s'=>J envs s.heap s'.heap->KV B P Q v bV s') E:=H'
  have Ve:∀ L,env.frame=some L->L∈W env (env::envs):=fun L e=>by rw[e6]at e;obtain rfl:=si e;rw[<- e2];exact hL env envs
  refine Aft.inner H2 (fun fl ky eY s2 _ f2 I2 g2 H3 j2 r2=>?_) fun row h e s2 x=>?_
  ·have I3:Inv B envs P (μ++eY) ky s2:=I2.tail.less ic;have f3:∀ b∈eY,s.heap.get? b=none:=fun b m=>g1.none (f2 b m)
   have g3:Go μ (Z envs) s.heap s2.heap:=⟨fun b o e n1 n2=>g2.kp b o (kp b o e) n1 (fun m=>(hW _ _ _ (by rw[e6,e2]) m).elim (fun m=>by rw[acL b m]at e;exact nn e) n2),fun b o e=>g2.dm b o (kp b o e)⟩
   obtain⟨fl,F8⟩:=fl;induction fl using Fl.casesOn with
   | next=>exact H3 eY s2 f3 I3 g3 (hJ _ _ _ _ kp j2) .none zN
   | ret v=>exact fun u hu=>H3 eY s2 f3 I3 g3 (hJ _ _ _ _ kp j2) u (hu.sub fA)
   | cont=>exact H3.elim
   | brk=>exact H3.elim
  ·refine yF S.frames rfl e6 e6 x fun s3 x3 _=>?_;exact h e s3 ((x3.tail fun L hL=>Ve L hL).outer0 ic g1.of_nil fun b m=>(hW _ _ _ (by rw[e6,e2]) m).elim (fun m=>.inr (acL b m)) .inl)
 ·have:oG body F vs O= .stuck:=by unfold oG;exact if_neg hc
  rw[this]at H;exact H.elim
theorem Lr{F:Fn}{f:gK->lI->af->U->b7}(BO:aP B)(FA:FnAt B a fd F)(IP:∀ st,d5 B f k st):FnOk B (k+1) (.ref a) (yW f F):=by
 intro A envs P μ O s vs us Q E gA hh iY on I R H;exact tO (W:=fun env _=>own env) (Z:=fun _=>[]) (J:=fun _ _ _=>True) (body:=ay (f F.scope) F.body) BO FA (fun _ _ _ _ m=>.inl m) (fun env _=>aW) (fun _ _ _ _ _ _=>trivial)
  (fun S e _ I r H=>jL IP S F.body I r (by rw[e];exact H.mono fun _ _ _ x=>x trivial)) gA hh iY on I R (H.mono fun _ _ _ x _=>x)
theorem yY{F:Fn}(BO:aP B)(FA:FnAt B a fd F)(IP:∀ st,d5 B (ex T n) k st):FnOk B (k+1) (.ref a) (bh T n F):=Lr (f:=ex T n) BO FA IP
open PySem.AutoSeq1 (wpAny_loadPart')
theorem c7(l:List Nat):(aB l).length=l.length:=by show(l.toArray).size=_;simp
theorem mY(l m:List Nat):aB l++aB m=aB (l++m):=by
 show(⟨(l.toArray)++(m.toArray)⟩:fw)=⟨(l++m).toArray⟩;simp
section
variable{A:bY}
theorem tA(l:bQ)(items:Array am)(n:Nat)(dct:Option bQ)(sl:Array (Option am))(b:bQ)(yZ:Array am)(n2:Nat)(IQ:Option bQ)(wC:Array (Option am))(FW:items.size+yZ.size<=lH) :
  Meets (Builtin.«list.__add__» ⟨[.ref l,.ref b],[]⟩) (fun _ R s=>s.heap.get? l=some { cls:=.type "list",dict:=dct,data:=.seq items n,slots:=sl }/\s.heap.get? b=some { cls:=.type "list",dict:=IQ,data:=.seq yZ n2,slots:=wC }/\R (.ok (.ret (gH s.heap.objs.size))) { s with heap:=s.heap.push { cls:=aaE "list",data:=agC (items++yZ) },toks:=s.toks }) :=
 .of_wp fun prog w A R s h=>by obtain⟨hp,g,d,tk,os⟩:=s;obtain⟨hl,hb,h⟩:=h;have f1:=afn;have f2:=afj;have f3:=afm;have f4:=afk;have f5:=afl;wp_walk using abO hl,abO hb;exact⟨_,rfl,h⟩
theorem add_lists{l b:bQ}(hl:s.heap.IsList l xs)(hb:s.heap.IsList b ys)(hsz:xs.size+ys.size<=lH)
  (h:Q (.ref s.heap.objs.size) { s with heap:=s.heap.push { cls:=.type "list",data:=.seq (xs++ys) } }):wpAny (cr prog w) A (abz .Add (.ref l) (.ref b)) Q E s:=by
 generalize(hl.typeIs:s.TypeIs (.ref l) "list")=t1;generalize(hb.typeIs:s.TypeIs (.ref b) "list")=t2;refine ab fun _ gG=>?_;obtain⟨⟨c,dct,dt,sl⟩,ho,hc,n,hd⟩:=hl;refine gG ?_;clear gG
 refine ab fun _ gG=>?_;obtain⟨⟨c2,IQ,Vf,wC⟩,N5,yX,n2,Do⟩:=hb;refine gG ?_;clear gG
 replace hc:c= .type "list":=hc;replace hd:dt= .seq xs n:=hd;replace yX:c2= .type "list":=yX;replace Do:Vf= .seq ys n2:=Do;subst hc hd yX Do;exact concat_meets t1 t2 noFill_list_add seq_list_add PySem.F.slot_list_add PySem.F.entry_list_add (PySem.F.args_list_add_2 _ _) (tA l xs n dct sl b ys n2 IQ wC hsz) ⟨ho,N5,h⟩
end
theorem Reps.append'{h:ir}{μ X:List bQ} : ∀ {vs ws:List V} {us xs:List am},Reps B h μ X vs us->Reps B h μ X ws xs->Reps B h μ X (vs++ws) (us++xs)
 | [],_,_,_,r,r'=>by obtain rfl:=b8 r;exact r'
 | v::vs,_,_,_,r,r'=>by
  replace r:=ba r;obtain⟨u0,r0,rfl,r1,r2⟩:=r;show Exists _;exact⟨u0,_,rfl,r1,Reps.append' r2 r'⟩
theorem IS{P:acd->V->V->V->Prop}(h1:∀ i j,P .Add (.int i) (.int j) (.int (i+j)))(h2:∀ i j,P .Sub (.int i) (.int j) (.int (i-j)))
  (h3:∀ i j,-(2 ^ 64)<i/\i<2 ^ 64->P .Mult (.int i) (.int j) (.int (i*j))) (h4:∀ i j,0<j/\j<2 ^ 64->P .Mod (.int i) (.int j) (.int (i.fmod j)))
  (h5:∀ i j,i=10/\j=18->P .Pow (.int i) (.int j) (.int (10 ^ 18))) (h6:∀ i j,0<j/\j<2 ^ 29->P .FloorDiv (.int i) (.int j) (.int (i.fdiv j)))
  (h7:∀ l m,l.length+m.length<=ai->P .Add (.str l) (.str m) (.str (l++m))) (h8:∀ l m,l.length+m.length<=ai->P .Add (.lst l) (.lst m) (.lst (l++m))) {op:acd} {a b v:V} (h:b9 op a b=some v):P op a b v:=by
 induction a using V.casesOn with
 | int i =>
  obtain⟨j,e,h⟩:=Option.bind_eq_some_iff.mp h;rw[uG e];induction op using abZ with
  | Add=>exact si h▸h1 i j
  | Sub=>exact si h▸h2 i j
  | Mult=>exact(ifs h).2▸h3 i j (ifs h).1
  | Mod=>exact(ifs h).2▸h4 i j (ifs h).1
  | Pow=>exact(ifs h).2▸h5 i j (ifs h).1
  | FloorDiv=>exact(ifs h).2▸h6 i j (ifs h).1
  | _=>exact nn h
 | str l =>
  induction op using abZ with
  | Add =>
   obtain⟨m,e,h⟩:=Option.bind_eq_some_iff.mp h;rw[uH e];exact(ifs h).2▸h7 l m (ifs h).1
  | _=>exact nn h
 | lst l =>
  induction op using abZ with
  | Add =>
   obtain⟨m,e,h⟩:=Option.bind_eq_some_iff.mp h;rw[CX e];exact(ifs h).2▸h8 l m (ifs h).1
  | _=>exact nn h
 | _=>exact nn h
theorem Dp{A:bY}{m:List V}{x:am}(I:Inv B envs P μ O s)(Ra:Rep B s.heap μ (μ++P) (.lst l) u)(Rb:Rep B s.heap μ (μ++P) (.lst m) x)(hc:l.length+m.length<=ai)
  (q:∀ y s',Inv B envs P μ O s'->Go μ [] s.heap s'.heap->Rep B s'.heap μ (μ++P) (.lst (l++m)) y->Q y s'):wpAny (cr B.prog B.w) A (abz .Add u x) Q E s:=by
 refine ab fun _ gG=>?_;obtain⟨a1,xs,rfl,n1,h1,r1⟩:=Ra;refine gG ?_;clear gG
 refine ab fun _ gG=>?_;obtain⟨a2,ys,rfl,n2,h2,r2⟩:=Rb;refine gG ?_;clear gG
 generalize(r1.length)=l1;generalize(r2.length)=l2;refine add_lists h1 h2 (by simp at l1 l2;rw[l1,l2];exact eU hc) ?_;have kp:∀ b o,s.heap.get? b=some o->(s.heap.push { cls:=.type "list",data:=.seq (xs++ys) }).get? b=some o:=fun b o e=>ag _ e
 refine q _ { s with heap:=_ } (I.grow (tk:=s.toks) kp) (Go.of_keeps kp) ?_;refine zL (gr I) (⟨_,ct _ rfl,rfl,_,rfl⟩) ?_;rw[Array.toList_append];exact(Reps.append' (r1.go0 (Go.of_keeps kp)) (r2.go0 (Go.of_keeps kp)))
theorem Ls:∀ op,HS B (abz op) (b9 op):=by
 intro op A envs P μ O s a b v u x Q E hh hu I Ra Rb hv q;have tok:∀ {v:V} {y:am} {tk:Nat},(∀ y s',Inv B envs P μ O s'->Go μ [] s.heap s'.heap->Rep B s'.heap μ (μ++P) v y->Q y s')->Rep B s.heap μ (μ++P) v y->Q y { s with toks:=tk }:=fun{v y tk} q r=>q y { s with toks:=tk } (I.grow (tk:=tk) (h':=s.heap) fun _ _ e=>e) (Go.refl _ _ _) r
 have onI:∀ {op:acd} {i j k:Int},(∀ {t t'} {Q E:am->aO->Prop},(∀ Ta tk,Q (.int k Ta) { s with toks:=tk })->wpAny (cr B.prog B.w) A (abz op (.int i t) (.int j t')) Q E s)->Rep B s.heap μ (μ++P) (.int i) u->Rep B s.heap μ (μ++P) (.int j) x ->
   (∀ y s',Inv B envs P μ O s'->Go μ [] s.heap s'.heap->Rep B s'.heap μ (μ++P) (.int k) y->Q y s')->wpAny (cr B.prog B.w) A (abz op u x) Q E s:=fun f Ra Rb q=>by
  obtain⟨t,rfl⟩:=dS Ra;obtain⟨t',rfl⟩:=dS Rb;exact f fun Ta tk=>tok q (by show Exists _;exact⟨_,rfl⟩)
 refine IS (P:=fun op a b v=>Rep B s.heap μ (μ++P) a u->Rep B s.heap μ (μ++P) b x->(∀ y s',Inv B envs P μ O s'->Go μ [] s.heap s'.heap->Rep B s'.heap μ (μ++P) v y->Q y s')->wpAny (cr B.prog B.w) A (abz op u x) Q E s)
  (fun i j=>onI fun h=>af7 (h _ _)) (fun i j=>onI fun h=>afR (h _ _)) (fun i j hc=>onI fun h=>afW (h _ _) (IntMulOk.of_left (intBits_le_64 hc.1 hc.2)))
  (fun i j hc=>onI fun h=>afX (afD hc.1) (h _ _)) (fun i j hc=>onI fun h=>by obtain⟨rfl,rfl⟩:=hc;exact afT (by decide) (by decide) (by decide) (h _ _)) (fun i j hc=>onI fun h=>af4 (afD hc.1) (h _ _) (.inl (PyProof.noPylong_small (sg hc))))
  (fun l m hc Ra Rb q=>?_) (fun l m hc Ra Rb q=>Dp I Ra Rb hc q) hv Ra Rb q
 obtain⟨t,rfl⟩:=c8 Ra;obtain⟨t',rfl⟩:=c8 Rb;exact af6 (fun t' tk=>tok q (by rw[mY];exact zS)) (by rw[c7,c7];exact eU hc)
theorem Lu:∀ {A:bY} {s:aO} {i:Int} {t:BY} {Q:am->aO->Prop} {E:am->aO->Prop},(∀ tk t',Q (.int (-i) t') { s with toks:=tk })->wpAny (cr B.prog B.w) A (unaryOp .USub (.int i t)) Q E s :=
 fun h=>afV (h _ _)
noncomputable def cN(n:Nat)(lo:Option Int):Nat:=match lo with|some i=>cf n i|none=>0
noncomputable def fQ(n:Nat)(hi:Option Int):Nat:=match hi with|some i=>cf n i|none=>n
theorem iz(n:Nat)(i:Int):((cf n i:Nat):Int)=max 0 (min (if i<0 then i+n else i) n):=by
 exact Zh (Int.le_max_left _ _)
theorem xm(n:Nat)(i:Int):cf n i<=n:=Int.toNat_le.mpr (Int.max_le.mpr ⟨cu n,Int.min_le_right _ _⟩)
theorem xn(n:Nat)(lo:Option Int):cN n lo<=n:=by cases lo with|none=>exact YC _|some i=>exact xm n i
theorem xo(n:Nat)(hi:Option Int):fQ n hi<=n:=by cases hi with|none=>exact kG _|some i=>exact xm n i
theorem iH(l:List α)(lo hi:Option Int):cut l lo hi=(l.drop (cN l.length lo)).take (fQ l.length hi-cN l.length lo):=by
 unfold cut cN fQ;induction lo using aL<;>induction hi using aL<;>rfl
theorem uS(a b:Nat):aeW (a:Int) (b:Int) 1=(YE (b-a)).map (a + ·):=by
 unfold aeW;simp only[show(1:Int)>0 by decide,if_true,afE];have e:(if(a:Int)<b then(b:Int)-a+1-1 else 0).toNat=b-a:=by split<;>first|exact PK ‹_›|exact tS b a
 rw[e];congr 1
 funext k
 exact tM a k
theorem Dq(l:List α)(a n:Nat):((YE n).map (a + ·)).filterMap (l[·]?)=(l.drop a).take n:=by
 induction n generalizing a with
 | zero=>simp
 | succ n ih =>
  rw[List.range_succ_eq_map,kR,aax,Y7];have e:((fun x=>a+x)∘ac2)=(fun x=>(a+1)+x):=by funext x;simp;exact r6
  rw[e,ih (a+1)];show(match l[a+0]? with|none=>_|some b=>b::_)=_;rw[Nat.add_zero];by_cases h:a<l.length
  ·rw[fL h,aaP h,adL]
  ·rw[Zv (by exact r2 ‹_›),adm (by exact Qa ‹_›),adm (by exact r2 ‹_›)];simp
theorem y0(lo hi:Option Int)(n:Nat):Zy lo hi 1 n=(YE (fQ n hi-cN n lo)).map (cN n lo + ·):=by
 rw[<- uS];unfold Zy;simp only[show(1:Int)>0 by decide,if_true];congr 1
 ·induction lo using aL with
  | none=>rfl
  | some i=>simp only[cN,iz]
 ·induction hi using aL with
  | none=>rfl
  | some i=>simp only[fQ,iz]
theorem Dr(xs:Array am)(lo hi:Option Int):(afu xs lo hi none).toList=cut xs.toList lo hi:=by
 unfold afu;have e:aeW (ac8 lo hi none xs.size).1 (ac8 lo hi none xs.size).2.1 (ac8 lo hi none xs.size).2.2=(YE (fQ xs.size hi-cN xs.size lo)).map (cN xs.size lo + ·):=by
  rw[<- uS];unfold ac8;simp only[Option.getD_none,show(1:Int)>0 by decide,if_true];congr 1
  ·induction lo using aL with
   | none=>rfl
   | some i=>simp only[cN,iz]
  ·induction hi using aL with
   | none=>rfl
   | some i=>simp only[fQ,iz]
 rw[e,iH,pick_run,Yk]
theorem A8(lo hi:Option Int)(n:Nat):aal lo hi 1 (n:Int)=(((cN n lo:Nat):Int),((fQ n hi:Nat):Int)):=by
 unfold aal;have h1:¬((1:Int)<0):=by decide
 simp only[h1,if_false];congr 1
 ·induction lo using aL with
  | none=>rfl
  | some i =>
   simp only[cN,iz];split<;>first|exact mA ‹_›|exact mB ‹_›
 ·induction hi using aL with
  | none=>rfl
  | some i =>
   simp only[fQ,iz];split<;>first|exact mA ‹_›|exact mB ‹_›
theorem A9(a b:Nat):Zq (a:Int) (b:Int) 1=b-a:=by
 unfold Zq;have h1:(1:Int)>0:=by decide
 simp only[h1,if_true,afE];split<;>first|exact PK ‹_›|exact tT b a
section
variable{A:bY}
theorem xp{v:am}{k:Option Int}{Q:Option Int->aO->Prop}(hv:adx v k)(h:Q k s):wpAny (cr prog w) A (afI v) Q E s:=by
 cases hv with
 | none=>exact abW h
 | int i t=>exact afS h
theorem y1{sl:bQ}{x:am}{lo hi:Option Int}{Q:Int×Int×Nat->aO->Prop}(hs:s.heap.get? sl=some { cls:=.type "slice",data:=.fields #[x,y,.none] })(px:adx x lo)(py:adx y hi)
  (h:Q ((cN n lo:Nat),1,fQ n hi-cN n lo) s):wpAny (cr prog w) A (abY (.ref sl) (pure (n:Int))) Q E s:=by
 unfold abY afJ;refine aa (aa (Yy hs rfl (x:=x) rfl (aa (Yy hs rfl (x:=y) rfl (aa (Yy hs rfl (x:=.none) rfl (ae ?_)))))));refine aa (abW ?_);show wpAny _ _ (if((1:Int)==0)=true then _ else _) _ _ s;rw[if_neg (by decide)];refine aa (xp px (aa (xp py (aa (ae ?_)))));show wpAny _ _ (match aal lo hi 1 (n:Int)with|(lo,hi)=>pure (lo,(1:Int),Zq lo hi 1)) _ _ s;rw[A8];show wpAny _ _ (pure (((cN n lo:Nat):Int),(1:Int),Zq ((cN n lo:Nat):Int) ((fQ n hi:Nat):Int) 1)) _ _ s;rw[A9];exact ae h
theorem Gf(xs:Array am)(a n:Nat):((YE n).filterMap fun(k:Nat)=>xs[((a:Int)+(k:Int)*1).toNat]?).toArray=((xs.toList.drop a).take n).toArray:=by
 have e:(fun(k:Nat)=>xs[((a:Int)+(k:Int)*1).toNat]?)=fun k=>xs[a+k]?:=by
  funext k
  have:((a:Int)+(k:Int)*1).toNat=a+k:=by exact(ab2 _ _ _).symm
  rw[this]
 rw[e];have:=pick_run xs a n;rw[List.filterMap_map]at this;have e2:((fun x=>xs[x]?)∘fun x=>a+x)=fun k=>xs[a+k]?:=rfl
 rw[e2]at this;rw[this]
theorem Ds{t sl:bQ}{x:am}{lo hi:Option Int}(ht:s.heap.IsTuple t items)(hs:s.heap.get? sl=some { cls:=.type "slice",data:=.fields #[x,y,.none] })(px:adx x lo)(py:adx y hi)(hsz:items.size<=lH)
  (h0:cut items.toList lo hi=items.toList->Q (.ref t) s) (h:Q (.ref s.heap.objs.size) { s with heap:=s.heap.push { cls:=.type "tuple",data:=.seq (cut items.toList lo hi).toArray } }) :
  wpAny (cr prog w) A (aa8 (.ref t) (.ref sl)) Q E s:=by
 have q8:sizeOk (.seq (cut items.toList lo hi).toArray):=by
  show(cut items.toList lo hi).toArray.size<=lH;rw[aaT,iH,ZE,aaf,Yk];exact bL (bL (Zj _ _) (aak _ _)) hsz
 have Vg:s.TypeIs (.ref sl) "slice":=⟨_,hs,rfl⟩
 unfold aa8;try with_reducible refine eG ?_
 first|refine aa (ae ?_)|skip
 refine aa (ae8 ht.typeIs (by decide) ?_);refine aa (Yp (name:=ac "__getitem__") ht.typeIs aeV
  (Ys aeV ht.typeIs entry_tuple_getitem ?_ (args_tuple_getitem _ _)))
 show wpAny _ _ (afG (.ref t)>>=_) _ _ s;refine aa (afQ ht ?_);refine aa (aaQ Vg ?_);rw[if_pos (by decide)];refine aa (y1 hs px py ?_);show wpAny _ _ (if(((cN items.size lo:Nat):Int)==0&&(1:Int)==1&&(fQ items.size hi-cN items.size lo)==items.size)=true then _ else _) _ _ s;have Nk:cut items.toList lo hi=(items.toList.drop (cN items.size lo)).take (fQ items.size hi-cN items.size lo):=by rw[iH,Yk]
 by_cases hw:(((cN items.size lo:Nat):Int)==0&&(1:Int)==1&&(fQ items.size hi-cN items.size lo)==items.size)=true
 ·rw[if_pos hw];have uK:cut items.toList lo hi=items.toList:=by
   simp only[gT,beq_iff_eq]at hw;rw[Nk,show cN items.size lo=0 from acA hw.1.1,acV,Zm (by rw[Yk];exact bL (Yh hw.2.symm) (aak (fQ items.size hi) _))]
  refine ab fun _ gG=>?_;obtain⟨o,ho,hc,n,hd⟩:=ht;refine gG ?_;clear gG
  refine aa (m:=abX (.ref t)) ?_;unfold abX;refine aa (aaQ ⟨o,ho,hc⟩ (ae ?_));rw[if_pos (by decide)];refine aa (aar ?_);first
   | exact aa (ae ⟨_,rfl,ae (h0 uK)⟩)
   | exact aa (ae (ae ⟨_,rfl,ae (h0 uK)⟩))
   | exact ae ⟨_,rfl,ae (h0 uK)⟩
 ·rw[if_neg hw,Gf,<- Nk];first
   | exact aa (m:=Zz _) (Yg (ae ⟨_,rfl,ae h⟩) q8)
   | exact aa (m:=Zz _) (Yg (aa (ae (ae ⟨_,rfl,ae h⟩))) q8)
   | exact aa (aa (m:=Zz _) (Yg (ae (ae ⟨_,rfl,ae h⟩)) q8))
   | exact aa (aa (m:=Zz _) (Yg (ae ⟨_,rfl,ae h⟩) q8))
end
theorem part_of{h:ir}{b:V}{x:am}{i:Option Int}(r:Rep B h μ X b x)(e:aI b=some i):adx x i:=by
 induction b using V.casesOn with
 | none=>obtain rfl:=iS r;obtain rfl:=si e;exact .none
 | int k =>
  obtain⟨t,rfl⟩:=dS r;delta aI at e;dsimp only at e
  by_cases hc:-(2 ^ 62)<k/\k<2 ^ 62
  ·rw[if_pos hc]at e;obtain rfl:=si e;exact .int k t
  ·rw[if_neg hc]at e;exact nn e
 | _=>exact nn e
theorem xq{x:am}{i:Option Int}(p:adx x i):∃ l:Option (Int×BY),x=partValue l/\l.map (·.1)=i:=by
 cases p with
 | none=>exact⟨none,rfl,rfl⟩
 | int k t=>exact⟨some (k,t),rfl,rfl⟩
theorem IT{l:List α}{lo hi:Option Int} : (cut l lo hi).length<=l.length:=by
 rw[iH,ZE,aaf];exact bL (Zj _ _) (aak _ _)
theorem Reps.drop'{h:ir}{μ X:List bQ} : ∀ (n:Nat) {vs:List V} {us:List am},Reps B h μ X vs us->Reps B h μ X (vs.drop n) (us.drop n)
 | 0,_,_,r=>r
 | n+1,[],us,r=>by obtain rfl:=b8 r;exact z0
 | n+1,v::vs,us,r=>by
  replace r:=ba r;obtain⟨u,q,rfl,_,r2⟩:=r;exact Reps.drop' n r2
theorem Reps.take'{h:ir}{μ X:List bQ} : ∀ (n:Nat) {vs:List V} {us:List am},Reps B h μ X vs us->Reps B h μ X (vs.take n) (us.take n)
 | 0,_,_,_=>z0
 | n+1,[],us,r=>by obtain rfl:=b8 r;exact z0
 | n+1,v::vs,us,r=>by
  replace r:=ba r;obtain⟨u,q,rfl,r1,r2⟩:=r;show Exists _;exact⟨u,_,rfl,r1,Reps.take' n r2⟩
theorem Reps.cut{h:ir}(lo hi:Option Int)(r:Reps B h μ X vs us):Reps B h μ X (Mine.cut vs lo hi) (Mine.cut us lo hi):=by
 rw[iH,iH,r.length];exact Reps.take' _ (Reps.drop' _ r)
theorem Gg:pW B:=by
 intro A envs P μ O s a b c v i j u x y sl Q E hh hd hu I Ra Rb Rc hb hc hs hv q;have px:=part_of Rb hb;have py:=part_of Rc hc;have size_of:∀ {l:List V} {xs:Array am},Reps B s.heap μ (μ++P) l xs.toList->l.length<=ai->xs.size<=lH:=fun r h=>by
  have:=r.length;simp at this;rw[this];exact eU h
 induction a using V.casesOn with
 | str l =>
  delta bg at hv;dsimp only at hv
  by_cases bk:l.length<=ai
  ·rw[if_pos bk]at hv;obtain rfl:=si hv;obtain⟨t,rfl⟩:=c8 Ra;obtain⟨lx,rfl,Vh⟩:=xq px;obtain⟨ly,rfl,Vi⟩:=xq py;refine⟨"str",_,aaY _ _ _,PySem.F.slot_str_getitem.lookup,PySem.wpAny_getItem_str_slice (l:=lx) (u:=ly) (st:=none) ⟨_,hs,rfl,rfl⟩ rfl ?_⟩;have tok:∀ t' tk,Q (.str (aB (cut l i j)) t') { s with toks:=tk }:=fun t' tk=>q _ { s with toks:=tk } (I.grow (tk:=tk) (h':=s.heap) fun _ _ e=>e) (Go.refl _ _ _) zS
   have IU:ac7 (aB l) lx ly none=(YE (fQ l.length j-cN l.length i)).map (cN l.length i + ·):=by
    unfold ac7;rw[Vh,Vi];show Zy i j 1 _=_;rw[y0,c7]
   have Oi:((ac7 (aB l) lx ly none).filterMap ((aB l).cps[·]?))=cut l i j:=by
    rw[IU,iH];have:∀ i:Nat,(aB l).cps[i]?=l[i]?:=fun i=>by simp
    simp only[this];exact Dq l _ _
   unfold sliceMade;by_cases hw:(((none:Option (Int×BY)).map (·.1)).getD 1==1&&(ac7 (aB l) lx ly none).length==(aB l).length)=true
   ·rw[if_pos hw];have uK:cut l i j=l:=by
     generalize((bM hw).2)=h2;rw[IU,bR,List.length_range,c7]at h2;generalize(beq_iff_eq.mp h2)=h2;have e1:=xo l.length j;have e2:=xn l.length i;rw[iH,show cN l.length i=0 by exact Rn ‹_› ‹_› ‹_›,acV,Zm (by exact QO ‹_›)]
    have:=tok t s.toks;rw[uK]at this;exact this
   ·rw[if_neg hw,Oi];refine⟨?_,tok _ _⟩;show(aB (cut l i j)).length<=lH;rw[c7];exact eU (bL IT bk)
  ·rw[if_neg bk]at hv;exact nn hv
 | lst l =>
  delta bg at hv;dsimp only at hv
  by_cases bk:l.length<=ai
  ·rw[if_pos bk]at hv;obtain rfl:=si hv;obtain⟨a,xs,rfl,na,hl,hr⟩:=ez Ra;refine⟨"list",_,hl.typeIs,list_getitem_lookup,PySem.wpAny_getItem_list_slice hl ⟨_,hs,rfl,rfl⟩ px py .none (by simp) ?_ (size_of hr bk)⟩;have kp:∀ b o,s.heap.get? b=some o->(s.heap.push { cls:=.type "list",data:=.seq (afu xs i j none) }).get? b=some o:=fun b o e=>ag _ e
   refine q _ { s with heap:=_ } (I.grow (tk:=s.toks) kp) (Go.of_keeps kp) ?_;refine zL (gr I) (⟨_,ct _ rfl,rfl,_,rfl⟩) ?_;rw[Dr];exact(hr.cut i j).go0 (Go.of_keeps kp)
  ·rw[if_neg bk]at hv;exact nn hv
 | tup l =>
  delta bg at hv;dsimp only at hv
  by_cases bk:l.length<=ai
  ·rw[if_pos bk]at hv;obtain rfl:=si hv;generalize(Ra)=Oj;obtain⟨a,xs,rfl,na,hl,hr⟩:=eA Ra;refine⟨"tuple",_,hl.typeIs,slot_tuple_getitem.lookup,Ds hl hs px py (size_of hr bk) (fun he=>?_) ?_⟩
   ·refine q _ s I (Go.refl _ _ _) ?_;have A4:cut l i j=l:=by
     generalize(((hr.cut i j).length).symm:(cut l i j).length=(cut xs.toList i j).length)=h1;rw[he,hr.length,iH,ZE,aaf]at h1;generalize(xo l.length j)=e1;generalize(xn l.length i)=e2;rw[iH,s1 h1 e2,acV,Zm (s2 h1)]
    rw[A4];exact Oj
   ·have kp:∀ b o,s.heap.get? b=some o->(s.heap.push { cls:=.type "tuple",data:=.seq (cut xs.toList i j).toArray }).get? b=some o:=fun b o e=>ag _ e
    refine q _ { s with heap:=_ } (I.grow (tk:=s.toks) kp) (Go.of_keeps kp) ?_;exact CA (gr I) (⟨_,_,ct _ rfl,rfl,rfl,rfl⟩) ((hr.cut i j).go0 (Go.of_keeps kp))
  ·rw[if_neg bk]at hv;exact nn hv
 | _=>cases hv
theorem k9{h:ir}{μ X:List bQ} : ∀ {l:List V} {q:List Atom} {us:List am},Reps B h μ X l us->dC l=some q->ItemsAre (gE B.prog B.w) q us
 | [],q,us,r,e=>by
  obtain rfl:=b8 r;obtain rfl:=si e;exact .nil
 | v::vs,q,us,r,e=>by
  replace r:=ba r;obtain⟨u,r0,rfl,r1,r2⟩:=r;have e:((pK v).bind fun a=>(dC vs).map fun r=>a::r)=some q:=e;induction ha:pK v using aL with
  | none=>rw[ha]at e;exact nn e
  | some a =>
   induction hp:dC vs using aL with
   | none=>rw[ha,hp]at e;exact nn e
   | some p =>
    rw[ha,hp]at e;obtain rfl:=si e;refine .cons ?_ (k9 r2 hp);induction v using V.casesOn with
    | int i=>obtain rfl:=si ha;obtain⟨t,rfl⟩:=dS r1;simp[gE,Atom.isOf,adt]
    | str s=>obtain rfl:=si ha;obtain⟨t,rfl⟩:=c8 r1;simp[gE,Atom.isOf,abQ]
    | _=>exact nn ha
noncomputable def IV(B:bw):Prop:=∃ f,B.H.MapOf (strKind B.prog B.w) B.cB f/\∀ l b,bounds.lookup l=some b->∃ a t1 t2,f (aB l)=some (.ref a)/\PlainT B.H a #[.int b.1 t1,.int b.2 t2]
theorem y2{h:ir}{f:fw->Option am}(x:h.MapOf (strKind prog w) a f)(k:∀ b o,h.get? b=some o->h'.get? b=some o):h'.MapOf (strKind prog w) a f :=
 let⟨o,es,ep,ho,r⟩:=x;⟨o,es,ep,k _ _ ho,r⟩
theorem tP{h:ir}{μ X:List bQ}{k:List Atom}{v:V} : ∀ {xs:List (List Atom×bQ×am)} {ks:List (List Atom)} {vs:List V} {us:List am},xs.map (·.1)=ks->xs.map (·.2.2)=us->Reps B h μ X vs us->(ks.zip vs).lookup k=some v->∃ p,aaO xs k=some p/\Rep B h μ X v p.2
 | [],_,_,_,e1,_,_,hl=>by subst e1;simp at hl
 | x::xs,_,vs,_,e1,e2,r,hl=>by
  subst e1 e2;induction vs using cz with
  | nil=>simp at hl
  | cons w vs =>
   replace r:=ba r;obtain⟨u,q,e,r1,r2⟩:=r;cases e
   simp only[kR,YK,dR]at hl;unfold aaO;by_cases hk:x.1=k
   ·rw[show(k==x.1)=true from by simp[hk]]at hl;obtain rfl:=si hl;refine⟨x.2,by simp[acG,hk],r1⟩
   ·rw[show(k==x.1)=false from by simp;exact fun e=>hk e.symm]at hl;obtain⟨p,hp,hr⟩:=tP rfl rfl r2 hl;exact⟨p,by simp only[acG,hk,decide_false];exact hp,hr⟩
theorem lW{h:ir}{μ X:List bQ}{k:List Atom} : ∀ {xs:List (List Atom×bQ×am)} {ks:List (List Atom)} {vs:List V} {us:List am},xs.map (·.1)=ks->xs.map (·.2.2)=us->Reps B h μ X vs us->(ks.zip vs).lookup k=none->aaO xs k=none
 | [],_,_,_,_,_,_,_=>rfl
 | x::xs,_,vs,_,e1,e2,r,hl=>by
  subst e1 e2;induction vs using cz with
  | nil=>replace r:=b8 r;cases r
  | cons w vs =>
   replace r:=ba r;obtain⟨u,q,e,r1,r2⟩:=r;cases e
   simp only[kR,YK,dR]at hl;by_cases hk:x.1=k
   ·rw[show(k==x.1)=true from by simp[hk]]at hl;exact oQ hl
   ·rw[show(k==x.1)=false from by simp;exact fun e=>hk e.symm]at hl;have:=lW rfl rfl r2 hl;unfold aaO at this ⊢;simp only[acG,hk,decide_false];exact this
theorem Reps.get2{h:ir}{μ X:List bQ} : ∀ {vs:List V} {us:List am} {i:Nat} {v:V},Reps B h μ X vs us->vs[i]?=some v->∃ u,us[i]?=some u/\Rep B h μ X v u
 | [],_,i,u,r,e=>by simp at e
 | v::vs,_,i,u,r,e=>by
  replace r:=ba r;obtain⟨u0,r0,rfl,r1,r2⟩:=r;induction i using ZU with
  | zero=>simp at e;subst e;exact⟨u0,rfl,r1⟩
  | succ i=>simp at e;obtain⟨v',e',r'⟩:=Reps.get2 r2 e;exact⟨v',by simpa using e',r'⟩
theorem iA{k:Int}(h:ZO k n=some j):-(n:Int)<=k/\k<n/\j=(if k<0 then(k+n).toNat else k.toNat):=by
 unfold ZO at h;by_cases hk:k<0
 ·simp only[hk,if_true]at h ⊢;split at h
  ·rename_i hc;simp only[gT,decide_eq_true_eq]at hc;obtain rfl:=si h;exact⟨by exact Sr ‹_›,by exact Sp ‹_›,rfl⟩
  ·exact nn h
 ·simp only[hk,if_false]at h ⊢;split at h
  ·rename_i hc;simp only[gT,decide_eq_true_eq]at hc;obtain rfl:=si h;exact⟨by exact RV ‹_›,by exact R9 ‹_›,rfl⟩
  ·exact nn h
theorem xr{l:List α}{k:Int}{v:α}(h:mx l k=some v):-(2 ^ 62)<k/\k<2 ^ 62/\∃ j,ZO k l.length=some j/\l[j]?=some v:=by
 unfold mx at h;by_cases hc:-(2 ^ 62)<k/\k<2 ^ 62
 ·rw[if_pos hc]at h;induction hj:ZO k l.length using aL with
  | none=>rw[hj]at h;exact nn h
  | some j=>rw[hj]at h;exact⟨hc.1,hc.2,j,rfl,h⟩
 ·rw[if_neg hc]at h;exact nn h
theorem uT{A:bY}{k:Int}{t:BY}{x:am}(hl:s.heap.IsList a xs)(h1:-(2 ^ 62)<k)(h2:k<2 ^ 62)(hj:ZO k xs.size=some j)(hx:xs[j]?=some x)(h:Q x s) :
  wpAny (cr B.prog B.w) A (aa8 (.ref a) (.int k t)) Q E s:=by
 refine ab fun _ gG=>?_;generalize((iA hj)).1=b1;generalize(((iA hj)).2).1=b2;generalize(((iA hj)).2).2=b3;refine gG ?_;clear gG
 by_cases hk:k<0
 ·rw[if_pos hk]at b3;exact wpAny_getItem_list_neg hl hk b1 (by exact M2 ‹_›) (b3▸hx) h
 ·rw[if_neg hk]at b3;exact PySem.wpAny_getItem_list hl (by exact RN ‹_›) (by exact M0 ‹_›) (b3▸hx) h
theorem q9{h:ir}{l:List Nat}(e:j9 v=some l)(r:Rep B h μ X v u):∃ t,u= .str (aB l) t:=by
 induction v using V.casesOn with
 | str j=>cases si e;exact c8 r
 | _=>exact nn e
theorem Gh{k:List Atom}(h:fg v=some k):∃ l,v= .tup l/\dC l=some k:=by
 induction v using V.casesOn with
 | tup l=>exact⟨l,rfl,h⟩
 | _=>exact nn h
theorem Gi{P:V->V->Prop}{b:V}(h1:∀ l k c,dO b=some k->mx l k=some c->P (.str l) (.str [c]))(h2:∀ l k c,dO b=some k->mx l k=some c->P (.tup l) c)(h3:∀ l k c,dO b=some k->mx l k=some c->P (.lst l) c)
  (h4:∀ l x,j9 b=some l->bounds.lookup l=some x->P .bnd (.tup [.int x.1,.int x.2])) (h5:∀ n l k c,O[n]?=some (.list l)->dO b=some k->mx l k=some c->P (.ref n) c) (h6:∀ n ks vs l k c,O[n]?=some (.dict ks vs)->b= .tup l->dC l=some k->(ks.zip vs).lookup k=some c->P (.ref n) c)
  {a v:V} (h:bC a b O=some v):P a v:=by
 induction a using V.casesOn with
 | str l=>obtain⟨k,e,h⟩:=ib h;obtain⟨c,e2,h⟩:=mD h;exact h▸h1 l k c e e2
 | tup l=>obtain⟨k,e,h⟩:=ib h;exact h2 l k v e h
 | lst l=>obtain⟨k,e,h⟩:=ib h;exact h3 l k v e h
 | bnd=>obtain⟨k,e,h⟩:=ib h;obtain⟨c,e2,h⟩:=mD h;exact h▸h4 k c e e2
 | ref n =>
  unfold bC at h;dsimp only at h;induction bF:O[n]? using aL with
  | none=>rw[bF]at h;exact nn h
  | some cc =>
   rw[bF]at h;induction cc using Cell.casesOn with
   | list l=>obtain⟨k,e,h⟩:=ib h;exact h5 n l k v bF e h
   | dict ks vs =>
    obtain⟨k,e,h⟩:=ib h;obtain⟨l,e1,e2⟩:=Gh e;exact h6 n ks vs l k v bF e1 e2 h
 | _=>exact nn h
theorem uU{h:ir}{k:Int}{c:V}(hr:Reps B h μ X l xs.toList)(e:mx l k=some c):-(2 ^ 62)<k/\k<2 ^ 62/\∃ j y,ZO k xs.size=some j/\xs[j]?=some y/\Rep B h μ X c y:=by
 refine ab fun _ gG=>?_;obtain⟨h1,h2,j,hj,hc⟩:=xr e;refine gG ?_;clear gG
 have hn:xs.size=l.length:=by have:=hr.length;simpa using this
 refine ab fun _ gG=>?_;obtain⟨y,hy,ry⟩:=hr.get2 hc;refine gG ?_;clear gG
 exact⟨h1,h2,j,y,by rw[hn];exact hj,by simpa using hy,ry⟩
theorem IW(hB:IV B):tK B:=by
 intro A envs P μ O s a b v u x Q E hh hd hu I Ra Rb hv q;have tok:∀ {v:V} {y:am} {tk:Nat},(∀ x s',Inv B envs P μ O s'->Go μ [] s.heap s'.heap->Rep B s'.heap μ (μ++P) v x->Q x s')->Rep B s.heap μ (μ++P) v y->Q y { s with toks:=tk }:=fun{v y tk} q r=>q y { s with toks:=tk } (I.grow (tk:=tk) (h':=s.heap) fun _ _ e=>e) (Go.refl _ _ _) r
 refine Gi (P:=fun a v=>Rep B s.heap μ (μ++P) a u->(∀ x s',Inv B envs P μ O s'->Go μ [] s.heap s'.heap->Rep B s'.heap μ (μ++P) v x->Q x s')->∃ T id,s.TypeIs u T/\acx (.type T) "__getitem__"=pure (some (.builtin id))/\wpAny (cr B.prog B.w) A (aa8 u x) Q E s)
  (fun l k c e hi Ra q=>?_) (fun l k c e hi Ra q=>?_) (fun l k c e hi Ra q=>?_) (fun l y e hb Ra q=>?_) (fun n l k c bF e hi Ra q=>?_) (fun n ks vs l kk c bF e hp hl Ra q=>?_) hv Ra q
 ·obtain⟨h1,h2,j,hj,hc⟩:=xr hi;obtain⟨t,rfl⟩:=c8 Ra;obtain⟨t',rfl⟩:=d4 e Rb;refine⟨"str",_,aaY _ _ _,PySem.F.slot_str_getitem.lookup,af3 (c:=c) (by simp only[adC,decide_eq_false_iff_not];exact Su ‹_› ‹_›) (by rw[c7,hj];simpa using hc) (tok q zS)⟩
 ·obtain⟨a,xs,rfl,na,hl,hr⟩:=eA Ra;obtain⟨t',rfl⟩:=d4 e Rb;obtain⟨h1,h2,j,y,hj,hy,ry⟩:=uU hr hi;exact⟨"tuple",_,hl.typeIs,slot_tuple_getitem.lookup,af2 hl (by exact M2 ‹_›) (by exact M0 ‹_›) hj hy (q _ s I (Go.refl _ _ _) ry)⟩
 ·obtain⟨a,xs,rfl,na,hl,hr⟩:=ez Ra;obtain⟨t',rfl⟩:=d4 e Rb;obtain⟨h1,h2,j,y,hj,hy,ry⟩:=uU hr hi;exact⟨"list",_,hl.typeIs,slot_list_getitem.lookup,uT hl h1 h2 hj hy (q _ s I (Go.refl _ _ _) ry)⟩
 ·obtain⟨f,hf,hbd⟩:=hB;obtain⟨a,t1,t2,Vj,ht⟩:=hbd l y hb;obtain⟨t',rfl⟩:=q9 e Rb;replace Ra:=EO Ra;subst Ra;generalize(y2 hf I.stays)=hm;refine⟨"dict",_,hm.typeIs,slot_dict_getitem.lookup,wpAny_getItem_of (k:=aB l) (strKind_is _ _ _ _) hm Vj (tok q ?_)⟩;refine xb I ?_;refine CA (nofun) ht ?_;show Reps B B.H [] [] [V.int y.1,V.int y.2] [Value.int y.1 t1,Value.int y.2 t2];show Exists _;exact⟨_,_,rfl,⟨t1,rfl⟩,_,_,rfl,⟨t2,rfl⟩,rfl⟩
 ·obtain⟨d,rfl,hd⟩:=dU Ra;obtain⟨_,xs,hp,hr⟩:=I.cells n _ d bF hd;obtain⟨t',rfl⟩:=d4 e Rb;obtain⟨h1,h2,j,y,hj,hy,ry⟩:=uU hr hi;exact⟨"list",_,hp.isList.typeIs,slot_list_getitem.lookup,uT hp.isList h1 h2 hj hy (q _ s I (Go.refl _ _ _) ry)⟩
 ·subst e;obtain⟨d,rfl,hd⟩:=dU Ra;obtain⟨_,us,⟨xs,hm,e1,e2,e3⟩,hr⟩:=I.cells n _ d bF hd;obtain⟨pp,Gj,rp⟩:=tP e1 e3 hr hl;obtain⟨ka,ys,rfl,na,⟨o,ho,hcl,m,eK⟩,lX⟩:=eA Rb;generalize(⟨o,ys,m,ho,hcl,eK,k9 lX hp⟩:(bt B.prog B.w).is s.heap kk ka)=oH;exact⟨"dict",_,hm.typeIs,slot_dict_getitem.lookup,wpAny_getItem_heap (Zx (by show A.units+1<9900;exact r1 ‹_›)) oH hm Gj (tok q rp)⟩
noncomputable def mZ(B:bw)(u:am)(vs:List V)(r:U->Option V):Prop :=
 ∀ {A:bY} {envs:List YY} {P μ:List bQ} {O:U} {s:aO} {us:List am} {v:V} {Q:am->aO->Prop} {E:am->aO->Prop},A.handled=none->A.depth<=600->A.units<=6000->Inv B envs P μ O s->Reps B s.heap μ (μ++P) vs us ->
  r O=some v->(∀ x s',Inv B envs P μ O s'->Go μ [] s.heap s'.heap->Rep B s'.heap μ (μ++P) v x->Q x s')->wpAny (cr B.prog B.w) A (call u us []) Q E s
theorem lY(I:Inv B envs P μ O s)(q:∀ x s',Inv B envs P μ O s'->Go μ [] s.heap s'.heap->Rep B s'.heap μ (μ++P) v x->Q x s')
  {y:am} {tk:Nat} (r:Rep B s.heap μ (μ++P) v y):Q y { s with toks:=tk }:=q y { s with toks:=tk } (I.grow (tk:=tk) (h':=s.heap) fun _ _ e=>e) (Go.refl _ _ _) r
theorem Lv:mZ B (.builtin "len") [v] (mi v):=by
 intro A envs P μ O s us r Q E hh hd hu I R hv q;obtain⟨u,rfl,Ra⟩:=lS R;have tok:∀ {y:am} {tk:Nat},Rep B s.heap μ (μ++P) r y->Q y { s with toks:=tk }:=lY I q;have fin:∀ {k:Nat} {m:Nat} {tk:Nat} {t:BY},(if k<=ai then some (V.int k)else none)=some r->m=k->Q (.int m t) { s with toks:=tk }:=by
  intro k m tk t h e;by_cases hc:k<=ai
  ·rw[if_pos hc]at h;obtain rfl:=si h
   exact tok (by show Exists _;exact⟨_,by rw[e]⟩)
  ·rw[if_neg hc]at h;exact nn h
 have fits:∀ {k:Nat},(if k<=ai then some (V.int k)else none)=some r->k<=100000:=by
  intro k h;by_cases hc:k<=ai
  ·exact hc
  ·rw[if_neg hc]at h;exact nn h
 induction v using V.casesOn with
 | str l =>
  generalize(hv:(if l.length<=ai then some (V.int l.length)else none)=some r)=cq;obtain⟨t,rfl⟩:=c8 Ra;exact afZ (by rw[c7];exact Int.not_le.mpr (sx rfl (fits cq))) (fin cq (c7 _))
 | tup l =>
  generalize(hv:(if l.length<=ai then some (V.int l.length)else none)=some r)=cq;obtain⟨a,xs,rfl,na,hl,hr⟩:=eA Ra;have hn:xs.size=l.length:=by have:=hr.length;simpa using this
  exact afY hl (sx hn (fits cq)) (fin cq hn)
 | lst l =>
  generalize(hv:(if l.length<=ai then some (V.int l.length)else none)=some r)=cq;obtain⟨a,xs,rfl,na,hl,hr⟩:=ez Ra;have hn:xs.size=l.length:=by have:=hr.length;simpa using this
  exact ach hl (sx hn (fits cq)) (fin cq hn)
 | ref n =>
  replace Ra:=dU Ra;obtain⟨c,rfl,hc⟩:=Ra;simp only[mi]at hv;induction bF:O[n]? using aL with
  | none=>rw[bF]at hv;exact nn hv
  | some cl =>
   rw[bF]at hv;induction cl using Cell.casesOn with
   | dict ks vs=>exact nn hv
   | list l =>
    generalize(hv:(if l.length<=ai then some (V.int l.length)else none)=some r)=cq;obtain⟨_,xs,hp,hr⟩:=I.cells n _ c bF hc;have hn:xs.size=l.length:=by have:=hr.length;simpa using this
    exact ach hp.isList (sx hn (fits cq)) (fin cq hn)
 | _=>exact nn hv
theorem Dt{t:String} : mZ B (.builtin "isinstance") [v,.typ t] (fun _=>(fx v t).map .bool):=by
 intro A envs P μ O s us r Q E hh hd hu I R hv q;obtain⟨u,w,rfl,Ra,Rt⟩:=uD R;replace Rt:=EN Rt;subst Rt;have tok:∀ {y:am} {tk:Nat},Rep B s.heap μ (μ++P) r y->Q y { s with toks:=tk }:=lY I q;have here:∀ {y:am},Rep B s.heap μ (μ++P) r y->Q y s:=fun r=>q _ s I (Go.refl _ _ _) r
 have cq:(fx v t).map V.bool=some r:=hv;induction hi:fx v t using aL with
 | none=>rw[hi]at cq;exact nn cq
 | some b =>
  rw[hi]at cq;obtain rfl:=si cq
  have gt:∀ {tk:Nat},Q (.bool b) { s with toks:=tk }:=fun{tk}=>tok zB
  have gh:Q (.bool b) s:=here zB;induction v using V.casesOn with
  | none =>
   replace Ra:=iS Ra;subst Ra;delta fx at hi;dsimp only at hi
   split at hi
   ·rename_i h;obtain rfl:=si hi;rcases h with rfl|rfl|rfl|rfl
    ·exact IsiPair.NoneType_int gt
    ·exact IsiPair.NoneType_bool gt
    ·exact IsiPair.NoneType_str gt
    ·exact IsiPair.NoneType_tuple gt
   ·exact nn hi
  | bool c =>
   replace Ra:=pJ Ra;subst Ra;delta fx at hi;dsimp only at hi
   split at hi
   ·rename_i h;obtain rfl:=si hi;rcases h with rfl|rfl
    ·exact IsiPair.bool_int gh
    ·exact IsiPair.bool_bool gh
   ·split at hi
    ·rename_i h;obtain rfl:=si hi;rcases h with rfl|rfl
     ·exact IsiPair.bool_str gt
     ·exact IsiPair.bool_tuple gt
    ·exact nn hi
  | int k =>
   obtain⟨tk,rfl⟩:=dS Ra;delta fx at hi;dsimp only at hi
   split at hi
   ·rename_i h;obtain rfl:=si hi;subst h;exact IsiPair.int_int gh
   ·split at hi
    ·rename_i h;obtain rfl:=si hi;rcases h with rfl|rfl|rfl
     ·exact IsiPair.int_bool gt
     ·exact IsiPair.int_str gt
     ·exact IsiPair.int_tuple gt
    ·exact nn hi
  | str l =>
   obtain⟨tk,rfl⟩:=c8 Ra;delta fx at hi;dsimp only at hi
   split at hi
   ·rename_i h;obtain rfl:=si hi;subst h;exact IsiPair.str_str gh
   ·split at hi
    ·rename_i h;obtain rfl:=si hi;rcases h with rfl|rfl|rfl
     ·exact IsiPair.str_bool gt
     ·exact IsiPair.str_int gt
     ·exact IsiPair.str_tuple gt
    ·exact nn hi
  | tup l =>
   obtain⟨a,xs,rfl,na,⟨o,ho,hc,_⟩,hr⟩:=eA Ra;delta fx at hi;dsimp only at hi
   split at hi
   ·rename_i h;obtain rfl:=si hi;subst h;exact IsiPair.tuple_tuple ho hc gh
   ·split at hi
    ·rename_i h;obtain rfl:=si hi;rcases h with rfl|rfl|rfl
     ·exact IsiPair.tuple_bool ho hc gt
     ·exact IsiPair.tuple_int ho hc gt
     ·exact IsiPair.tuple_str ho hc gt
    ·exact nn hi
  | _=>exact nn hi
theorem IX:mZ B (.type "list") [.lst l] (fun _=>if l.length<=ai then some (.lst l)else none):=by
 intro A envs P μ O s us r Q E hh hd hu I R hv q;obtain⟨u,rfl,Ra⟩:=lS R;obtain⟨a,xs,rfl,na,⟨o,ho,hc,n,eK⟩,hr⟩:=ez Ra;have hn:xs.size=l.length:=by have:=hr.length;simpa using this
 by_cases bk:l.length<=ai
 ·generalize(hv:(if l.length<=ai then some (V.lst l)else none)=some r)=cq;rw[if_pos bk]at cq;obtain rfl:=si cq
  refine PySem.call_list_seq (hsz:=by rw[hn];exact bL bk (by decide)) a (.inl rfl) ho hc eK fun h' c' hk hD=>?_;refine q _ _ (I.grow (tk:=s.toks) hk) (Go.of_keeps hk) ?_;refine zL (fun m=>?_) (⟨_,hD,rfl,c',rfl⟩) (hr.go0 (Go.of_keeps hk));obtain⟨o',e⟩:=I.dom _ m;exact absurd (cR e) (Yl _)
 ·generalize(hv:(if l.length<=ai then some (V.lst l)else none)=some r)=cq;rw[if_neg bk]at cq;exact nn cq
theorem Gk:mZ B (.type "tuple") [v] (fun O=>match cv v O with
   | some l=>if l.length<=ai then some (.tup l)else none
   | none=>none):=by
 intro A envs P μ O s us r Q E hh hd hu I R hv q;obtain⟨u,rfl,Ra⟩:=lS R;have main:∀ {l:List V} {a:bQ} {xs:Array am},s.heap.IsList a xs->Reps B s.heap μ (μ++P) l xs.toList->(if l.length<=ai then some (V.tup l)else none)=some r->wpAny (cr B.prog B.w) A (call (.type "tuple") [.ref a] []) Q E s:=by
  intro l a xs hl hr cq;have hn:xs.size=l.length:=by have:=hr.length;simpa using this
  by_cases bk:l.length<=ai
  ·rw[if_pos bk]at cq;obtain rfl:=si cq
   refine PySem.call_tuple_list (hsz:=by rw[hn];exact bL bk (by decide)) hl fun h' hk=>?_;have iV:∀ b o',s.heap.get? b=some o'->(h'.push { cls:=.type "tuple",data:=.seq xs }).get? b=some o':=fun b o' e=>ag _ (hk b o' e)
   have nX:h'.objs.size∉μ++P:=fun m=>by
    obtain⟨o',e⟩:=I.dom _ m;exact absurd (cR (hk _ _ e)) (Yl _)
   refine q _ _ (I.grow (tk:=s.toks) iV) (Go.of_keeps iV) ?_;exact CA nX (⟨_,_,ct _ rfl,rfl,rfl,rfl⟩) (hr.go0 (Go.of_keeps iV))
  ·rw[if_neg bk]at cq;exact nn cq
 induction v using V.casesOn with
 | lst l =>
  obtain⟨a,xs,rfl,na,hl,hr⟩:=ez Ra;exact main hl hr hv
 | ref n =>
  replace Ra:=dU Ra;obtain⟨c,rfl,hc⟩:=Ra;have hl:cv (.ref n) O=(match O[n]? with|some (.list l)=>some l|_=>none):=rfl;dsimp only at hv;rw[hl]at hv;induction bF:O[n]? using aL with
  | none=>rw[bF]at hv;exact nn hv
  | some cl =>
   rw[bF]at hv;induction cl using Cell.casesOn with
   | dict ks vs=>exact nn hv
   | list l =>
    obtain⟨_,xs,hp,hr⟩:=I.cells n _ c bF hc;exact main hp.isList hr hv
 | _=>exact nn hv
theorem oJ:∀ (l:List Nat) (a:Nat),qU l a=l.foldl (fun acc c=>acc*10+(c-48)) a
 | [],_=>rfl
 | _::l,_=>oJ l _
theorem Lw{l:List Nat} : mZ B (.type "int") [.str l] (fun _=>if l≠[]/\l.length<=10/\l.all fN=true then some (.int (qU l 0))else none):=by
 intro A envs P μ O s us r Q E hh hd hu I R hv q;obtain⟨u,rfl,Ra⟩:=lS R;obtain⟨t,rfl⟩:=c8 Ra;generalize(hv:(if l≠[]/\l.length<=10/\l.all fN=true then some (V.int (qU l 0))else none)=some r)=cq;by_cases hc:l≠[]/\l.length<=10/\l.all fN=true
 ·rw[if_pos hc]at cq;obtain rfl:=si cq
  obtain⟨c1,c2,c3⟩:=hc;have e:(aB l).cps.toList=l:=by simp
  have hd:NumText.AllDigits (aB l).cps.toList:=by
   rw[e];intro c hm;have:=yg c3 c hm;simpa[fN]using this
  refine KIN.call_text (n:=((qU l 0:Nat):Int)) ?_ (by rw[c7];exact lA ‹_<=10› rfl) (lY I q zI);rw[PySem.intText_digits hd (by rw[e];exact c1) (by rw[c7];exact lA ‹_<=10› rfl),e,oJ];rfl
 ·rw[if_neg hc]at cq;exact nn cq
theorem Lx{i:Int} : mZ B (.type "str") [.int i] (fun _=>if -(10 ^ 18)<i/\i<10 ^ 18 then some (.str (aH i))else none):=by
 intro A envs P μ O s us r Q E hh hd hu I R hv q;obtain⟨u,rfl,Ra⟩:=lS R;obtain⟨t,rfl⟩:=dS Ra;generalize(hv:(if -(10 ^ 18)<i/\i<10 ^ 18 then some (V.str (aH i))else none)=some r)=cq;by_cases hc:-(10 ^ 18)<i/\i<10 ^ 18
 ·rw[if_pos hc]at cq;obtain rfl:=si cq
  refine PySem.P.str_of_int ?_ (lY I q ?_)
  ·have h1:i.natAbs<2 ^ 60:=sh hc;by_cases h0:i.natAbs=0
   ·rw[h0];decide
   ·have:=(Nat.log2_lt h0).mpr h1;exact lC ‹_<60› rfl
  ·show Exists _;refine⟨s.toks,?_⟩;have:(ac (toString i))=aB (aH i):=by
    rw[Str.ofString_eq_toList];rfl
   rw[<- this]
 ·rw[if_neg hc]at cq;exact nn cq
theorem Ly{o:V->String->Option V}(h:(match(generalizing:=false) vs with | [a,.typ t]=>o a t|_=>none)=some v):∃ a t,vs=[a,.typ t]/\o a t=some v:=by
 induction vs using cz with
 | nil=>exact nn h
 | cons a r =>
  induction r using cz with
  | nil=>exact nn h
  | cons b r =>
   induction b using V.casesOn with
   | typ t=>induction r using cz with
    | nil=>exact⟨a,t,rfl,h⟩
    | cons=>exact nn h
   | _=>exact nn h
theorem Lz{o:List Nat->Option V}(h:(match(generalizing:=false) vs with | [.str x]=>o x|_=>none)=some v):∃ x,vs=[.str x]/\o x=some v:=by
 induction vs using cz with
 | nil=>exact nn h
 | cons a r =>
  induction a using V.casesOn with
  | str x=>induction r using cz with
   | nil=>exact⟨x,rfl,h⟩
   | cons=>exact nn h
  | _=>exact nn h
theorem LA{o:Int->Option V}(h:(match(generalizing:=false) vs with | [.int x]=>o x|_=>none)=some v):∃ x,vs=[.int x]/\o x=some v:=by
 induction vs using cz with
 | nil=>exact nn h
 | cons a r =>
  induction a using V.casesOn with
  | int x=>induction r using cz with
   | nil=>exact⟨x,rfl,h⟩
   | cons=>exact nn h
  | _=>exact nn h
theorem LB{o:List V->Option V}(h:(match(generalizing:=false) vs with | [.lst x]=>o x|_=>none)=some v):∃ x,vs=[.lst x]/\o x=some v:=by
 induction vs using cz with
 | nil=>exact nn h
 | cons a r =>
  induction a using V.casesOn with
  | lst x=>induction r using cz with
   | nil=>exact⟨x,rfl,h⟩
   | cons=>exact nn h
  | _=>exact nn h
theorem LC{o:List V->Option V}(h:(match(generalizing:=false) vs with | [.tup x]=>o x|_=>none)=some v):∃ x,vs=[.tup x]/\o x=some v:=by
 induction vs using cz with
 | nil=>exact nn h
 | cons a r =>
  induction a using V.casesOn with
  | tup x=>induction r using cz with
   | nil=>exact⟨x,rfl,h⟩
   | cons=>exact nn h
  | _=>exact nn h
theorem LD (hD:∀ l,mZ B (.type "dict") [.tup l] (fun _=>match cU l with
   | some (ks,us)=>if ks.Nodup/\l.length<=ai then some (.dct ks us)else none
   | none=>none)):CN B:=by
 intro g u A envs P μ O s vs us v Q E hg hh hd hu I R hv q;have one:∀ {vs:List V} {o:V->Option V},(match(generalizing:=false) vs with | [v]=>o v|_=>none)=some v->∃ a,vs=[a]/\o a=some v:=by
  intro vs o h;match vs with
  | [a]=>exact⟨a,rfl,h⟩
  | []=>exact nn h
  | _::_::_=>exact nn h
 delta gI at hv;by_cases h1:g=ac "len"
 ·rw[if_pos h1]at hv;subst h1;have rc:u= .builtin "len":=by
   have:blts.lookup (ac "len")=some (.builtin "len"):=by decide +kernel
   rw[this]at hg;obtain rfl:=si hg;rfl
  subst rc;refine ab fun _ gG=>?_;obtain⟨a,rfl,hv⟩:=one hv;refine gG ?_;clear gG
  exact Lv hh hd hu I R hv q
 rw[if_neg h1]at hv;by_cases h2:g=ac "isinstance"
 ·rw[if_pos h2]at hv;subst h2;have rc:u= .builtin "isinstance":=by
   have:blts.lookup (ac "isinstance")=some (.builtin "isinstance"):=by decide +kernel
   rw[this]at hg;obtain rfl:=si hg;rfl
  subst rc;obtain⟨a,t,rfl,hv⟩:=Ly hv;exact Dt hh hd hu I R hv q
 rw[if_neg h2]at hv;by_cases h3:g=ac "int"
 ·rw[if_pos h3]at hv;subst h3;have rc:u= .type "int":=by
   have:blts.lookup (ac "int")=some (.type "int"):=by decide +kernel
   rw[this]at hg;obtain rfl:=si hg;rfl
  subst rc;obtain⟨l,rfl,hv⟩:=Lz hv;exact Lw hh hd hu I R hv q
 rw[if_neg h3]at hv;by_cases h4:g=ac "str"
 ·rw[if_pos h4]at hv;subst h4;have rc:u= .type "str":=by
   have:blts.lookup (ac "str")=some (.type "str"):=by decide +kernel
   rw[this]at hg;obtain rfl:=si hg;rfl
  subst rc;obtain⟨i,rfl,hv⟩:=LA hv;exact Lx hh hd hu I R hv q
 rw[if_neg h4]at hv;by_cases h5:g=ac "tuple"
 ·rw[if_pos h5]at hv;subst h5;have rc:u= .type "tuple":=by
   have:blts.lookup (ac "tuple")=some (.type "tuple"):=by decide +kernel
   rw[this]at hg;obtain rfl:=si hg;rfl
  subst rc;refine ab fun _ gG=>?_;obtain⟨a,rfl,hv⟩:=one hv;refine gG ?_;clear gG
  exact Gk hh hd hu I R hv q
 rw[if_neg h5]at hv;by_cases h6:g=ac "list"
 ·rw[if_pos h6]at hv;subst h6;have rc:u= .type "list":=by
   have:blts.lookup (ac "list")=some (.type "list"):=by decide +kernel
   rw[this]at hg;obtain rfl:=si hg;rfl
  subst rc;obtain⟨l,rfl,hv⟩:=LB hv;exact IX hh hd hu I R hv q
 rw[if_neg h6]at hv;by_cases h7:g=ac "dict"
 ·rw[if_pos h7]at hv;subst h7;have rc:u= .type "dict":=by
   have:blts.lookup (ac "dict")=some (.type "dict"):=by decide +kernel
   rw[this]at hg;obtain rfl:=si hg;rfl
  subst rc;obtain⟨l,rfl,hv⟩:=LC hv;exact hD _ hh hd hu I R hv q
 rw[if_neg h7]at hv;exact nn hv
theorem xu{h:ir}{μ X:List bQ} : ∀ {vs:List V} {us:List am} {q:List (List Nat)},eZ vs=some q->Reps B h μ X vs us->StrsAre us (q.map aB)
 | [],us,q,e,r=>by
  obtain rfl:=b8 r;obtain rfl:=si e;exact .nil
 | .str l::r,us,q,e,R=>by
  have e':(eZ r).map (fun q=>l::q)=some q:=e;induction hq:eZ r using aL with
  | none=>rw[hq]at e';exact nn e'
  | some q' =>
   rw[hq]at e';obtain rfl:=si e'
   replace R:=ba R;obtain⟨u,oh,rfl,r1,r2⟩:=R;obtain⟨t,rfl⟩:=c8 r1;exact .cons _ t (xu hq r2)
 | .none::_,_,_,e,_=>by exact nn e
 | .bool _::_,_,_,e,_=>by exact nn e
 | .int _::_,_,_,e,_=>by exact nn e
 | .tup _::_,_,_,e,_=>by exact nn e
 | .lst _::_,_,_,e,_=>by exact nn e
 | .dct _ _::_,_,_,e,_=>by exact nn e
 | .ref _::_,_,_,e,_=>by exact nn e
 | .sett _::_,_,_,e,_=>by exact nn e
 | .typ _::_,_,_,e,_=>by exact nn e
 | .bnd::_,_,_,e,_=>by exact nn e
theorem re(sep:List Nat):∀ q:List (List Nat),Str.join (aB sep) (q.map aB)=aB (an sep q)
 | []=>rfl
 | [x]=>rfl
 | x::y::r=>by
  show aB x++aB sep++Str.join (aB sep) ((y::r).map aB)=aB (x++sep++an sep (y::r));rw[re sep (y::r),mY,mY]
theorem xw:∀ q:List (List Nat),(((q.map aB).map (·.length)).sum)=cT q
 | []=>rfl
 | x::r=>by
  rw[kR,kR,List.sum_cons,xw r,c7];rfl
theorem Gl{A:bY}{l:List Nat}{t:BY}{w:V}(I:Inv B envs P μ O s)(R:Reps B s.heap μ (μ++P) [w] us)
  (uV:(match(cv w O).bind eZ with
    | some q=>if cT q+q.length*l.length<=ai/\q.length<=ai then some (V.str (an l q))else none
    | none=>none)=some v) (q:∀ x s',Inv B envs P μ O s'->Go μ [] s.heap s'.heap->Rep B s'.heap μ (μ++P) v x->Q x s'):wpAny (cr B.prog B.w) A (call (.builtin "str.join") (.str (aB l) t::us) []) Q E s:=by
 have main:∀ {vs:List V} {a:bQ} {xs:Array am} {v:V},s.heap.IsList a xs->Reps B s.heap μ (μ++P) vs xs.toList->(match eZ vs with
    | some q=>if cT q+q.length*l.length<=ai/\q.length<=ai then some (V.str (an l q))else none
    | none=>none)=some v->(∀ x s',Inv B envs P μ O s'->Go μ [] s.heap s'.heap->Rep B s'.heap μ (μ++P) v x->Q x s')->wpAny (cr B.prog B.w) A (call (.builtin "str.join") [.str (aB l) t,.ref a] []) Q E s:=by
  intro vs a xs v hl hr hv q;induction hs:eZ vs using aL with
  | none=>rw[hs]at hv;exact nn hv
  | some ss =>
   rw[hs]at hv;by_cases hc:cT ss+ss.length*l.length<=ai/\ss.length<=ai
   ·have cq:(if cT ss+ss.length*l.length<=ai/\ss.length<=ai then some (V.str (an l ss))else none)=some v:=hv;rw[if_pos hc]at cq;obtain rfl:=si cq
    refine af0 hl (xu hs hr) ?_ fun t' k=>?_
    ·rw[xw,bR,c7];exact bL hc.1 (by decide)
    ·refine lY I q ?_;show Exists _;refine⟨t',?_⟩;rw[show Txt.join (aB l) (ss.map aB)=_ from StrLaws.glued_eq_join _ _,re]
   ·have cq:(if cT ss+ss.length*l.length<=ai/\ss.length<=ai then some (V.str (an l ss))else none)=some v:=hv;rw[if_neg hc]at cq;exact nn cq
 obtain⟨u,rfl,Ra⟩:=lS R;induction w using V.casesOn with
 | lst m =>
  obtain⟨a,xs,rfl,na,hl,hr⟩:=ez Ra;exact main hl hr uV q
 | ref n =>
  replace Ra:=dU Ra;obtain⟨c,rfl,hc⟩:=Ra;have hl:cv (.ref n) O=(match O[n]? with|some (.list l)=>some l|_=>none):=rfl;rw[hl]at uV;induction bF:O[n]? using aL with
  | none=>rw[bF]at uV;exact nn uV
  | some cl =>
   rw[bF]at uV;induction cl using Cell.casesOn with
   | dict ks vs=>exact nn uV
   | list m =>
    obtain⟨_,xs,hp,hr⟩:=I.cells n _ c bF hc;exact main hp.isList hr uV q
 | _=>exact nn uV
theorem IY{A:bY}{l:List Nat}{t:BY}(I:Inv B envs P μ O s)(R:Reps B s.heap μ (μ++P) vs us)
  (hv:cV (.str l) (ac "join") vs O=some v) (q:∀ x s',Inv B envs P μ O s'->Go μ [] s.heap s'.heap->Rep B s'.heap μ (μ++P) v x->Q x s'):wpAny (cr B.prog B.w) A (call (.builtin "str.join") (.str (aB l) t::us) []) Q E s:=by
 match vs with
 | [w]=>exact Gl I R hv q
 | []=>exact nn hv
 | _::_::_=>exact nn hv
theorem qo{c:Nat} : ∀ {p:List Nat},c∉p->ao c p=[p]
 | [],_=>rfl
 | a::p,h=>by
  generalize(fun e=>h (by rw[e];exact aW ..):a≠c)=ha;generalize(qo (p:=p) fun m=>h (bG _ m))=ih;unfold ao;rw[if_neg ha,ih]
theorem sw{c:Nat}{r:List Nat} : ∀ {p:List Nat},c∉p->ao c (p++c::r)=p::ao c r
 | [],_=>by
  show ao c (c::r)=_;rw[ao,if_pos rfl]
 | a::p,h=>by
  generalize(fun e=>h (by rw[e];exact aW ..):a≠c)=ha;generalize(sw (r:=r) (p:=p) fun m=>h (bG _ m))=ih;show ao c (a::(p++c::r))=_;rw[ao,if_neg ha,ih]
theorem qp{c:Nat} : ∀ {ps:List (List Nat)},ps≠[]->(∀ p∈ps,c∉p)->ao c (an [c] ps)=ps
 | [],h,_=>absurd rfl h
 | [p],_,hf=>qo (hf p (aW ..))
 | p::q::r,_,hf=>by
  show ao c (p++[c]++an [c] (q::r))=_;rw[cJ];show ao c (p++c::an [c] (q::r))=_;rw[sw (hf p (aW ..)),qp (by simp) fun x m=>hf x (bG _ m)]
theorem Gm(x:fw):aB x.cps.toList=x:=by cases x;simp[aB]
theorem Du(l:List Nat)(c:Nat):Txt.split (aB l) ⟨#[c]⟩=(ao c l).map aB:=by
 generalize(StrLaws.join_split (aB l) ⟨#[c]⟩)=h1;generalize(StrLaws.split_free (aB l) c)=h2;generalize(split_pos (aB l) ⟨#[c]⟩)=h3;generalize Txt.split (aB l) ⟨#[c]⟩=ps at h1 h2 h3;have e:ps=(ps.map fun p=>p.cps.toList).map aB:=by
  rw[Y7];conv=>lhs;rw[<- List.map_id ps]
  exact adM fun p _=>(Gm p).symm
 generalize Vk:(ps.map fun p=>p.cps.toList)=qs at e;have hf:∀ p∈qs,c∉p:=by
  intro p m;rw[<- Vk]at m;obtain⟨x,hx,rfl⟩:=iP m;exact h2 x hx
 have hne:qs≠[]:=by
  intro q;rw[e,q]at h3;exact absurd h3 (by decide)
 rw[e]at h1 ⊢;generalize((re [c] qs).symm.trans h1:aB (an [c] qs)=aB l)=hj;rw[<- pI hj,qp hne hf]
theorem uW{h:ir}{μ X:List bQ} : ∀ {ps:List (List Nat)} {l:List (fw×BY)},l.map (·.1)=ps.map aB->Reps B h μ X (ps.map V.str) (adP l)
 | [],[],_=>z0
 | [],_::_,e=>by cases e
 | _::_,[],e=>by cases e
 | p::ps,(x,t)::l,e=>by
  rw[kR,kR]at e;injection e with e1 e2
  show Exists _;refine⟨.str x t,adP l,rfl,?_,uW e2⟩;show Exists _;exact⟨t,by rw[<- e1]⟩
theorem Dv{A:bY}{l:List Nat}{t:BY}(I:Inv B envs P μ O s)(R:Reps B s.heap μ (μ++P) [.str [c]] us)
  (hv:(if l.length<=ai then some (V.lst ((ao c l).map .str))else none)=some v) (q:∀ x s',Inv B envs P μ O s'->Go μ [] s.heap s'.heap->Rep B s'.heap μ (μ++P) v x->Q x s') :
  wpAny (cr B.prog B.w) A (call (.builtin "str.split") (.str (aB l) t::us) []) Q E s:=by
 obtain⟨u,rfl,Ra⟩:=lS R;obtain⟨tk,rfl⟩:=c8 Ra;by_cases hc:l.length<=ai
 ·rw[if_pos hc]at hv;obtain rfl:=si hv
  have fin:∀ (l':List (fw×BY)) (k:Nat),l'.map (·.1)=Txt.split (aB l) (aB [c])->Q (.ref s.heap.objs.size) { s with heap:=s.heap.push { cls:=.type "list",data:=.seq (adP l').toArray },toks:=k }:=by
   intro l' k e;have hk:∀ b o',s.heap.get? b=some o'->(s.heap.push { cls:=.type "list",data:=.seq (adP l').toArray }).get? b=some o':=fun b o' e=>ag _ e
   refine q _ _ (I.grow (tk:=k) hk) (Go.of_keeps hk) ?_;refine zL (fun m=>?_) (⟨_,ct _ rfl,rfl,_,rfl⟩) ?_
   ·obtain⟨o',e⟩:=I.dom _ m;exact absurd (cR e) (Yl _)
   ·exact uW (e.trans (Du l c))
  have ur:(aB l).length<=100000:=by rw[c7];exact hc
  have hn:(acr (aB l) (aaF (aB l) (aB [c]) 0 (aB l).length ((aB l).length+1)) (aB [c]).length).length<=lH:=by
   generalize(StrLaws.occ_length_le (aB l) (aB [c]) 0 (aB l).length ((aB l).length+1))=e1;rw[length_partsBetween];have:lH=16777216:=by decide
   exact bL (j5 e1) (bL (ZC ur 2) (by decide))
  have hy:((aB [c]).length==0)=false:=by rw[c7];rfl
  cases h1:(decide ((aB l).length<(aB [c]).length)||decide (acW (aB l)<acW (aB [c])))
  ·cases hf:(aaF (aB l) (aB [c]) 0 (aB l).length ((aB l).length+1)).isEmpty
   ·refine adr ZR (aaY _ _ _) aaS (aaM _ _) (meets_str_split_sep (aB l) (aB [c]) t tk h1 hy hf (bL ur (by decide)) hn) ?_;show wants Q E _ { s with toks:=_,heap:=s.heap.push { cls:=.type "list",data:=.seq (strsFrom s.toks (acr (aB l) (aaF (aB l) (aB [c]) 0 (aB l).length ((aB l).length+1)) (aB [c]).length)).toArray } };rw[strsFrom_eq];exact fin (numbered s.toks _) _ ((numbered_texts _ _).trans ((if_neg (ne_true_of_eq_false h1)).trans (if_neg (ne_true_of_eq_false hf))).symm)
   ·exact adr ZR (aaY _ _ _) aaS (aaM _ _) (meets_str_split_not_found (aB l) (aB [c]) t tk h1 hy hf)
     (fin [(aB l,t)] s.toks ((if_neg (ne_true_of_eq_false h1)).trans (if_pos hf)).symm)
  ·exact adr ZR (aaY _ _ _) aaS (aaM _ _) (meets_str_split_cannot_occur (aB l) (aB [c]) t tk h1)
    (fin [(aB l,t)] s.toks (if_pos h1).symm)
 ·rw[if_neg hc]at hv;exact nn hv
theorem Gn{A:bY}{l:List Nat}{t:BY}(I:Inv B envs P μ O s)(R:Reps B s.heap μ (μ++P) vs us)
  (hv:cV (.str l) (ac "split") vs O=some v) (q:∀ x s',Inv B envs P μ O s'->Go μ [] s.heap s'.heap->Rep B s'.heap μ (μ++P) v x->Q x s'):wpAny (cr B.prog B.w) A (call (.builtin "str.split") (.str (aB l) t::us) []) Q E s:=by
 have hne:¬(ac "split"=ac "join"):=by decide +kernel
 delta cV at hv;dsimp only at hv;rw[if_neg hne,if_pos rfl]at hv;induction vs using cz with
 | nil=>exact nn hv
 | cons a r =>
  induction a using V.casesOn with
  | str w =>
   induction w using cz with
   | nil=>exact nn hv
   | cons c w =>
    induction w using cz with
    | nil=>induction r using cz with
     | nil=>exact Dv I R hv q
     | cons=>exact nn hv
    | cons=>exact nn hv
  | _=>exact nn hv
theorem IZ(BO:aP B){A:bY}{k d:V}{c:bQ}(hu:A.units<=6000)(I:Inv B envs P μ O s)
  (hc:μ[n]?=some c) (bF:O[n]?=some (.dict ks ws)) (R:Reps B s.heap μ (μ++P) [k,d] us)
  (hv:((fg k).map fun k=>match(ks.zip ws).lookup k with
    | some v=>v
    | none=>d)=some v) (q:∀ x s',Inv B envs P μ O s'->Go μ [] s.heap s'.heap->Rep B s'.heap μ (μ++P) v x->Q x s') :
  wpAny (cr B.prog B.w) A (call (.builtin "dict.get") (.ref c::us) []) Q E s:=by
 refine ab fun _ gG=>?_;obtain⟨u,w,rfl,Ra,Rd⟩:=uD R;refine gG ?_;clear gG
 induction hk:fg k using aL with
 | none=>rw[hk]at hv;exact nn hv
 | some kk =>
  rw[hk]at hv;have cq:(match(ks.zip ws).lookup kk with
    | some v=>v
    | none=>d)=v:=kH hv
  induction k using V.casesOn with
  | tup l =>
   generalize(hk:dC l=some kk)=hp;refine ab fun _ gG=>?_;obtain⟨_,us,⟨xs,hm,e1,e2,e3⟩,hr⟩:=I.cells n _ c bF hc;refine gG ?_;clear gG
   refine ab fun _ gG=>?_;obtain⟨ka,ys,rfl,na,⟨o,ho,hcl,m,eK⟩,lX⟩:=eA Ra;refine gG ?_;clear gG
   generalize(⟨o,ys,m,ho,hcl,eK,k9 lX hp⟩:(bt B.prog B.w).is s.heap kk ka)=oH;have Tb:(c==YD)=false:=by
    rw[beq_eq_false_iff_ne];rintro rfl;refine ab fun _ gG=>?_;obtain⟨o',_,_,_,e,_⟩:=BO.sysm;refine gG ?_;clear gG
    rw[I.new _ (bo _ (fU hc))]at e;exact nn e
   refine call_meetsIn adb hm.typeIs PySem.F.entry_dict_get (PySem.F.args_dict_get_3 _ _ _) (meetsH_dict_get_default (bt B.prog B.w) c ka Tb w) ⟨(Zx (by show A.units+1<9900;exact r1 ‹_›)),kk,xs,oH,hm,?_⟩;induction hl:(ks.zip ws).lookup kk using aL with
   | some x =>
    rw[hl]at cq;refine ab fun _ gG=>?_;obtain⟨pp,Gj,rp⟩:=tP e1 e3 hr hl;refine gG ?_;clear gG
    show Q _ _;rw[Gj];exact lY I q (cq▸rp)
   | none =>
    rw[hl]at cq;show Q _ _;rw[lW e1 e3 hr hl];exact lY I q (cq▸Rd)
  | _=>exact nn hk
theorem I7(BO:aP B):yx B:=by
 intro envs P μ O s a m u T I Ra hk hs;induction a using V.casesOn with
 | str l =>
  refine ab fun _ gG=>?_;obtain⟨t,rfl⟩:=c8 Ra;refine gG ?_;clear gG
  generalize(hk:((m==ac "join")||(m==ac "split"))=true)=iV;by_cases hm:m=ac "join"
  ·subst hm;refine⟨"str","str.join",ac0,PySem.F.slot_str_join,PySem.F.type_str_join,aaY _ _ _,(fun a e=>by cases e),fun _ _ _ I' _ R hv q=>IY I' R hv q⟩
  ·have uL:m=ac "split":=by
    refine ab fun _ gG=>?_;rcases Bool.or_eq_true_iff.mp iV with h|h<;>refine gG ?_<;>clear gG
    ·exact absurd (eq_of_beq h) hm
    ·exact eq_of_beq h
   subst uL;refine⟨"str","str.split",ac0,ZR,PySem.F.type_str_split,aaY _ _ _,(fun a e=>by cases e),fun _ _ _ I' _ R hv q=>Gn I' R hv q⟩
 | ref n =>
  replace Ra:=dU Ra;refine ab fun _ gG=>?_;obtain⟨c,rfl,hc⟩:=Ra;refine gG ?_;clear gG
  induction bF:O[n]? using aL with
  | none=>have hk:(match O[n]? with|some (.dict _ _)=>m==ac "get"|_=>false)=true:=hk;rw[bF]at hk;exact j4 hk
  | some cl =>
   induction cl using Cell.casesOn with
   | list l=>have hk:(match O[n]? with|some (.dict _ _)=>m==ac "get"|_=>false)=true:=hk;rw[bF]at hk;exact j4 hk
   | dict ks ws =>
    have hm:m=ac "get":=by
     have hk:(match O[n]? with|some (.dict _ _)=>m==ac "get"|_=>false)=true:=hk;rw[bF]at hk;exact eq_of_beq hk
    subst hm;refine ab fun _ gG=>?_;obtain⟨_,us,⟨xs,LG,e1,e2,e3⟩,hr⟩:=I.cells n _ c bF hc;refine gG ?_;clear gG
    refine⟨"dict","dict.get",PySem.F.plainAttrs_dict,adb,PySem.F.type_dict_get,LG.typeIs,fun a e=>?_,?_⟩
    ·cases e
     refine ab fun _ gG=>?_;obtain⟨o,es,ep,ho,hx,_⟩:=LG;refine gG ?_;clear gG
     exact⟨o,ho,hx.2.1⟩
    ·intro A bV ar s' vs oh v Q E _ _ hu I' Oj R' hv q;refine ab fun _ gG=>?_;obtain⟨c',e,A4⟩:=Oj;refine gG ?_;clear gG
     cases e
     delta cV at hv;dsimp only at hv;rw[if_pos rfl]at hv;induction vs using cz with
     | nil=>exact nn hv
     | cons k r =>
      induction r using cz with
      | nil=>exact nn hv
      | cons d r =>
       induction A6:ar[n]? using aL with
       | none=>rw[A6]at hv;induction r using cz<;>exact nn hv
       | some cl =>
        rw[A6]at hv;induction r using cz with
        | cons=>exact nn hv
        | nil=>induction cl using Cell.casesOn with
         | list=>exact nn hv
         | dict ks us=>exact IZ BO hu I' A4 A6 R' hv q
 | sett c=>exact absurd rfl (hs c)
 | _=>cases hk
theorem y4:∀ (x y:List Nat),(!(decide (y<x)))=pL x y
 | [],[]=>by decide
 | [],b::y=>by simp[pL]
 | a::x,[]=>by simp[pL]
 | a::x,b::y=>by
  generalize(y4 x y)=ih;unfold pL;by_cases h1:a<b
  ·rw[if_pos h1];simp only[abt,ZA,decide_eq_false_iff_not];lia
  ·rw[if_neg h1];by_cases h2:a=b
   ·subst h2;rw[if_pos rfl,<- ih];simp[abt]
   ·rw[if_neg h2];have:b<a:=by exact PI ‹_› ‹_›
    simp[abt,this]
theorem qq{h:ir}{a:V}(r:Rep B h μ X a u):plainIs u .none=true/\(u==.none)=isNone a:=by
 have ad:(∃ a:bQ,u= .ref a)->plainIs u .none=true/\(u==.none)=false:=fun⟨a,e⟩=>by rw[e];exact⟨rfl,by simp⟩
 induction a using V.casesOn with
 | none=>obtain rfl:=iS r;exact⟨rfl,rfl⟩
 | bool b=>obtain rfl:=pJ r;exact⟨rfl,rfl⟩
 | int i=>obtain⟨t,rfl⟩:=dS r;exact⟨rfl,rfl⟩
 | str l=>obtain⟨t,rfl⟩:=c8 r;exact⟨rfl,rfl⟩
 | tup l=>obtain⟨a,xs,e,_⟩:=eA r;exact ad ⟨a,e⟩
 | lst l=>obtain⟨a,xs,e,_⟩:=ez r;exact ad ⟨a,e⟩
 | dct ks vs=>replace r:=yh r;obtain⟨a,us,e,_⟩:=r;exact ad ⟨a,e⟩
 | ref n=>obtain⟨a,e,_⟩:=dU r;exact ad ⟨a,e⟩
 | sett n=>replace r:=w7 r;obtain⟨a,d,r',hh,t,e,_⟩:=r;exact ad ⟨a,e⟩
 | typ t=>obtain rfl:=EN r;exact⟨rfl,rfl⟩
 | bnd=>replace r:=EO r;exact ad ⟨_,r⟩
mutual
theorem eD{B:bw}{h:ir}{μ X:List bQ} : ∀ (v:V) {u:am} {d:ae3},v.toPy=some d->Rep B h μ X v u->∃ as,Reads h u d as
 | .none,u,d,e,r=>by obtain rfl:=si e;obtain rfl:=iS r;exact⟨_,.none⟩
 | .bool b,u,d,e,r=>by obtain rfl:=si e;obtain rfl:=pJ r;exact⟨_,.bool b⟩
 | .int i,u,d,e,r=>by obtain rfl:=si e;obtain⟨t,rfl⟩:=dS r;exact⟨_,.int i t⟩
 | .str l,u,d,e,r=>by obtain rfl:=si e;obtain⟨t,rfl⟩:=c8 r;exact⟨_,.str _ t⟩
 | .tup l,u,d,e,r=>by
  obtain⟨a,xs,rfl,_,⟨o,ho,hcl,m,eK⟩,hr⟩:=eA r;obtain⟨ds,hl,rfl⟩:=mD e;obtain⟨as,q⟩:=m7 l hl hr;exact⟨_,.tuple ho hcl eK q⟩
 | .lst l,u,d,e,r=>by
  obtain⟨a,xs,rfl,_,⟨o,ho,hcl,m,eK⟩,hr⟩:=ez r;obtain⟨ds,hl,rfl⟩:=mD e;obtain⟨as,q⟩:=m7 l hl hr;exact⟨_,.list ho hcl eK q⟩
 | .dct _ _,_,_,e,_=>nn e
 | .ref _,_,_,e,_=>nn e
 | .sett _,_,_,e,_=>nn e
 | .typ _,_,_,e,_=>nn e
 | .bnd,_,_,e,_=>nn e
theorem m7{B:bw}{h:ir}{μ X:List bQ} : ∀ (vs:List V) {us:List am} {ds:List ae3},V.toPys vs=some ds->Reps B h μ X vs us->∃ as,ReadsAll h us ds as
 | [],us,ds,e,r=>by
  obtain rfl:=si e;obtain rfl:=b8 r;exact⟨_,.nil⟩
 | v::vs,us,ds,e,r=>by
  replace r:=ba r;obtain⟨u,q,rfl,r1,r2⟩:=r;replace e:((V.toPy v).bind fun d=>(V.toPys vs).map fun ds=>d::ds)=some ds:=e;induction hd:v.toPy using aL with
  | none=>rw[hd]at e;exact nn e
  | some d =>
   rw[hd]at e;induction Ok:V.toPys vs using aL with
   | none=>rw[Ok]at e;exact nn e
   | some Xv =>
    rw[Ok]at e;obtain rfl:=si e
    obtain⟨as,p⟩:=eD v hd r1;obtain⟨bs,p'⟩:=m7 vs Ok r2;exact⟨_,.cons p p'⟩
end
theorem xx{a b:V}{c:Bool}(h:fM a b=some c):∃ da db,a.toPy=some da/\b.toPy=some db/\iI da=true/\iI db=true/\c=Yz da db:=by
 unfold fM at h;induction ha:a.toPy using aL with
 | none=>rw[ha]at h;exact nn h
 | some da =>
  induction hb:b.toPy using aL with
  | none=>rw[ha,hb]at h;exact nn h
  | some db =>
   rw[ha,hb]at h;have h':(if iI da=true/\iI db=true then some (Yz da db)else none)=some c:=h;by_cases hc:iI da=true/\iI db=true
   ·rw[if_pos hc]at h';exact⟨da,db,rfl,rfl,hc.1,hc.2,(kH h').symm⟩
   ·rw[if_neg hc]at h';exact nn h'
theorem jz{A:bY}{a b:V}{x:am}{c:Bool}(hu:A.units+64<ZZ)(ra:Rep B s.heap μ X a u)(rb:Rep B s.heap μ X b x)(h:fM a b=some c):abV A s u x c:=by
 obtain⟨da,db,h1,h2,h3,h4,rfl⟩:=xx h;obtain⟨as,p⟩:=eD a h1 ra;obtain⟨bs,q⟩:=eD b h2 rb;exact SeqAt.eqAt_reads da db A s u x as bs p q (adf h3) (adf h4) (SeqAt.room_of_shaped h3 hu)
theorem kB:∀ (x y:List Nat),ij x y=decide (y.take x.length=x)
 | [],y=>by simp[ij]
 | a::x,[]=>by simp[ij]
 | a::x,b::y=>by
  unfold ij;rw[kB x y];by_cases h:a=b
  ·subst h;simp
  ·have:¬b=a:=fun q=>h q.symm
   simp[h,this]
theorem sz(x:List Nat):∀ (y:List Nat),lJ x y=true↔∃ i,i+x.length<=y.length/\(y.drop i).take x.length=x
 | []=>by
  unfold lJ;rw[kB,decide_eq_true_iff];constructor
  ·intro h;have:x=[]:=by simpa using h.symm
   subst this;exact⟨0,by simp,by simp⟩
  ·rintro⟨i,h1,h2⟩;simp at h1;have:x=[]:=h1.2;subst this;simp
 | b::y=>by
  unfold lJ;rw[acH,sz x y,kB,decide_eq_true_iff];constructor
  ·rintro(h|⟨i,h1,h2⟩)
   ·refine⟨0,?_,by simpa using h⟩;have:=congrArg List.length h;rw[ZE]at this;lia
   ·exact⟨i+1,by simp only[cx];exact Rf ‹_›,by simpa using h2⟩
  ·rintro⟨i,h1,h2⟩;induction i using ZU with
   | zero=>exact .inl (by simpa using h2)
   | succ i=>exact .inr ⟨i,by simp only[cx]at h1;exact Rp ‹_›,by simpa using h2⟩
section
variable{K:Type}[DecidableEq K]{rf:HeapKind prog w K}{A:bY}
inductive PairsSay(A:bY)(s:aO)(ys:List (K×bQ×am)):List (K×bQ×am)->Bool->Prop
 | nil:PairsSay A s ys [] true
 | miss {x:K×bQ×am} {r:List (K×bQ×am)} : aaO ys x.1=none->PairsSay A s ys (x::r) false
 | part {x:K×bQ×am} {r:List (K×bQ×am)} {p:bQ×am} : aaO ys x.1=some p->abV A s x.2.2 p.2 false->PairsSay A s ys (x::r) false
 | hit {x:K×bQ×am} {r:List (K×bQ×am)} {p:bQ×am} {b:Bool} : aaO ys x.1=some p->abV A s x.2.2 p.2 true->PairsSay A s ys r b->PairsSay A s ys (x::r) b
theorem PairsSay.cases'{ys:List (K×bQ×am)}{x:K×bQ×am}{r:List (K×bQ×am)}{b:Bool}(h:PairsSay A s ys (x::r) b) :
  (aaO ys x.1=none/\b=false)\/∃ p,aaO ys x.1=some p/\((abV A s x.2.2 p.2 false/\b=false)\/(abV A s x.2.2 p.2 true/\PairsSay A s ys r b)):=by
 cases h with
 | miss h=>exact .inl ⟨h,rfl⟩
 | part h e=>exact .inr ⟨_,h,.inl ⟨e,rfl⟩⟩
 | hit h e r=>exact .inr ⟨_,h,.inr ⟨e,r⟩⟩
theorem Ba{h:ir}{xs:List (K×bQ×am)}{P:Prop}(d:h.DictOfH rf a xs)(k:∀ o es ep,h.get? a=some o->o.data= .dict es ep->es.toList=xs.map (entryOfKey rf)->(∀ x∈xs,rf.is h x.1 x.2.1)->(xs.map (·.1)).Nodup->P):P:=by
 obtain⟨o,es,ep,h1,_,h2,h3,h4,h5⟩:=d;exact k o es ep h1 h2 h3 h4 h5
inductive I8(n:Nat)(P:Nat->Prop):List Nat->Prop
 | mk {i:Nat} (h:i<=n) (p:P i):I8 n P (List.range' i (n-i))
theorem I9{P:Nat->Prop}(H:I8 n P []):P n:=by
 generalize e:[]=z at H;obtain⟨h,p⟩:=H;rcases afz _ n with g|g
 ·rw[MS g,aek]at e;exact nomatch e
 ·exact Yq h g▸p
theorem Gp{P:Nat->Prop}{rest:List Nat}(H:I8 n P (i::rest)):i<n/\P i/\(P (i+1)->I8 n P rest):=by
 generalize e:i::rest=z at H;obtain⟨h,p⟩:=H;rcases afz _ n with g|g
 ·rw[MS g,aek]at e;obtain⟨e1,e2⟩:=abu e;subst e1;exact⟨g,p,fun q=>e2▸⟨g,q⟩⟩
 ·rw[abC g]at e;exact nomatch e
theorem Ja{xs:List α}(h:i<xs.length):∃ x,xs[i]?=some x/\xs.drop i=x::xs.drop (i+1):=⟨_,fL h,aaP h⟩
theorem sA{nm:String}{b:bQ}{xs ys:List (K×bQ×am)}{r:Bool}{Q:Bool->aO->Prop}(ha:(a==YD)=false)(hb:(b==YD)=false)(hu:rf.room A)
  (da:s.heap.DictOfH rf a xs) (db:s.heap.DictOfH rf b ys) (hits:xs.length=ys.length->PairsSay A s ys xs r) (h:Q (decide (xs.length=ys.length)&&r) s) :
  wpAny (cr prog w) A (acu nm a b) Q E s:=by
 refine Ba da fun oa es ep LH LI LJ hka _=>Ba db fun ob es' Xw uR Ol Om Vl Tc=>?_;generalize(afM LJ:es.size=xs.length)=tB;generalize(afM Om:es'.size=ys.length)=Bb;unfold acu acC;rw[if_neg (show¬(a==YD)=true by rw[ha];exact jG),if_neg (show¬(b==YD)=true by rw[hb];exact jG)];refine aa (ae (aa (ae ?_)));refine aa (Zd LH LI ?_);dsimp only;refine aa (Zd uR Ol ?_);by_cases hsz:es.size=es'.size
 case neg =>
  refine Ac (by simpa using hsz) ?_;have Vm:decide (xs.length=ys.length)=false:=by rw[decide_eq_false_iff_not,<- tB,<- Bb];exact hsz
  rw[Vm,aeR]at h;exact aa (aar (ae h))
 case pos =>
  have hxy:xs.length=ys.length:=by rw[<- tB,<- Bb];exact hsz
  have h':Q r s:=by rw[decide_eq_true hxy,ae4]at h;exact h
  generalize(hits hxy)=Oo;refine EM (by rw[hsz];simp) ?_;refine aa (aaK LH LI ?_);refine aa ?_;rw[aeL];simp only[aeK,afw,Nat.add_sub_cancel,Nat.div_one];refine afr _
   (fun rest q s'=>s'=s/\q=(none,())/\I8 es.size (fun i=>PairsSay A s ys (xs.drop i) r) rest)
   _ ?_ ?_ _ _ ⟨rfl,rfl,⟨YC _,Oo⟩⟩
  ·rintro i rest q s' ⟨rfl,rfl,H⟩;obtain⟨hlt,qr,Vn⟩:=Gp H;clear H;refine aa (Zd LH LI ?_);obtain⟨x,xz,hd⟩:=Ja (tB▸hlt:i<xs.length);rw[hd]at qr;rw[show es[i]?=some (entryOfKey rf x)by rw[entry_at LJ i,xz];rfl];show wpAny _ _ (holding [.ref x.2.1,x.2.2] _>>=_) _ _ _;generalize(hka x (fU xz))=hx;refine aa (eG (aa (wpAny_dictFind_heap hu hx uR Ol Om Vl Tc ?_ ?_)))
   ·intro hno;generalize(atKey_none_of_get hno)=hn;rcases qr.cases' with⟨_,er⟩|⟨p,hp,_⟩
    ·rw[er]at h';refine ae ?_;show wpAny _ _ (if(!false)=true then _ else _) _ _ _;refine Ac (by decide) ?_;exact ae (ae h')
    ·rw[hn]at hp;exact nn hp
   ·intro j p hj;generalize(atKey_of_get Tc hj)=hp;refine aa (Zd uR Ol ?_);rw[entry_at Om j,hj];rcases qr.cases' with⟨hn,_⟩|⟨p',qn,hc⟩
    ·rw[hp]at hn;exact oQ hn
    ·generalize(kH (hp.symm.trans qn):p=p')=ep;subst ep;rcases hc with⟨he,er⟩|⟨he,LK⟩
     ·refine eG (he prog w _ _ ?_);rw[er]at h';show wpAny _ _ (if(!false)=true then _ else _) _ _ _;refine Ac (by decide) ?_;exact ae (ae h')
     ·refine eG (he prog w _ _ ?_);show wpAny _ _ (if(!true)=true then _ else _) _ _ _;refine EM (by decide) ?_;refine aa (aaK LH LI ?_);refine EM (by simp) ?_;exact ae ⟨rfl,rfl,Vn LK⟩
  ·rintro q s' ⟨rfl,rfl,H⟩;have qr:=I9 H;refine ae ?_;rw[tB,aa2]at qr;cases qr
   exact h'
theorem Gq{b:bQ}{xs ys:List (K×bQ×am)}{r:Bool}(ha:(a==YD)=false)(hb:(b==YD)=false)(hr:rf.room A.in1)(hu:A.units<ZZ)
  (da:s.heap.DictOfH rf a xs) (db:s.heap.DictOfH rf b ys) (hits:xs.length=ys.length->PairsSay A.in1 s ys xs r) (h:Q (.bool (decide (xs.length=ys.length)&&r)) s) :
  wpAny (cr prog w) A (Zn .Eq (.ref a) (.ref b)) Q E s:=by
 refine ZD (op:=.Eq) da.typeIs db.typeIs adi (Ys adi da.typeIs PySem.F.entry_dict_eq ?_ (PySem.F.args_dict_eq_2 _ _)) hu;show wpAny _ _ (Zs "__eq__" ⟨[.ref a,.ref b],[]⟩>>=_) _ _ s;refine aa ?_;unfold Zs;refine aa (aap da.typeIs (ae ?_));refine aa (abx (T:="dict") db.typeIs ada ?_);simp only[ae6,Y1,if_false];refine aa (ae (aa (ae ?_)));refine aa (sA ha hb hr da db hits ?_);exact ae ⟨_,rfl,nofun,by simpa using h⟩
theorem Gr{b:bQ}{xs ys:List (K×bQ×am)}{r:Bool}(ha:(a==YD)=false)(hb:(b==YD)=false)(hr:rf.room A.in1)(hu:A.units<ZZ)
  (da:s.heap.DictOfH rf a xs) (db:s.heap.DictOfH rf b ys) (hits:xs.length=ys.length->PairsSay A.in1 s ys xs r) (h:Q (.bool (!(decide (xs.length=ys.length)&&r))) s) :
  wpAny (cr prog w) A (Zn .NotEq (.ref a) (.ref b)) Q E s:=by
 refine ZD (op:=.NotEq) da.typeIs db.typeIs adh (Ys adh da.typeIs PySem.F.entry_dict_ne ?_ (PySem.F.args_dict_ne_2 _ _)) hu;show wpAny _ _ (Zs "__ne__" ⟨[.ref a,.ref b],[]⟩>>=_) _ _ s;refine aa ?_;unfold Zs;refine aa (aap da.typeIs (ae ?_));refine aa (abx (T:="dict") db.typeIs ada ?_);simp only[ae6,Y1,if_false];refine aa (ae (aa (ae ?_)));refine aa (sA ha hb hr da db hits ?_);exact ae ⟨_,rfl,nofun,by simpa using h⟩
end
theorem jO(BO:aP B){xs:List (List Atom×bQ×am)}(I:Inv B envs P μ O s)(h:s.heap.DictOfH (bt B.prog B.w) d xs):(d==YD)=false:=by
 rw[beq_eq_false_iff_ne];rintro rfl;obtain⟨o,es,n,e,h1,h2,h3,h4⟩:=BO.sysm;obtain⟨o',es',n',C2,_,FX,Vo,_⟩:=h;rw[I.stays _ _ h1]at C2;obtain rfl:=si C2;rw[h2]at FX;cases FX
 rw[Vo]at h3;obtain⟨x,_,rfl⟩:=iP h3;exact h4 _ rfl
theorem Bc{P:V->Prop}(h1:P (.dct ks ws))(h2:∀ n,O[n]?=some (.dict ks ws)->P (.ref n)){a:V}(h:c6 a O=some (ks,ws)):P a:=by
 induction a using V.casesOn with
 | dct d1 gv=>obtain⟨rfl,rfl⟩:=Ym (si h);exact h1
 | ref n =>
  delta c6 at h;dsimp only at h;induction bF:O[n]? using aL with
  | none=>rw[bF]at h;exact nn h
  | some c =>
   rw[bF]at h;induction c using Cell.casesOn with
   | list l=>exact nn h
   | dict d1 gv=>obtain⟨rfl,rfl⟩:=Ym (si h);exact h2 n bF
 | _=>exact nn h
theorem uX{a:V}(I:Inv B envs P μ O s)(r:Rep B s.heap μ (μ++P) a u)(h:c6 a O=some (ks,ws)) :
  ∃ d us,u= .ref d/\DictRep B s.heap (μ++P) d ks us/\Reps B s.heap μ (μ++P) ws us:=by
 refine Bc (P:=fun a=>Rep B s.heap μ (μ++P) a u->∃ d us,u= .ref d/\DictRep B s.heap (μ++P) d ks us/\Reps B s.heap μ (μ++P) ws us) (fun r=>?_) (fun n bF r=>?_) h r
 ·replace r:=yh r;obtain⟨d,us,e,_,h1,h2⟩:=r;exact⟨d,us,e,h1,h2⟩
 ·obtain⟨d,e,hd⟩:=dU r;obtain⟨_,us,h1,h2⟩:=I.cells n _ d bF hd;exact⟨d,us,e,h1,h2⟩
theorem Bd{A:bY}{s:aO}{μ X:List bQ}(hu:A.units+64<ZZ){ys:List (List Atom×bQ×am)}{d1:List (List Atom)}{gv:List V}{oh:List am}(Gs:ys.map (·.1)=d1)(Jb:ys.map (·.2.2)=oh)(Dw:Reps B s.heap μ X gv oh) :
  ∀ {xs:List (List Atom×bQ×am)} {ks:List (List Atom)} {vs:List V} {us:List am} {c:Bool},xs.map (·.1)=ks->xs.map (·.2.2)=us->Reps B s.heap μ X vs us->jB ks vs d1 gv=some c->PairsSay A s ys xs c
 | [],ks,vs,us,c,e1,e3,hr,h=>by
  subst e1 e3;induction vs using cz with
  | nil=>obtain rfl:=si h;exact .nil
  | cons v vs=>exact nn h
 | x::xs,ks,vs,us,c,e1,e3,hr,h=>by
  subst e1 e3;induction vs using cz with
  | nil=>exact nn h
  | cons v vs =>
   obtain⟨u,q,e,r1,r2⟩:=ba hr;cases e
   have h:(match(d1.zip gv).lookup x.1 with|none=>some false|some v'=>(fM v v').bind fun b=>if b=true then jB (xs.map (·.1)) vs d1 gv else some false)=some c:=h;induction hl:(d1.zip gv).lookup x.1 using aL with
   | none =>
    rw[hl]at h;obtain rfl:=si h
    exact .miss (lW Gs Jb Dw hl)
   | some v' =>
    rw[hl]at h;have h:((fM v v').bind fun b=>if b=true then jB (xs.map (·.1)) vs d1 gv else some false)=some c:=h;obtain⟨p,hp,rp⟩:=tP Gs Jb Dw hl;induction hv:fM v v' using aL with
    | none=>rw[hv]at h;exact nn h
    | some b =>
     rw[hv]at h;generalize(jz (A:=A) (s:=s) hu r1 rp hv)=he;induction b using iN with
     | false=>obtain rfl:=si h;exact .part hp he
     | true=>exact .hit hp he (Bd hu Gs Jb Dw rfl rfl r2 h)
theorem Gu(BO:aP B){A:bY}{a b:V}{c:Bool}{x:am}{d1:List (List Atom)}{y5:List V}(hu:A.units<=6000)(I:Inv B envs P μ O s)
  (ra:Rep B s.heap μ (μ++P) a u) (rb:Rep B s.heap μ (μ++P) b x) (ha:c6 a O=some (ks,ws)) (hb:c6 b O=some (d1,y5)) (h:lK ks ws d1 y5=some c) :
  (Q (.bool c) s->wpAny (cr B.prog B.w) A (Zn .Eq u x) Q E s)/\(Q (.bool (!c)) s->wpAny (cr B.prog B.w) A (Zn .NotEq u x) Q E s):=by
 refine ab fun _ gG=>?_;obtain⟨d,us,rfl,⟨xs,hx,e1,_,e3⟩,hr⟩:=uX I ra ha;refine gG ?_;clear gG
 refine ab fun _ gG=>?_;obtain⟨d',oh,rfl,⟨ys,hy,Gs,_,Jb⟩,Dw⟩:=uX I rb hb;refine gG ?_;clear gG
 have hl:xs.length=ks.length:=by rw[<- e1,bR]
 have AO:ys.length=d1.length:=by rw[<- Gs,bR]
 generalize(Zx (by show A.units+1<9900;exact r1 ‹_›):(bt B.prog B.w).room A.in1)=room;have pb:A.in1.units+64<ZZ:=by show A.units+1+64<9900;exact P5 ‹_›
 have key:∃ r,(xs.length=ys.length->PairsSay A.in1 s ys xs r)/\(decide (xs.length=ys.length)&&r)=c:=by
  unfold lK at h;by_cases hk:ks.length=d1.length
  ·rw[if_pos hk]at h;exact⟨c,fun _=>Bd pb Gs Jb Dw e1 e3 hr h,by rw[hl,AO,decide_eq_true hk,ae4]⟩
  ·rw[if_neg hk]at h;obtain rfl:=si h;exact⟨true,fun z=>absurd (by rw[<- hl,<- AO];exact z) hk,by rw[hl,AO,decide_eq_false hk];rfl⟩
 refine ab fun _ gG=>?_;obtain⟨r,h1,h2⟩:=key;refine gG ?_;clear gG
 have hc:A.units<ZZ:=by show A.units<9900;exact lB ‹_<=6000› rfl
 exact⟨fun q=>Gq (jO BO I hx) (jO BO I hy) room hc hx hy h1 (by rw[h2];exact q),fun q=>Gr (jO BO I hx) (jO BO I hy) room hc hx hy h1 (by rw[h2];exact q)⟩
theorem E8{A:bY}{b:bQ}(hu:A.units<=6000)(ha:s.heap.IsList a xs)(hr:Reps B s.heap μ X l xs.toList)(hb:Rep B s.heap μ X (.lst []) (.ref b)) :
  SeqAt.RcAt A s (.ref a) (.ref b) l.isEmpty/\SeqAt.RcNeAt A s (.ref a) (.ref b) (!l.isEmpty):=by
 refine ab fun _ gG=>?_;obtain⟨b',ys,e,_,q7,Dw⟩:=ez hb;refine gG ?_;clear gG
 cases e
 have hc:A.units<ZZ:=by show A.units<9900;exact lB ‹_<=6000› rfl
 have hn:xs.size=l.length:=by have:=hr.length;simpa using this
 have hm:ys.size=0:=by have:=Dw.length;simpa using this
 induction l using cz with
 | nil =>
  have hs:xs.size=ys.size:=by rw[hn,hm];rfl
  have h0:xs.size=0:=by rw[hn];rfl
  constructor
  ·have:=agA (A:=A) (e:=fun _=>true) ha q7 hs hc fun j h1 _=>absurd h1 (by rw[h0];exact aaw _)
   rw[h0]at this;exact this
  ·have:=afO (A:=A) (e:=fun _=>true) ha q7 hs hc fun j h1 _=>absurd h1 (by rw[h0];exact aaw _)
   rw[h0]at this;exact this
 | cons v l =>
  have hs:(xs.size != ys.size)=true:=by rw[hn,hm];rfl
  exact⟨agz ha q7 hs hc,afN ha q7 hs hc⟩
theorem Jc{A:bY}{x:am}(hu:A.units<=6000)(ha:s.heap.IsList a xs)(hr:Reps B s.heap μ X l xs.toList)(hb:Rep B s.heap μ X (.lst []) x) :
  (Q (.bool l.isEmpty) s->wpAny (cr B.prog B.w) A (Zn .Eq (.ref a) x) Q E s)/\(Q (.bool (!l.isEmpty)) s->wpAny (cr B.prog B.w) A (Zn .NotEq (.ref a) x) Q E s):=by
 obtain⟨b,ys,rfl,_⟩:=ez hb;generalize((E8 hu ha hr hb)).1=h1;generalize((E8 hu ha hr hb)).2=h2;exact⟨fun z=>h1 _ _ _ _ z,fun z=>h2 _ _ _ _ z⟩
theorem Dx{P:Prop}{a b:V}{c:Bool}(h1:∀ p q,c6 a O=some p->c6 b O=some q->lK p.1 p.2 q.1 q.2=some c->P)(h2:∀ l,b= .lst []->cv a O=some l->l.isEmpty=c->P)(h3:fM a b=some c->P)(h:nM a b O=some c):P:=by
 unfold nM at h;induction ha:c6 a O using aL with
 | some p =>
  rw[ha]at h;obtain⟨q,hb,h⟩:=ib h;exact h1 p q ha hb h
 | none =>
  rw[ha]at h;dsimp only at h;induction hb:c6 b O using aL with
  | some p'=>rw[hb]at h;exact nn h
  | none =>
   rw[hb]at h;dsimp only at h;by_cases hc:(CB b&&t5 a)=true
   ·rw[if_pos hc]at h;obtain⟨l,hl,e⟩:=mD h;refine h2 l ?_ hl e;generalize((bM hc).1)=hn;induction b using V.casesOn with
    | lst m=>rw[List.isEmpty_iff.mp (show m.isEmpty=true from hn)]
    | _=>exact nomatch hn
   ·rw[if_neg hc]at h;exact h3 h
theorem Be{P:V->Prop}(h1:P (.lst l))(h2:∀ n,O[n]?=some (.list l)->P (.ref n)){a:V}(h:cv a O=some l):P a:=by
 induction a using V.casesOn with
 | lst m=>cases si h;exact h1
 | ref n =>
  unfold cv at h;dsimp only at h;induction bF:O[n]? using aL with
  | none=>rw[bF]at h;exact nn h
  | some c =>
   rw[bF]at h;induction c using Cell.casesOn with
   | list m=>cases si h;exact h2 n bF
   | dict d1 gv=>exact nn h
 | _=>exact nn h
theorem Jd{a:V}(I:Inv B envs P μ O s)(r:Rep B s.heap μ (μ++P) a u)(h:cv a O=some l):∃ d xs,u= .ref d/\s.heap.IsList d xs/\Reps B s.heap μ (μ++P) l xs.toList:=by
 refine Be (P:=fun a=>Rep B s.heap μ (μ++P) a u->∃ d xs,u= .ref d/\s.heap.IsList d xs/\Reps B s.heap μ (μ++P) l xs.toList) (fun r=>?_) (fun n bF r=>?_) h r
 ·obtain⟨a,xs,e,_,hl,hr⟩:=ez r;exact⟨a,xs,e,hl,hr⟩
 ·obtain⟨d,e,hd⟩:=dU r;obtain⟨_,xs,hp,hr⟩:=I.cells n _ d bF hd;exact⟨d,xs,e,hp.isList,hr⟩
theorem E9(BO:aP B){A:bY}{a b:V}{c:Bool}{x:am}(hu:A.units<=6000)(I:Inv B envs P μ O s)
  (ra:Rep B s.heap μ (μ++P) a u) (rb:Rep B s.heap μ (μ++P) b x) (h:nM a b O=some c) :
  (Q (.bool c) s->wpAny (cr B.prog B.w) A (Zn .Eq u x) Q E s)/\(Q (.bool (!c)) s->wpAny (cr B.prog B.w) A (Zn .NotEq u x) Q E s):=by
 have pb:A.units+64<ZZ:=by show A.units+64<9900;exact UG ‹_›
 refine Dx (fun p q ha hb h=>Gu BO hu I ra rb ha hb h) (fun l e hl h'=>?_) (fun h=>?_) h
 ·clear h;subst e h';obtain⟨d,xs,rfl,hl,hr⟩:=Jd I ra hl;exact Jc hu hl hr rb
 ·obtain⟨da,db,h1,h2,h3,h4,rfl⟩:=xx h;obtain⟨as,p⟩:=eD a h1 ra;obtain⟨bs,q⟩:=eD b h2 rb;exact⟨fun z=>eq_dataH p q h3 h4 pb z,fun z=>ne_dataH p q h3 h4 pb z⟩
theorem sB{x:V}{c:Bool}(h:t4 x l=some c):∃ d ds,x.toPy=some d/\V.toPys l=some ds/\d.canLay0=true/\Zr ds=true/\d.depth<=64/\c=ds.any fun y=>Yz y d:=by
 obtain⟨d,hx,h⟩:=ib h;obtain⟨ds,hl,h⟩:=ib h;generalize((ifs h)).1=hc;generalize((ifs h)).2=e;exact⟨d,ds,hx,hl,hc.1,hc.2.1,hc.2.2,e.symm⟩
theorem sC(y z:List Nat):(!(aeA (aB y) (aB z) 0 (aB y).length 1).isEmpty)=lJ z y:=by
 rw[aeJ,StrLaws.found_iff,sz];have sub:∀ i,abT (aB y) (aB z) i=true↔(y.drop i).take z.length=z:=fun i=>by
  unfold abT;rw[beq_iff_eq,c7];show y.toArray.extract i (i+z.length)=z.toArray↔_;rw[List.extract_toArray];have e:i+z.length-i=z.length:=by exact PD
  rw[List.extract_eq_take_drop,e];exact⟨fun h=>by simpa using congrArg Array.toList h,fun h=>by rw[h]⟩
 simp only[c7,sub]
theorem LL{P:V->Prop}{a:V}{c:Bool}(h1:∀ z y,a= .str z->lJ z y=c->P (.str y))(h2:∀ l,t4 a l=some c->P (.tup l))(h3:∀ l,t4 a l=some c->P (.lst l))(h4:∀ n ks vs l k,O[n]?=some (.dict ks vs)->a= .tup l->dC l=some k->ks.contains k=c->P (.ref n)){b:V}(h:Fz a b O=some c):P b:=by
 induction b using V.casesOn with
 | str y=>induction a using V.casesOn with
  | str z=>exact h1 z y rfl (si h)
  | _=>exact nn h
 | tup l=>exact h2 l h
 | lst l=>exact h3 l h
 | ref n =>
  unfold Fz at h;dsimp only at h;induction bF:O[n]? using aL with
  | none=>rw[bF]at h;exact nn h
  | some cc =>
   rw[bF]at h;induction cc using Cell.casesOn with
   | list l=>exact nn h
   | dict ks vs =>
    obtain⟨k,hk,e⟩:=mD h;induction a using V.casesOn with
    | tup l=>exact h4 n ks vs l k bF rfl hk e
    | _=>exact nn hk
 | _=>exact nn h
theorem Fa{xs:List (List Atom×bQ×am)}(e1:xs.map (·.1)=ks):(aaO xs kk).isSome=ks.contains kk:=by
 rw[<- e1];unfold aaO;rw[Option.isSome_map,List.contains_eq_mem];rw[aeJ,List.find?_isSome,decide_eq_true_iff,List.mem_map];constructor
 ·rintro⟨x,hx,h⟩;exact⟨x,hx,of_decide_eq_true h⟩
 ·rintro⟨x,hx,h⟩;exact⟨x,hx,decide_eq_true h⟩
theorem Fb(BO:aP B){A:bY}{a b:V}{c:Bool}{x:am}(hu:A.units<=6000)(I:Inv B envs P μ O s)
  (ra:Rep B s.heap μ (μ++P) a u) (rb:Rep B s.heap μ (μ++P) b x) (h:Fz a b O=some c) :
  ((∀ tk,Q (.bool c) { s with toks:=tk })->wpAny (cr B.prog B.w) A (Zn .In u x) Q E s)/\((∀ tk,Q (.bool (!c)) { s with toks:=tk })->wpAny (cr B.prog B.w) A (Zn .NotIn u x) Q E s):=by
 have room:∀ m n:Nat,n<=64->A.units+1+min m n<ZZ:=fun m n hd=>by
  show A.units+1+min m n<9900;exact fc (Yo (j5 hu) (bL (Zj m n) hd)) (by decide)
 refine LL (P:=fun b=>Rep B s.heap μ (μ++P) b x->((∀ tk,Q (.bool c) { s with toks:=tk })->wpAny (cr B.prog B.w) A (Zn .In u x) Q E s)/\((∀ tk,Q (.bool (!c)) { s with toks:=tk })->wpAny (cr B.prog B.w) A (Zn .NotIn u x) Q E s)) (fun z y e h' rb=>?_) (fun l h rb=>?_) (fun l h rb=>?_) (fun n ks vs l kk bF e hp h' rb=>?_) h rb
 ·subst e h';refine ab fun _ gG=>?_;obtain⟨t,rfl⟩:=c8 ra;refine gG ?_;clear gG
  refine ab fun _ gG=>?_;obtain⟨t',rfl⟩:=c8 rb;refine gG ?_;clear gG
  exact⟨fun q=>af1 (by rw[sC];exact q _),fun q=>afU (by rw[sC];exact q _)⟩
 ·refine ab fun _ gG=>?_;obtain⟨d,ds,h1,h2,h3,h4,h5,rfl⟩:=sB h;refine gG ?_;clear gG
  refine ab fun _ gG=>?_;obtain⟨as,p⟩:=eD a h1 ra;refine gG ?_;clear gG
  refine ab fun _ gG=>?_;obtain⟨bs,q⟩:=eD (.tup l) (d:=.tuple ds) (by show(V.toPys l).map _=_;rw[h2];rfl) rb;refine gG ?_;clear gG
  exact⟨fun z=>SeqAt.in_tuple_reads q p h4 h3 (room _ _ h5) (z _),fun z=>SeqAt.notIn_tuple_reads q p h4 h3 (room _ _ h5) (z _)⟩
 ·refine ab fun _ gG=>?_;obtain⟨d,ds,h1,h2,h3,h4,h5,rfl⟩:=sB h;refine gG ?_;clear gG
  refine ab fun _ gG=>?_;obtain⟨as,p⟩:=eD a h1 ra;refine gG ?_;clear gG
  refine ab fun _ gG=>?_;obtain⟨bs,q⟩:=eD (.lst l) (d:=.list ds) (by show(V.toPys l).map _=_;rw[h2];rfl) rb;refine gG ?_;clear gG
  exact⟨fun z=>SeqAt.in_list_reads q p h4 h3 (room _ _ h5) (z _),fun z=>SeqAt.notIn_list_reads q p h4 h3 (room _ _ h5) (z _)⟩
 ·subst e h';refine ab fun _ gG=>?_;obtain⟨d,rfl,hd⟩:=dU rb;refine gG ?_;clear gG
  refine ab fun _ gG=>?_;obtain⟨_,us,⟨xs,hm,e1,_⟩,_⟩:=I.cells n _ d bF hd;refine gG ?_;clear gG
  refine ab fun _ gG=>?_;obtain⟨ka,ys,rfl,na,⟨o,ho,hcl,m,eK⟩,lX⟩:=eA ra;refine gG ?_;clear gG
  generalize(⟨o,ys,m,ho,hcl,eK,k9 lX hp⟩:(bt B.prog B.w).is s.heap kk ka)=oH;generalize(Zx (by show A.units+1<9900;exact r1 ‹_›):(bt B.prog B.w).room A.in1)=m8;exact⟨fun q=>wpAny_in_heap m8 oH (jO BO I hm) hm (by rw[Fa e1];exact q _),fun q=>wpAny_notIn_heap m8 oH (jO BO I hm) hm (by rw[Fa e1];exact q _)⟩
theorem qt{f:Int->Int->Bool}{a b:V}{c:Bool}{h:ir}{w:am}(e:Ae f a b=some c)(ra:Rep B h μ X a u)(rb:Rep B h μ X b w):∃ i j t t',u= .int i t/\w= .int j t'/\f i j=c:=by
 obtain⟨i,h1,e⟩:=ib e;obtain⟨j,h2,e⟩:=mD e;obtain⟨t,e1⟩:=d4 h1 ra;obtain⟨t',e2⟩:=d4 h2 rb;exact⟨i,j,t,t',e1,e2,e⟩
theorem uY(h:isNone v=true):v= .none:=by
 induction v using V.casesOn with
 | none=>rfl
 | _=>exact nomatch h
theorem LM(BO:aP B):oV B:=by
 intro op A envs P μ O s a b c u w Q E hh hd hu I Ra Rb hv q;have here:Q (.bool c) s:=q s I (Go.refl _ _ _);have tok:∀ tk,Q (.bool c) { s with toks:=tk }:=fun tk=>q { s with toks:=tk } (I.grow (tk:=tk) (h':=s.heap) fun _ _ e=>e) (Go.refl _ _ _)
 clear q;induction op using CmpOp.casesOn with
 | Eq=>exact(E9 BO hu I Ra Rb hv).1 here
 | NotEq =>
  obtain⟨c',he,e⟩:=mD hv;exact(E9 BO hu I Ra Rb he).2 (e▸here)
 | In=>exact(Fb BO hu I Ra Rb hv).1 tok
 | NotIn =>
  obtain⟨c',he,e⟩:=mD hv;exact(Fb BO hu I Ra Rb he).2 (e▸tok)
 | Lt =>
  obtain⟨i,j,t,t',rfl,rfl,e⟩:=qt hv Ra Rb;exact ad7 (e▸here)
 | LtE =>
  induction h1:j9 a using aL with
  | none =>
   obtain⟨i,j,t,t',rfl,rfl,e⟩:=qt (f:=fun x y=>decide (x<=y)) (by rw[<- hv];show _=match j9 a with|none=>_|some x=>_;rw[h1]) Ra Rb;exact PySem.P.le_int (e▸here)
  | some x =>
   obtain⟨y,h2,e⟩:=mD (show(j9 b).map (fun y=>pL x y)=some c by rw[<- hv];show _=match j9 a with|none=>_|some x=>_;rw[h1]);obtain⟨t,rfl⟩:=q9 h1 Ra;obtain⟨t',rfl⟩:=q9 h2 Rb;refine PySem.P.le_str ?_;rw[show(!(decide ((aB y).cps.toList<(aB x).cps.toList)))=pL x y by rw[<- y4 x y],e];exact here
 | Gt =>
  obtain⟨i,j,t,t',rfl,rfl,e⟩:=qt hv Ra Rb;exact PySem.P.gt_int (e▸here)
 | GtE =>
  obtain⟨i,j,t,t',rfl,rfl,e⟩:=qt hv Ra Rb;exact PySem.P.ge_int (e▸here)
 | Is =>
  obtain⟨h0,e⟩:=ifs hv;cases uY h0
  obtain rfl:=iS Rb;obtain⟨h1,h2⟩:=qq Ra;refine wpAny_is_plain h1 ?_;rw[h2,e];exact here
 | IsNot =>
  obtain⟨h0,e⟩:=ifs hv;cases uY h0
  obtain rfl:=iS Rb;obtain⟨h1,h2⟩:=qq Ra;refine wpAny_isNot_plain h1 ?_;rw[h2,e];exact here
section
set_option backward.match.sparseCases true
section
theorem Inv.setk(x:Inv B envs P μ O s){c:Cell}(ha:μ[i]?=some a)(kp:∀ b o,b≠a->s.heap.get? b=some o->h'.get? b=some o)(he:∃ o,h'.get? a=some o)(hc:CellAt B h' μ (μ++P) c a) :
  Inv B envs P μ (fY O i c) { s with heap:=h',toks:=tk }/\Go μ [] s.heap h':=by
 have hm:a∈μ:=fU ha;have kX:Kp (μ++P) s.heap h':=fun b o e m=>kp b o (fun q=>m (q▸bo _ hm)) e
 refine⟨⟨fun b o e=>kp b o (fun q=>by rw[q,x.new a (bo _ hm)]at e;exact nn e) (x.stays b o e),x.gens,x.os,x.new,fun b m=>?_,x.nodup,x.apart,by simp[fY,x.len],fun j c' b h1 h2=>?_,fun e to=>?_⟩,⟨fun b o e n1 _=>kp b o (fun q=>n1 (q▸hm)) e,fun b o e=>?_⟩⟩
 ·by_cases q:b=a
  ·subst q;exact he
  ·obtain⟨o,e⟩:=x.dom b m;exact⟨o,kp b o q e⟩
 ·unfold fY at h1;by_cases hij:i=j
  ·subst hij;have hlt:i<O.length:=by rw[<- x.len];exact(iQ ha).1
   rw[abb hlt]at h1;rw[ha]at h2;obtain rfl:=si h1;obtain rfl:=si h2
   exact hc
  ·rw[abH hij]at h1;have Oe:b≠a:=fun q=>hij (by
    have h3:=iQ ha;have h4:=iQ h2;exact(ael x.nodup).mp (h3.2.trans (q▸h4.2.symm)))
   exact(x.cells j c' b h1 h2).move kX (fun o e=>kp b o Oe e) (fun _ _ e=>e) fun _ m=>.inl m
 ·refine ab fun _ gG=>?_;obtain⟨iV,L,h1,h2,o,es,n,ho,hd⟩:=x.frs e to;refine gG ?_;clear gG
  exact⟨iV,L,h1,h2,o,es,n,kp L o (fun q=>x.apart a hm (q▸h2)) ho,hd⟩
 ·by_cases q:b=a
  ·subst q;exact he
  ·exact⟨o,kp b o q e⟩
theorem jP{h:ir}(f:Array am->Array am)(x:aav h a xs):aav (h.update a (YN f)) a (f xs):=by
 obtain⟨o,n,ho,hc,hd,eK⟩:=x;obtain⟨n',gx⟩:=Obj.data_mapSeq eK f;refine⟨_,n',Yv _ ho (Obj.isFreed_of_seq gx),(Obj.cls_mapSeq ..).trans hc,?_,gx⟩;obtain⟨c,d,dt,sl⟩:=o;simp only at eK hd;subst eK hd
 rfl
variable{A:bY}
theorem pd{f:Array am->Array am}{Q:Unit->aO->Prop}(x:aav s.heap a xs)(hz:xs.size<=lH)(wD:(f xs).size<=lH+1)
  (h:∀ h',aav h' a (f xs)->fq a s.heap h'->Q () { s with heap:=h' }):wpAny M A (updateSeq a f) Q E s:=by
 refine ab fun _ gG=>?_;obtain⟨o,n,ho,hc,hd,eK⟩:=id x;refine gG ?_;clear gG
 exact wpAny_updateSeq (hz:=hz) (_hz':=wD) ho eK (h _ (jP f x) (j7 ..))
theorem Gv(hh:A.handled=none){S:bQ}(Dy:S≠I){Je:am} : ∀ (k:Nat) (lo:Int) {s:aO} {acc:Array am} {R:abf->aO->Prop},abc s.heap I lo k 1->aav s.heap S acc->acc.size+k<=lH ->
  (∀ h' tk vs,(∀ b o,b≠S->b≠I->s.heap.get? b=some o->h'.get? b=some o)->aav h' S (acc++vs.toArray)->(∀ (B:bw) h μ X,Reps B h μ X (bc lo k) vs)->R (.ok (.ret Je)) { s with heap:=h',toks:=tk }) ->
  codeAny (cr prog w) A (.builtin "list.extend.loop" ⟨[.ref S,.ref I,Je],[]⟩) R s:=by
 intro k;induction k with
 | zero =>
  intro lo s acc R hit hS hz hR;refine Zc aen ?_;rw[YQ ZQ _];show wpAny _ A.in1 (Z4 (.ref I)>>=_) _ _ s;refine aa (wpAny_pyNext_range_end (A:=A.in1) hh hit (by simp) fun h' cC=>?_);refine ae (hR h' s.toks [] (fun b o _ hb e=>cC b o hb e) ?_ fun B h μ X=>z0);simpa using hS.extBut cC Dy
 | succ k ih =>
  intro lo s acc R hit hS hz hR;refine Zc aen ?_;rw[YQ ZQ _];show wpAny _ A.in1 (Z4 (.ref I)>>=_) _ _ s;refine aa (wpAny_pyNext_range_item (A:=A.in1) hit (Int.ofNat_lt.mpr (adu _)) fun h' pY cC=>?_);generalize(hS.extBut cC.extBut Dy)=Vp;show wpAny _ A.in1 (updateSeq S (·.push _)>>=_) _ _ _;refine aa (pd Vp (by exact RZ ‹_›) (by rw[aao];exact Sb ‹_›) fun wv Td jI=>?_);have Op:abc wv I (lo+1) (k:Int) 1:=by
   have e:((k+1:Nat):Int)-1=k:=by exact MM
   rw[e]at pY;exact jI.extBut I _ (Ne.symm Dy) pY
  refine ae ⟨ZX ZQ _,ih (lo+1) Op Td (by rw[aao];exact HF ‹_›) fun h3 tk vs hk hp hv=>?_⟩;have e:acc.push (.int lo s.toks)++vs.toArray=acc++(Value.int lo s.toks::vs).toArray:=by
   apply Array.toList_inj.mp;simp
  rw[e]at hp;exact hR h3 tk (.int lo s.toks::vs) (fun b o b1 b2 eq=>hk b o b1 b2 (jI.extBut b o b1 (cC.extBut b o b2 eq))) hp fun B h μ X=>by
   show Exists _;exact⟨_,_,rfl,zI,hv B h μ X⟩
theorem Dz{S r:bQ}{lo hi:Int}{t1 t2 t3:BY}{acc:Array am}(hh:A.handled=none)(hr:IsRange s.heap r lo hi 1 t1 t2 t3)(hp:aav s.heap S acc)(b1:lo<2 ^ 31)(b2:-(2 ^ 31)<lo)(b3:hi<2 ^ 31)(b4:-(2 ^ 31)<hi)
  (hz:acc.size+(hi-lo).toNat<=ai)
  (hR:∀ h' tk vs,(∀ b o,b≠S->s.heap.get? b=some o->h'.get? b=some o)->aav h' S (acc++vs.toArray)->(∀ (B:bw) h μ X,Reps B h μ X (bc lo (hi-lo).toNat) vs)->Q .none { s with heap:=h',toks:=tk }) :
  wpAny (cr prog w) A (call (.builtin "list.extend") [.ref S,.ref r] []) Q E s:=by
 generalize(hp.isList.typeIs:s.TypeIs (.ref S) "list")=hT;have Vq:S≠r:=fun e=>by
  obtain⟨o,n,ho,hc,_⟩:=hp;rw[e,hr]at ho;obtain rfl:=si ho
  simp at hc
 have bk:ai<=lH:=by decide
 generalize(bL hz bk:acc.size+(hi-lo).toNat<=lH)=Fc;generalize(small_one (by exact KW ‹_›) (by exact KU ‹_›) (by exact KW ‹_›) (by exact KU ‹_›):afK lo hi 1=true)=LN;have hn:Yu lo hi 1=((hi-lo).toNat:Nat):=by
  unfold Yu;simp;exact sv
 have Oq:ai<=2 ^ 24:=by decide
 have ck:(hi-lo).toNat<=2 ^ 24:=bL (bL (abp _ _) hz) Oq;have Te:S<s.heap.objs.size:=by obtain⟨o,n,ho,_⟩:=hp;exact cR ho
 generalize(jr Te:S≠s.heap.objs.size)=Dy;have key:∀ (h:ir) (tk:Nat),abc h s.heap.objs.size lo ((hi-lo).toNat:Nat) 1->(∀ b o,b≠S->s.heap.get? b=some o->h.get? b=some o)->aav h S acc ->
   codeAny (cr prog w) A (.builtin "list.extend.loop" ⟨[.ref S,.ref s.heap.objs.size,.none],[]⟩) (fun r s'=>match r with | .ok (.ret v)=>Q v s' | .ok _=>False | .error e=>E e s') { s with heap:=h,toks:=tk }:=by
  intro h tk hit hk qn;refine Gv hh Dy _ lo hit qn Fc fun h' AJ vs iV Tf hv=>?_;exact hR h' AJ vs (fun b o hb e=>iV b o hb (jr (cR e)) (hk b o hb e)) Tf hv
 refine ZK (Ze PySem.F.slot_list_extend.plain PySem.F.entry_list_extend (PySem.F.slot_list_extend.check _ _ _ _ _ _ _ _ hT (PySem.F.args_list_extend_2 _ _) ?_));show wpAny _ A.in1 (aaa (.ref S) (.ref r) .none) _ _ s;unfold aaa;refine aa (aaQ (T:="range") ⟨_,hr,rfl⟩ ?_);have h1:acm (.ref S) (.ref r)=false:=by simp[acm,Vq]
 have h2:(aaE "range"==aaE "list")=false:=by decide
 have h3:(aaE "range"==aaE "tuple")=false:=by decide
 simp only[h1,h2,h3,ae5,Y1,if_false];refine aa (aeT hr LN ?_);refine aa (eG (wpAny_hint_range (n:=(hi-lo).toNat) (ag _ hr) hn ck ?_));have tQ:abc (s.heap.push { cls:=.type "range_iterator",data:=.fields #[rawInt lo,rawInt (Yu lo hi 1),rawInt 1] }) s.heap.objs.size lo ((hi-lo).toNat:Nat) 1:=by
  show abc _ _ _ _ _;rw[hn];exact ct _ rfl
 have Jf:aav (s.heap.push { cls:=.type "range_iterator",data:=.fields #[rawInt lo,rawInt (Yu lo hi 1),rawInt 1] }) S acc:=hp.keeps fun _ _ e=>ag _ e
 refine afL (fun _=>?_) (fun _=>ae ⟨ZX ZQ _,key _ _ tQ (fun b o _ e=>ag _ e) Jf⟩);refine aa (aar ?_);refine aa ?_;show wpAny _ _ (updateSeq S (·.push .none)>>=fun _=>updateSeq S (·.pop)) _ _ _;refine aa (pd Jf (bL (ef _ _) Fc) (by rw[aao];exact j5 (bL (ef _ _) Fc)) fun bi Ot hs₂=>?_);refine pd Ot ?_ (by simp;exact acp (bL (ef _ _) Fc)) fun eJ Jg d3=>?_
 ·have:acc.size+1<=lH:=by
   have:ai+1<=lH:=by decide
   exact Sz ‹_› ‹_›
  simpa using this
 have e:(acc.push Yr).pop=acc:=by simp
 rw[e]at Jg;refine ae ⟨ZX ZQ _,key _ _ ?_ (fun b o hb e=>d3.extBut b o hb (hs₂.extBut b o hb (ag _ e))) Jg⟩;exact d3.extBut _ _ (Ne.symm Dy) (hs₂.extBut _ _ (Ne.symm Dy) tQ)
theorem m9:∀ {l m:List V},V.cleans l=true->V.cleans m=true->V.cleans (l++m)=true
 | [],_,_,h=>h
 | x::l,m,h1,h2=>by
  simp only[V.cleans,aem,gT]at h1 ⊢;exact⟨h1.1,m9 h1.2 h2⟩
theorem LO:IE B:=by
 intro A envs P μ O ar s a u r lo hi t1 t2 t3 Q E hh hd hu I Ra hr Xx b1 b2 b3 b4 h q;unfold gW at h;induction a using V.casesOn with
 | ref i =>
  replace Ra:=dU Ra;obtain⟨c,rfl,hc⟩:=Ra;induction bF:O[i]? using aL with
  | none=>dsimp only at h;rw[bF]at h;exact nn h
  | some cl =>
   induction cl using Cell.casesOn with
   | dict ks vs=>dsimp only at h;rw[bF]at h;exact nn h
   | list l =>
    dsimp only at h;rw[bF]at h;dsimp only at h
    by_cases bk:l.length+(bc lo (hi-lo).toNat).length<=ai/\V.cleans (bc lo (hi-lo).toNat)=true
    ·rw[if_pos bk]at h;obtain rfl:=si h;obtain⟨hcl,xs,hp,LK⟩:=I.cells i _ c bF hc;have ck:xs.size=l.length:=by have:=LK.length;simpa using this
     have Vr:∀ (n:Nat) (lo:Int),(bc lo n).length=n:=by
      intro n;induction n with
      | zero=>intro lo;rfl
      | succ n ih=>intro lo;simp[bc,ih]
     refine Dz hh hr hp b1 b2 b3 b4 (by rw[ck,<- Vr (hi-lo).toNat lo];exact bk.1) fun h' tk vs hk qn hv=>?_;generalize(fU hc:c∈μ)=hm;generalize(fun b o e m=>hk b o (fun q=>m (q▸bo _ hm)) e:Kp (μ++P) s.heap h')=kX;obtain⟨I',g'⟩:=I.setk (tk:=tk) hc hk (by obtain⟨o,_,e,_⟩:=qn;exact⟨o,e⟩) (c:=.list (l++bc lo (hi-lo).toNat)) ⟨m9 hcl bk.2,xs++vs.toArray,qn,by
      rw[show(xs++vs.toArray).toList=xs.toList++vs by simp];exact(Reps.move l LK kX (fun _ _ e=>e) fun _ m=>.inl m).append' (hv B h' μ (μ++P))⟩
     exact q _ I' g'
    ·rw[if_neg bk]at h;exact nn h
 | _=>exact nn h
theorem Gw{l:bQ}{k:Int}{t:BY}{v:am}{Q:Unit->aO->Prop}(hl:aav s.heap l items)
  (h0:0<=k) (Nl:k<2 ^ 63) (hn:k<items.size)
  (hQ:∀ h',aav h' l (items.setIfInBounds k.toNat v)->fq l s.heap h'->Q () { s with heap:=h' }) :
  wpAny (cr prog w) A (afb (.ref l) (.int k t) v) Q E s:=by
 obtain⟨o,ne,ho,hc,Tg,hd⟩:=id hl;generalize(hl.isList.typeIs (s:=s))=hT;unfold afb;try with_reducible refine eG ?_
 refine aa (ae8 hT (by decide) ?_);refine aa (Yp (name:=ac "__setitem__") hT afa
  (Ys afa hT entry_list_setitem ?_ (args_list_setitem _ _ _)))
 show wpAny _ _ (agb (.int k t)>>=_) _ _ s;refine aa (wpAny_listSubscript_int (fitsIndex_of h0 Nl) ?_);clear Nl;obtain⟨j,rfl⟩:=Int.eq_ofNat_of_zero_le h0;have hj:j<items.size:=by exact PH ‹_›
 generalize(Y5 hj:items[j]?=some items[j])=Ge;show wpAny _ _ ((seqItemAt l j>>=fun r=>pure (r.map (j,·)))>>=_) _ _ s;refine aa (aa (wpAny_seqItemAt ho hd (ae ?_)));rw[Ge];show wpAny _ _ (setSeqItemAt l j v>>=_) _ _ s;refine aa (wpAny_setSeqItemAt ho hd ?_);first
  | exact aa (ae (ae ⟨.none,rfl,ae (hQ _ (jP _ hl) (j7 ..))⟩))
  | exact ae ⟨.none,rfl,ae (hQ _ (jP _ hl) (j7 ..))⟩
theorem sD:∀ {l:List V} {k:Nat} {v:V},V.cleans l=true->V.clean v=true->V.cleans (l.set k v)=true
 | [],_,_,h,_=>h
 | x::l,0,v,h,hv=>by
  simp only[V.cleans,List.set_cons_zero,gT]at h ⊢;exact⟨hv,h.2⟩
 | x::l,k+1,v,h,hv=>by
  simp only[V.cleans,List.set_cons_succ,gT]at h ⊢;exact⟨h.1,sD h.2 hv⟩
theorem Reps.set'{h:ir}{μ X:List bQ} : ∀ {l:List V} {us:List am} {k:Nat} {v:V} {u:am},Reps B h μ X l us->Rep B h μ X v u->Reps B h μ X (l.set k v) (us.set k u)
 | [],us,k,v,u,r,_=>by obtain rfl:=b8 r;exact z0
 | x::l,us,k,v,u,r,rv=>by
  replace r:=ba r;obtain⟨y,q,rfl,r1,r2⟩:=r;induction k using ZU with
  | zero=>show Exists _;exact⟨u,q,rfl,rv,r2⟩
  | succ k=>show Exists _;exact⟨y,q.set k u,rfl,r1,Reps.set' r2 rv⟩
end
end
theorem qu{h:ir}(r:Rep B h μ X (.tup l) u)(hp:dC l=some kk):∃ ka,u= .ref ka/\(ka∉X/\Ad h ka)/\(bt B.prog B.w).is h kk ka:=by
 refine ab fun _ gG=>?_;obtain⟨ka,ys,rfl,na,⟨o,m,ho,hcl,oj,eK⟩,lX⟩:=iR r;refine gG ?_;clear gG
 exact⟨ka,rfl,⟨na,o,ho,oj⟩,o,ys,m,ho,hcl,eK,k9 lX hp⟩
theorem lZ{q k:List Atom}{u:V} : gq (q::ks) (u::vs) k v=if q=k then(q::ks,v::vs)else(q::(gq ks vs k v).1,u::(gq ks vs k v).2):=rfl
theorem qw{h:ir}{μ X:List bQ}{kk:List Atom}{v:V}{x:am}{ka:bQ}(rv:Rep B h μ X v x):∀ {xs:List (List Atom×bQ×am)} {ks:List (List Atom)} {vs:List V} {us:List am},xs.map (·.1)=ks->xs.map (·.2.2)=us->(xs.map (·.1)).Nodup->Reps B h μ X vs us ->
  (acI xs kk ka x).map (·.1)=(gq ks vs kk v).1/\Reps B h μ X (gq ks vs kk v).2 ((acI xs kk ka x).map (·.2.2))
 | [],ks,vs,us,e1,e3,_,hr=>by
  subst e1 e3;induction vs using cz with
  | nil=>exact⟨rfl,z1 rv⟩
  | cons _ _=>replace hr:=ba hr;obtain⟨_,_,e,_⟩:=hr;cases e
 | y::xs,ks,vs,us,e1,e3,hn,hr=>by
  subst e1 e3;induction vs using cz with
  | nil=>replace hr:=b8 hr;cases hr
  | cons v0 vs =>
   replace hr:=ba hr;refine ab fun _ gG=>?_;obtain⟨u,q,e,r1,r2⟩:=hr;refine gG ?_;clear gG
   cases e
   rw[kR,List.nodup_cons]at hn;by_cases hk:y.1=kk
   ·have h1:acI (y::xs) kk ka x=(y.1,y.2.1,x)::xs:=by
     have hs:(aaO (y::xs) kk).isSome=true:=by simp[aaO,hk]
     unfold acI;rw[if_pos hs,kR,map_putAt_of_not_mem xs kk x (by rw[<- hk];exact hn.1)];simp[putAt,hk]
    rw[h1];simp only[kR,lZ,if_pos hk];exact⟨by simp,zC rv r2⟩
   ·generalize((qw (ka:=ka) (kk:=kk) rv (xs:=xs) rfl rfl hn.2 r2)).1=h2;generalize((qw (ka:=ka) (kk:=kk) rv (xs:=xs) rfl rfl hn.2 r2)).2=h3;have h1:acI (y::xs) kk ka x=y::acI xs kk ka x:=by
     have hs:aaO (y::xs) kk=aaO xs kk:=by simp[aaO,hk]
     unfold acI;rw[hs];split
     ·rw[kR];simp[putAt,hk]
     ·rfl
    rw[h1];simp only[kR,lZ,if_neg hk];exact⟨by rw[h2],zC r1 h3⟩
theorem sE:∀ {ks:List (List Atom)} {vs:List V} {kk:List Atom} {v:V},V.cleans vs=true->V.clean v=true->V.cleans (gq ks vs kk v).2=true
 | [],vs,kk,v,_,hv=>HD ⟨hv,rfl⟩
 | _::ks,[],kk,v,_,hv=>rfl
 | q::ks,u::vs,kk,v,h,hv=>by
  have h:=bM (show(V.clean u&&V.cleans vs)=true from h);rw[lZ];by_cases hk:q=kk
  ·rw[if_pos hk];exact HD ⟨hv,h.2⟩
  ·rw[if_neg hk];exact HD ⟨h.1,sE h.2 hv⟩
theorem LP:ID B:=by
 intro A envs P μ O ar s a b v u w x Q E hh hd hu I Ra Rb Rv h q;unfold cW at h;by_cases LQ:V.clean v=true
 ·rw[if_pos LQ]at h;induction a using V.casesOn with
  | ref n =>
   replace Ra:=dU Ra;refine ab fun _ gG=>?_;obtain⟨c,rfl,hc⟩:=Ra;refine gG ?_;clear gG
   have hm:c∈μ:=fU hc;induction b using V.casesOn with
   | int k =>
    obtain⟨t,rfl⟩:=dS Rb;induction bF:O[n]? using aL with
    | none=>simp only[bF]at h;exact nn h
    | some cl =>
     induction cl using Cell.casesOn with
     | dict ks vs=>simp only[bF]at h;exact nn h
     | list l =>
      simp only[bF]at h;by_cases hk:0<=k/\k<2 ^ 62/\k.toNat<l.length
      ·rw[if_pos hk]at h;obtain rfl:=si h;refine ab fun _ gG=>?_;obtain⟨hcl,xs,hp,hr⟩:=I.cells n _ c bF hc;refine gG ?_;clear gG
       have ck:xs.size=l.length:=by have:=hr.length;simpa using this
       refine Gw hp hk.1 (by exact Sq ‹_›) (sj hk ck) fun h' qn cC=>?_;have kX:Kp (μ++P) s.heap h':=Kp.of_same cC (bo _ hm);obtain⟨I',g'⟩:=I.setc (tk:=s.toks) hc cC (by obtain⟨o,_,e,_⟩:=qn;exact⟨o,e⟩) (c:=.list (l.set k.toNat v)) ⟨sD hcl LQ,xs.setIfInBounds k.toNat x,qn,by
        rw[Array.toList_setIfInBounds];exact(Reps.move l hr kX (fun _ _ e=>e) fun _ m=>.inl m).set' (Rep.move v Rv kX (fun _ _ e=>e) fun _ m=>.inl m)⟩
       exact q _ I' g'
      ·rw[if_neg hk]at h;exact nn h
   | tup p =>
    induction bF:O[n]? using aL with
    | none=>simp only[bF]at h;exact nn h
    | some cl =>
     induction cl using Cell.casesOn with
     | list l=>simp only[bF]at h;exact nn h
     | dict ks vs =>
      induction hp:dC p using aL with
      | none=>simp only[bF,hp]at h;exact nn h
      | some kk =>
       simp only[bF,hp]at h;by_cases hk:ks.length<=ai
       ·rw[if_pos hk]at h;obtain rfl:=si h;refine ab fun _ gG=>?_;obtain⟨hcl,us,⟨xs,hdm,e1,e2,e3⟩,hr⟩:=I.cells n _ c bF hc;refine gG ?_;clear gG
        refine ab fun _ gG=>?_;obtain⟨ka,rfl,Ou,oH⟩:=qu Rb hp;refine gG ?_;clear gG
        have m8:(bt B.prog B.w).room A.in1:=Zx (by show A.units+1<9900;exact r1 ‹_›);have Th:xs.length=ks.length:=by rw[<- e1,bR]
        have Vs:ai<=lH:=by decide
        refine wpAny_setItem_heap m8 oH hdm (fun h' Nm cC=>?_) (by lia);have kX:Kp (μ++P) s.heap h':=Kp.of_same cC (bo _ hm);have iX:(xs.map (·.1)).Nodup:=by obtain⟨_,_,_,_,_,_,_,_,hn⟩:=hdm;exact hn
        generalize((qw (ka:=ka) (kk:=kk) (Rep.move v Rv kX (fun _ _ e=>e) fun _ m=>.inl m) e1 e3 iX (Reps.move vs hr kX (fun _ _ e=>e) fun _ m=>.inl m))).1=p1;generalize((qw (ka:=ka) (kk:=kk) (Rep.move v Rv kX (fun _ _ e=>e) fun _ m=>.inl m) e1 e3 iX (Reps.move vs hr kX (fun _ _ e=>e) fun _ m=>.inl m))).2=p2;obtain⟨I',g'⟩:=I.setc (tk:=s.toks+(bt B.prog B.w).draws kk) hc cC (by obtain⟨o,_,_,e,_⟩:=Nm;exact⟨o,e⟩) (c:=.dict (gq ks vs kk v).1 (gq ks vs kk v).2) ⟨sE hcl LQ,_,⟨_,Nm,p1,fun y hy=>by
         rcases mem_storedH hy with⟨z,hz,_,e⟩|⟨_,e⟩
         ·rw[e];obtain⟨Jh,ob,hb,hbd⟩:=e2 z hz;exact⟨Jh,ob,kX _ _ hb Jh,hbd⟩
         ·rw[e];obtain⟨Jh,ob,hb,hbd⟩:=Ou;exact⟨Jh,ob,kX _ _ hb Jh,hbd⟩,rfl⟩,p2⟩
        exact q _ I' g'
       ·rw[if_neg hk]at h;exact nn h
   | _=>exact nn h
  | _=>exact nn h
 ·rw[if_neg LQ]at h;exact nn h
section
set_option backward.match.sparseCases true
theorem uZ:entryFor table "dict.update.loop"=some Builtin.«dict.update.loop»:=entryFor_of_tree (by rfl')
theorem jv:plainId "dict.update.loop"=true:=by decide +kernel
theorem rg:acx (.type "tuple") "keys"=pure none:=am_miss_of_fast (by rfl')
section
variable{A:bY}
set_option maxRecDepth 8000 in
theorem Ji{Q:Option am->aO->Prop}(hp:PlainT s.heap a xs)(hA:A.handled=none)
  (h:∀ h' tk,(∀ b o,s.heap.get? b=some o->h'.get? b=some o)->Q none { s with heap:=h',toks:=tk }) :
  wpAny (cr prog w) A (getAttr? (.ref a) "keys") Q E s:=by
 refine ab fun _ gG=>?_;obtain⟨o,k,hx,hc,hd,Fd⟩:=hp;refine gG ?_;clear gG
 refine ab fun _ gG=>?_;obtain⟨c,dct,Xy,sl⟩:=o;refine gG ?_;clear gG
 simp only at hc Fd hd;subst hc Fd hd;refine ab fun _ gG=>?_;obtain⟨hp,g,d,tk,os⟩:=s;refine gG ?_;clear gG
 generalize(fun _=>⟨_,hx,rfl⟩:∀ AJ,(⟨hp,g,d,AJ,os⟩:aO).TypeIs (.ref a) "tuple")=hT;generalize(sub_AttributeError)=f1;generalize(F.slot_tuple_getattribute.lookup)=f3;generalize(F.slot_tuple_getattribute.bind (.ref a))=f4;generalize(am_tuple_getattr_none)=f5;generalize(rg)=Ov;have Ow:(["__module__","__name__","__qualname__","__doc__","__annotations__"]:List fw).contains "keys"=false:=by decide +kernel
 have hsz:Str.length "keys" + 100<=lH:=by decide +kernel
 unfold getAttr? getAttrBy? getAttrBy;repeat (any_goals (first|assumption|exact hT _|((with_reducible show wpAny _ _ (call (abR "tuple.__getattribute__") _ _) _ _ _);refine adr F.slot_tuple_getattribute (hT _) am_entry_tuple_getattribute (F.args_tuple_getattribute_2 _ _) (meets_getattribute_miss_tuple a xs k sl "keys" _ Ov Ow hsz) ⟨hx,hA,fun h' AJ e Ge=>?_⟩)|wp_step))
 refine ab fun _ gG=>?_;obtain⟨t',u',he⟩:=Ge.there;refine gG ?_;clear gG
 show wpAny _ _ (ae1 _ _ _ _ _ _ _) _ _ _;unfold ae1;repeat (any_goals (first|assumption|wp_step))
 exact h _ _ Ge.keeps
end
section
variable{A:bY}
theorem Bf{us:List V}(h:cU (v::l)=some (ks,us)):∃ p u kk d1 oh,v= .tup [.tup p,u]/\dC p=some kk/\cU l=some (d1,oh)/\ks=kk::d1/\us=u::oh:=by
 induction v using V.casesOn with
 | tup q =>
  match q with
  | [k,u] =>
   have h:((fg k).bind fun k=>(cU l).map fun q=>(k::q.1,u::q.2))=some (ks,us):=h;induction hk:fg k using aL with
   | none=>rw[hk]at h;exact nn h
   | some kk =>
    induction k using V.casesOn with
    | tup p =>
     induction hl:cU l using aL with
     | none=>rw[hk,hl]at h;exact nn h
     | some r =>
      rw[hk,hl]at h;cases h
      exact⟨p,u,kk,r.1,r.2,rfl,hk,rfl,rfl,rfl⟩
    | _=>exact nn hk
  | []=>exact nn h
  | [_]=>exact nn h
  | _::_::_::_=>exact nn h
 | _=>exact nn h
theorem Jj{xs:List (List Atom×bQ×am)}(h:kk∉xs.map (·.1)):aaO xs kk=none:=by
 unfold aaO;rw[Option.map_eq_none_iff,List.find?_eq_none];intro x hx e;exact h (List.mem_map.mpr ⟨x,hx,of_decide_eq_true e⟩)
theorem l0{l:List α}{a:α}{r:List α}(h:l.drop n=a::r):l[n]?=some a/\l.drop (n+1)=r:=by
 constructor
 ·rw[<- List.head?_drop,h];rfl
 ·rw[<- List.tail_drop,h];rfl
theorem DA(hh:A.handled=none)(m8:(bt B.prog B.w).room A.in1){t:bQ}{Je:am}(Jk:d≠it)(Ti:t≠it)(Vt:t≠d)(Oa:h₀.get? d=none)(DB:h₀.get? it=none) :
  ∀ (l:List V) (i:Nat) {s:aO} {xs:List (List Atom×bQ×am)} {ks:List (List Atom)} {us:List V} {R:abf->aO->Prop},s.heap.IsTupleIter it t i->s.heap.IsTuple t items->s.heap.DictOfH (bt B.prog B.w) d xs->Reps B h₀ μ X l (items.toList.drop i) ->
   (∀ b o,h₀.get? b=some o->s.heap.get? b=some o)->cU l=some (ks,us)->(xs.map (·.1)++ks).Nodup->xs.length+l.length<=lH ->
   (∀ h' tk ys,(∀ b o,h₀.get? b=some o->h'.get? b=some o)->h'.DictOfH (bt B.prog B.w) d (xs++ys)->ys.map (·.1)=ks->(∀ y∈ys,y.2.1∉X/\Ad h₀ y.2.1)->Reps B h₀ μ X us (ys.map (·.2.2))->R (.ok (.ret Je)) { s with heap:=h',toks:=tk }) ->
   codeAny (cr B.prog B.w) A (.builtin "dict.update.loop" ⟨[.ref d,.ref it,rawInt i,Je],[]⟩) R s:=by
 intro l;induction l with
 | nil =>
  intro i s xs ks us R hit ht hm hr hk hp hn hz hR;replace hr:=b8 hr;cases hp
  refine Zc uZ ?_;rw[YQ jv _];show wpAny _ A.in1 (Z4 (.ref it)>>=_) _ _ s;have hx:items[i]?=none:=by
   rw[<- Zt];have:=List.drop_eq_nil_iff.mp hr;exact Zv this
  refine aa (wpAny_pyNext_tuple_end (A:=A.in1) hh hit ht hx fun h' cC=>?_);have k':∀ b o,h₀.get? b=some o->h'.get? b=some o:=fun b o e=>cC b o (fun q=>by rw[q,DB]at e;exact nn e) (hk b o e)
  refine aa (ae (ae ?_));refine hR h' s.toks [] k' ?_ rfl (fun y hy=>by cases hy) z0;rw[bP];refine ab fun _ gG=>?_;obtain⟨o,es,ep,ho,hc,eK,he,Ox,yI⟩:=hm;refine gG ?_;clear gG
  refine⟨o,es,ep,cC d o Jk ho,hc,eK,he,fun x hx=>?_,yI⟩;refine ab fun _ gG=>?_;obtain⟨o',qx,n,fe,r⟩:=Ox x hx;refine gG ?_;clear gG
  refine⟨o',qx,n,cC _ _ (fun q=>?_) fe,r⟩;refine ab fun _ gG=>?_;obtain⟨oi,Oy,Oz,_⟩:=hit;refine gG ?_;clear gG
  rw[q,Oy]at fe;obtain rfl:=si fe;rw[Oz]at r;simp at r
 | cons v l ih =>
  intro i s xs ks us R hit ht hm hr hk hp hn hz hR;refine ab fun _ gG=>?_;obtain⟨p,u,kk,d1,oh,rfl,Vu,qn,rfl,rfl⟩:=Bf hp;refine gG ?_;clear gG
  replace hr:=ba hr;refine ab fun _ gG=>?_;obtain⟨w,rest,e,Vv,OA⟩:=hr;refine gG ?_;clear gG
  refine ab fun _ gG=>?_;generalize((l0 e)).1=hx;generalize((l0 e)).2=q8;refine gG ?_;clear gG
  refine ab fun _ gG=>?_;obtain⟨pa,ti,rfl,Xz,Jl,hits⟩:=eA Vv;refine gG ?_;clear gG
  refine ab fun _ gG=>?_;obtain⟨uk,uv,Tj,rk,ru⟩:=uD hits;refine gG ?_;clear gG
  refine ab fun _ gG=>?_;obtain⟨ka,rfl,Ou,oH⟩:=qu rk Vu;refine gG ?_;clear gG
  refine Zc uZ ?_;rw[YQ jv _];show wpAny _ A.in1 (Z4 (.ref it)>>=_) _ _ s;refine aa (wpAny_pyNext_tuple_item hit ht (by rw[<- Zt];exact hx) fun aF tQ gy=>?_);have k₁:∀ b o,h₀.get? b=some o->aF.get? b=some o:=fun b o e=>gy.extBut b o (fun q=>by rw[q,DB]at e;exact nn e) (hk b o e)
  have qy:aF.IsTuple pa ti:=Jl.at fun o e=>k₁ pa o e
  have Jm:(bt B.prog B.w).is aF kk ka:=by
   refine ab fun _ gG=>?_;obtain⟨o',qx,n,fe,r⟩:=oH;refine gG ?_;clear gG
   exact⟨o',qx,n,k₁ _ _ fe,r⟩
  have OB:aF.DictOfH (bt B.prog B.w) d xs:=by
   refine ab fun _ gG=>?_;obtain⟨o,es,ep,ho,hc,eK,he,Ox,yI⟩:=hm;refine gG ?_;clear gG
   refine⟨o,es,ep,gy.extBut d o Jk ho,hc,eK,he,fun x hx=>?_,yI⟩;refine ab fun _ gG=>?_;obtain⟨o',qx,n,fe,r⟩:=Ox x hx;refine gG ?_;clear gG
   refine⟨o',qx,n,gy.extBut _ _ (fun q=>?_) fe,r⟩;refine ab fun _ gG=>?_;obtain⟨oi,Oy,Oz,_⟩:=hit;refine gG ?_;clear gG
   rw[q,Oy]at fe;obtain rfl:=si fe;rw[Oz]at r;simp at r
  refine ab fun _ gG=>?_;obtain⟨op,K1,Vw,np,Vx⟩:=id qy;refine gG ?_;clear gG
  dsimp only;refine aa (eG (aa (wpAny_tryCatch ?_)));unfold agd;refine aa (aaQ (T:="tuple") ⟨op,K1,Vw⟩ ?_);rw[if_pos (by decide)];refine aa ?_;unfold Za;refine aa (abJ K1 ?_);rw[Vx];refine ae (ae ?_);show wpAny _ _ (match ti.toList with | [k,v]=>_|_=>_) _ _ _;rw[Tj];have Vy:kk∉xs.map (·.1):=fun m=>by
   rw[aaU]at hn;exact hn.2.2 kk m kk (aW) rfl
  have Th:xs.length<=lH:=by simp only[cx]at hz;exact Fx ‹_›
  refine eG (aeU (s:={ s with heap:=aF }) m8 Jm OB (fun bi y6 hs₂=>?_) Th);rw[storedH_new (Jj Vy)]at y6;have hs₂:fq d aF bi:=hs₂;have k₂:∀ b o,h₀.get? b=some o->bi.get? b=some o:=fun b o e=>hs₂.extBut b o (fun q=>by rw[q,Oa]at e;exact nn e) (k₁ b o e)
  refine ae ⟨ZX jv _,?_⟩;have ei:rawInt (((i:Nat):Int)+1)=rawInt ((i+1:Nat):Int):=by simp
  rw[ei];refine ih (i+1) (tQ.at fun o e=>hs₂.extBut it o (Ne.symm Jk) e) ((ht.extBut gy.extBut Ti).extBut hs₂.extBut Vt) y6 (by rw[q8];exact OA) k₂ qn ?_ (by simp only[bv,cx,dv]at hz ⊢;exact HF ‹_›) fun h' tk ys iV uL e1 e2 e3=>?_
  ·rw[mf,cJ];exact hn
  ·rw[cJ]at uL;refine hR h' tk ((kk,ka,uv)::ys) iV uL (by rw[kR,e1]) (fun y hy=>?_) ?_
   ·refine ab fun _ gG=>?_;rcases cn hy with rfl|hy<;>refine gG ?_<;>clear gG
    ·exact Ou
    ·exact e2 y hy
   ·show Exists _;exact⟨_,_,rfl,ru,e3⟩
theorem Jn(l:List V):mZ B (.type "dict") [.tup l] (fun _=>match cU l with
   | some (ks,us)=>if ks.Nodup/\l.length<=ai then some (.dct ks us)else none
   | none=>none):=by
 intro A envs P μ O s us r Q E hh hd hu I R hv q;refine ab fun _ gG=>?_;obtain⟨u,rfl,Ra⟩:=lS R;refine gG ?_;clear gG
 refine ab fun _ gG=>?_;obtain⟨a,items,rfl,na,Jl,hr⟩:=iR Ra;refine gG ?_;clear gG
 induction hp:cU l using aL with
 | none=>rw[hp]at hv;exact nn hv
 | some pr =>
  refine ab fun _ gG=>?_;obtain⟨ks,ws⟩:=pr;refine gG ?_;clear gG
  rw[hp]at hv;have cq:(if ks.Nodup/\l.length<=ai then some (V.dct ks ws)else none)=some r:=hv;by_cases hc:ks.Nodup/\l.length<=ai
  ·rw[if_pos hc]at cq;obtain rfl:=si cq
   generalize(Zx (by show A.units+1+1<9900;exact PZ ‹_›):(bt B.prog B.w).room A.in1.in1)=m8;refine callType_codes (Q₁:=fun obj s₁=>obj= .ref s.heap.objs.size/\s₁={ s with heap:=s.heap.push { cls:=.type "dict",data:=.dict #[] } }) PySem.F.kt_called_dict (PySem.F.kt_typeCall_dict_1 _) PySem.F.entry_dict_init (kt_code_dict_new _ ⟨rfl,rfl⟩) ?_;rintro obj s₁ ⟨rfl,rfl⟩;have xA:(s.heap.push { cls:=.type "dict",data:=.dict #[] }).DictOfH (bt B.prog B.w) s.heap.objs.size []:=adc s.heap;have qy:PlainT (s.heap.push { cls:=.type "dict",data:=.dict #[] }) a items:=let⟨o,n,ho,x⟩:=Jl;⟨o,n,ag _ ho,x⟩
   refine⟨xA.typeIs,PySem.F.args_dict_init_2 _ _,?_⟩;unfold Builtin.«dict.__init__»;refine aa ?_;unfold agc;refine aa (aap xA.typeIs (ae ?_));show wpAny _ _ (acs "dict.__init__" s.heap.objs.size (.ref a) [] .none) _ _ _;unfold acs;refine aa (aaQ qy.isTuple.typeIs ?_);rw[if_pos (by decide)];refine aa (Ji qy (by exact hh) fun bi qY k₂=>?_);rw[if_pos (show(none:Option am).isNone=true from rfl)];refine aa (aar ?_);have LR:PlainT bi a items:=let⟨o,n,ho,x⟩:=qy;⟨o,n,k₂ _ _ ho,x⟩
   refine aa (Zw (s:=⟨bi,s.gens,s.drawn,qY,s.os⟩) LR.isTuple ?_);refine ae ⟨ZX jv _,?_⟩;generalize(fun b o e=>k₂ b o (ag _ e):∀ b o,s.heap.get? b=some o->bi.get? b=some o)=k0;have k3:∀ b o,s.heap.get? b=some o->(bi.push { cls:=.type "tuple_iterator",data:=.fields #[.ref a,.int 0 0] }).get? b=some o:=fun b o e=>ag _ (k0 b o e)
   have y6:(bi.push { cls:=.type "tuple_iterator",data:=.fields #[.ref a,.int 0 0] }).DictOfH (bt B.prog B.w) s.heap.objs.size []:=by
    refine ab fun _ gG=>?_;obtain⟨o,es,ep,ho,wA,eK,he,_,hn⟩:=xA;refine gG ?_;clear gG
    exact⟨o,es,ep,ag _ (k₂ _ _ ho),wA,eK,he,(fun x hx=>by cases hx),hn⟩
   have hlt:s.heap.objs.size<bi.objs.size:=by obtain⟨o,_,_,ho,_⟩:=xA;exact cR (k₂ _ _ ho)
   have Nn:a<s.heap.objs.size:=by obtain⟨o,_,ho,_⟩:=Jl;exact cR ho
   have hcl:ai<=lH:=by decide
   refine DA (A:=A.in1) (h₀:=s.heap) (μ:=μ) (X:=μ++P) (t:=a) (items:=items) (by exact hh) m8 (jr hlt) (jr (afy Nn hlt)) (jr Nn) (bp _) (ku (YG hlt)) l 0 (xs:=[]) (ks:=ks) (us:=ws) ⟨_,ct _ rfl,rfl,rfl⟩ ?_ y6 (by simpa using hr) k3 hp (by simpa using hc.1) (by simpa using bL hc.2 hcl) fun h' tk ys iV uL e1 e2 e3=>?_
   ·let⟨o,n,ho,Jo,_,Fd⟩:=Jl
    exact⟨o,k3 _ _ ho,Jo,n,Fd⟩
   ·refine⟨rfl,q _ _ (I.grow (tk:=tk) iV) (Go.of_keeps iV) ?_⟩;show Exists _;rw[abi]at uL;exact⟨_,_,rfl,gr I,⟨ys,uL,e1,fun y hy=>⟨(e2 y hy).1,let⟨ob,hb,hbd⟩:=(e2 y hy).2;⟨ob,iV _ _ hb,hbd⟩⟩,rfl⟩,e3.go0 (Go.of_keeps iV)⟩
  ·rw[if_neg hc]at cq;exact nn cq
end
end
section
set_option backward.match.sparseCases true
set_option genInjectivity false
open Builtin Builtin.ObjectAttr Builtin.Getset_descriptor
noncomputable abbrev mz:List am:=[.type "Exception",.type "BaseException",.type "object"]
structure Fe where
 nm:fw
 q:fw
 bs:List am
 sn:List fw
 sub:List am
 col:Option Bool
 dd:Option bQ
 k0:Option am
 k1:Option am
 k2:Option am
 k3:Option am
 k5:Option am
noncomputable abbrev u5(C N:bQ)(bm:List am)(w:Fe):Obj:=excClassObj w.nm w.q C N w.bs bm true w.sn w.sub false w.col w.dd w.k0 w.k1 w.k2 w.k3 w.k5 "Exception.__new__"
noncomputable def IsExcCls(h:ir)(C N:bQ)(bm:List am):Prop:=∃ w,h.get? C=some (u5 C N bm w)
theorem IsExcCls.keeps{h:ir}{C N:bQ}{bm:List am}(x:IsExcCls h C N bm)(k:∀ b o,h.get? b=some o->h'.get? b=some o):IsExcCls h' C N bm:=by
 obtain⟨cw,e⟩:=x;exact⟨cw,k _ _ e⟩
section
variable{A:bY}{K:adO}{C N x:bQ}{ox:Obj}{od:Option Obj}{R:abf->aO->Prop}
theorem Bg(self:am){c1 c2:bQ} : refuseLoop self "__setattr__" (.ref c1::.ref c2::mz)=pure ():=by
 rw[agi,agi];rfl'
theorem u6{c1 c2:bQ}{name:fw}{tk:BY}{v:am}(X:K.In s.heap)(I:InstAt s.heap x ox C od)(hc:afg K C=some cd)(hm:cd.mro= .ref c1::.ref c2::mz)(ha:Zi K (.ref C) name=some none)
  (h:wpAny (cr prog w) A.in1 (storeInOwnDict (.ref x) (.ref C) (.str name tk) name v false)
   (fun fin s'=>match fin with | .done f=>R (.ok f) s' | .again c'=>c'.quiet=true/\codeAny (cr prog w) A c' R s') (fun e s'=>R (.error e) s') s) :
  codeAny (cr prog w) A (.call (.builtin "object.__setattr__") ⟨[.ref x,.str name tk,v],[]⟩) R s:=by
 generalize(PySem.F.store_object)=SF;have ne:cd.mro.isEmpty=false:=by rw[hm];rfl
 generalize(I.type.andThen (looks_mroIn X (by unfold mroIn;rw[hc,cH,if_neg (by rw[ne];decide),hm];rfl)):aeC (cr prog w) s.heap (ae0 (.ref x) (.type "object")) true)=sub;refine Ze SF.slot.plain SF.entry (@check_slot (cr prog w) _ _ s "object.__setattr__" "object" "__setattr__" (.ref x) [.str name tk,v] [] _ SF.kind SF.split sub (SF.args (.ref x) (.str name tk) v) ?_);generalize((ac9 X hc).andThen .now:aeC (cr prog w) s.heap (mroOf (.ref C)) cd.mro)=Vz;rw[osa_eq,refuse_eq];refine aa (aa (I.type.here (aa (Vz.here ?_))));rw[hm,Bg];refine ae (aa (I.type.here (aa ((abK X ha).here (aa ?_)))));exact ae h
theorem Bh{name:fw}{v:am}{Q:Unit->aO->Prop}(X:K.In s.heap)(I:InstAt s.heap x ox C od)
  (hs:Zi K (.ref C) "__setattr__"=some (some (.builtin "object.__setattr__")))
  (h:codeAny (cr prog w) A (.call (.builtin "object.__setattr__") ⟨[.ref x,.str name s.toks,v],[]⟩) (fun r s'=>match r with | .ok (.ret _)=>Q () s' | .ok _=>False | .error e=>E e s') { s with toks:=s.toks+1 }) :
  wpAny (cr prog w) A (afc (.ref x) name v) Q E s:=set_plain X I hs h
theorem wE{vs:Array am}{Q:Option bQ->aO->Prop}(X:K.In s.heap)(hc:afg K C=some cd)(hd:cd.hasDict=true)(hx:s.heap.get? x=some { cls:=.ref C,dict:=none,data:=.fields vs,slots:=sl })
  (h:Q (some s.heap.objs.size) { s with heap:=(s.heap.push { cls:=.type "dict",data:=.dict #[] }).update x fun o=>{ o with dict:=some s.heap.objs.size } }) :
  wpAny (cr prog w) A (ownDictForStores (.ref x)) Q E s:=by
 show wpAny _ _ (aaR x true) _ _ s;unfold aaR;refine aa (ab4 hx ?_);dsimp only;refine aa ((ac9 X hc).here ?_);rw[hd,if_neg (by decide),if_neg (show¬(!true||!typeHasDict (gH C))=true from nofun)];refine aa (aes (aa (wpAny_update (ag _ hx) ?_)));exact ae h
theorem wF{vs:Array am}{Q:Option bQ->aO->Prop}(X:K.In s.heap)(hc:afg K C=some cd)(hd:cd.hasDict=true)(hx:s.heap.get? x=some { cls:=.ref C,dict:=some d,data:=.fields vs,slots:=sl })
  (h:Q (some d) s):wpAny (cr prog w) A (ownDictForStores (.ref x)) Q E s:=by
 show wpAny _ _ (aaR x true) _ _ s;unfold aaR;refine aa (ab4 hx ?_);dsimp only;refine aa ((ac9 X hc).here ?_);rw[hd,if_neg (by decide)];exact ae h
theorem y7{es es':List abF}{n':Nat}{name:fw}{u7 v:am}{tk:BY}{Q:Fin->aO->Prop}(hv:u7= .str name tk)(hd:s.heap.get? d=some (YM es n))(hr:es.any (·.refKey)=false)(hl:es'.length<=1000)
  (e:af8 name (acD w.params name) (.str name s.toks) v (YM es n)=YM es' n')
  (h:∀ h',fq d s.heap h'->h'.get? d=some (YM es' n')->Q (.done (.ret .none)) { s with heap:=h',toks:=s.toks+1 }):wpAny (cr prog w) A (storeInDict d u7 name v) Q E s:=by
 subst hv;unfold storeInDict;refine aa (ae (aa ?_));unfold nsSet;refine aa (aa (wpAny_askSetting (ae (aa (adZ (aa (ab4 hd ?_)))))));have c:(!es.toArray.any (·.key.isStr name)&&es.toArray.any (·.refKey))=false:=by
  rw[show es.toArray.any (·.refKey)=false by rw[<- Array.any_toList];exact hr,aeS]
 show wpAny _ _ (if aRefKeyMayBeTheName name es.toArray=true then _ else _) _ _ _;rw[aRefKeyMayBeTheName_at,c,if_neg (by decide)];refine wpAny_updatePart hd ?_;generalize(Yv (af8 name (acD w.params name) (.str name s.toks) v) hd (by rw[e];rfl))=gx;rw[e]at gx;refine aa (wpAny_lookBehind gx (pastItsLine_dict (by rw[aaT,aeu];exact lA ‹_<=1000› rfl)) ?_);exact ae (h _ (j7 ..) gx)
end
end
section
open Builtin Builtin.ObjectAttr Builtin.Getset_descriptor
section
variable{A:bY}{h:ir}{g:Array aeH}{d:Drawn}{t:Nat}{os:acj}
variable{C N cS:bQ}{cw:Fe}
theorem y8{rest:List am}{Q:Unit->aO->Prop}(hC:h.get? C=some (u5 C N (.ref cS::mz) cw))
  (hq:Q () ⟨h,g,d,t,os⟩):wpAny M A (ZP "Exception.__new__" ⟨.ref C::rest,[]⟩) Q E ⟨h,g,d,t,os⟩:=by
 generalize(Y3)=F;generalize(rfl:(gH C::.ref cS::mz).contains (.type "Exception")=true)=OC;generalize(F.noStar)=VA;simp only[ZP,F.newKind,F.newSplit,F.newRow];repeat (first|refine Yn hC ?_|(refine Zl hC ?_;rw[OC])|refine wpAny_staticBase_exc hC ?_|refine afp hC ?_|simp only[bne_self_eq_false,Y1,if_false]|wp_step)
 exact hq
variable{R:abf->aO->Prop}
theorem DC{rest:List am}(hC:h.get? C=some (u5 C N (.ref cS::mz) cw))
  (hq:R (.ok (.ret (.ref (h.objs.size+1)))) ⟨(h.push { cls:=.type "tuple",data:=.seq rest.toArray }).push
   { cls:=.ref C,data:=.fields #[.ref h.objs.size,.none,.none,.none,.bool false,.none] },g,d,t,os⟩) (jk:rest.length<=lH) :
  codeAny (cr prog w) A (.builtin "Exception.__new__" ⟨.ref C::rest,[]⟩) R ⟨h,g,d,t,os⟩:=by
 generalize(Y3)=F;generalize(F.ends)=VB;generalize(rfl:(gH C::.ref cS::mz).contains (.type "Exception")=true)=DD;generalize(rfl:(gH C::.ref cS::mz).contains (.type "AttributeError")=false)=VC;generalize(rfl:(gH C::.ref cS::mz).contains (.type "NameError")=false)=VD;refine codeAny_builtinAt F.entry ?_;unfold Builtin.«BaseException.__new__»;refine aec ?_;show PySem.wpAt _ _ _ (stack>>=_) _ _ _;refine aec (PySem.wpAt_stack fun p below=>adz ?_);wp_walk
 refine adz ?_;rw[F.owner];repeat (first|with_reducible refine wpAny_madeHere_exc F.canon hC ?_|with_reducible refine Yn hC ?_|(with_reducible refine Zl hC ?_;first|rw[DD]|rw[VC]|rw[VD])|wp_step)
 show R _ _;rw[Yw];exact hq
noncomputable abbrev Around.made(A:bY)(C:bQ)(rest:List am):bY:=A.under (.builtin "type.__call__" ⟨.ref C::rest,[]⟩)
theorem sF(A:bY)(C:bQ)(rest:List am):(Around.made A C rest).depth=A.depth+1:=by rfl'
theorem Bi{rest:List am}{mN:fw->Option am}{fI:bQ}{oI:Obj}(hC:h.get? C=some (u5 C N (.ref cS::mz) cw))
  (hn:h.Ns N mN) (hni:mN "__init__"=some (.ref fI)) (hI:h.get? fI=some oI) (VE:oI.cls= .type "function") (jk:rest.length<=lH)
  (hq:∀ e T h',e=h.objs.size+1->T=h.objs.size->(∀ b o,h.get? b=some o->h'.get? b=some o)->h'.get? e=some { cls:=.ref C,data:=.fields #[.ref T,.none,.none,.none,.bool false,.none] }->h'.objs.size=h.objs.size+2 ->
   wpAny (cr prog w) (Around.made A C rest) (call (.ref fI) (.ref e::rest) []) (fun r s'=>r= .none/\Q (.ref e) s') E ⟨h',g,d,t,os⟩) :
  wpAny (cr prog w) A (call (.ref C) rest []) Q E ⟨h,g,d,t,os⟩:=by
 generalize(tc_lookup)=f1;generalize(tc_bind (.ref C))=f2;generalize(⟨_,hC,rfl⟩:(⟨h,g,d,t,os⟩:aO).TypeIs (.ref C) "type")=hT;generalize(Y3)=F;refine ZK (codeAny_of_tree ?_);show wpAny _ _ (callAny (.ref C) _) _ _ _;repeat (any_goals (first|assumption|with_reducible refine Yn hC ?_|wp_step))
 refine⟨rfl,?_⟩;refine codeAny_call_builtin_at (ab3 _ (by decide +kernel)) entry_typeCall (wpAny_check_type_call_sub hC ?_);repeat (first|with_reducible refine Yn hC ?_|with_reducible refine afp hC ?_|wp_step)
 refine codeAny_call_builtin_code (ab3 _ F.quiet) (y8 hC ?_);refine DC hC ?_ jk;show wpAny _ _ _ _ _ ⟨(h.push { cls:=.type "tuple",data:=.seq rest.toArray }).push { cls:=.ref C,data:=.fields #[.ref h.objs.size,.none,.none,.none,.bool false,.none] },g,d,t,os⟩;have y9:=ag { cls:=.ref C,data:=.fields #[.ref h.objs.size,.none,.none,.none,.bool false,.none] }
  (ag { cls:=.type "tuple",data:=.seq rest.toArray } hC)
 have kp:∀ b o,h.get? b=some o->((h.push { cls:=.type "tuple",data:=.seq rest.toArray }).push { cls:=.ref C,data:=.fields #[.ref h.objs.size,.none,.none,.none,.bool false,.none] }).get? b=some o:=fun b o e=>ag _ (ag _ e)
 have xz:((h.push { cls:=.type "tuple",data:=.seq rest.toArray }).push
   { cls:=.ref C,data:=.fields #[.ref h.objs.size,.none,.none,.none,.bool false,.none] }).get? (h.objs.size+1)=some
   { cls:=.ref C,data:=.fields #[.ref h.objs.size,.none,.none,.none,.bool false,.none] }:=by heap_get
 have VF:(gH C::.ref cS::mz).contains (.ref C)=true:=by simp
 have hsz:((h.push { cls:=.type "tuple",data:=.seq rest.toArray }).push { cls:=.ref C,data:=.fields #[.ref h.objs.size,.none,.none,.none,.bool false,.none] }).objs.size=h.objs.size+2:=by simp[Yw]
 generalize(hq _ _ _ rfl rfl kp xz hsz)=Tk;generalize((h.push { cls:=.type "tuple",data:=.seq rest.toArray }).push { cls:=.ref C,data:=.fields #[.ref h.objs.size,.none,.none,.none,.bool false,.none] })=aF at y9 kp xz Tk ⊢;unfold ae0;repeat (first|with_reducible refine Yn xz ?_|(with_reducible refine Zl y9 ?_;rw[VF])|wp_step)
 show wpAny _ _ (acx (.ref C) _) _ _ _;rw[typeLookup_eq];refine aa (wpAny_mroOf_exc y9 ?_);rw[lookupAlong_cons];refine aa (wpAny_classOwn_exc y9 (hn.keeps kp) ?_);rw[hni];refine ae (eG (aa ?_));unfold bindSpecial;refine aa (aaQ (T:="function") ⟨_,kp _ _ hI,VE⟩ ?_);refine aaB (show _=pure (gH fI,[gH (h.objs.size+1)])by rfl') ?_;refine aa (Yj Tk (fun r s' hr=>?_) fun _ _ y=>y);obtain⟨rfl,hr⟩:=hr;exact ae (ae hr)
end
end
section
set_option tactic.hygienic true
open Builtin Builtin.ObjectAttr Builtin.Getset_descriptor
structure za(B:bw)(f:bQ)(fd:Zf)(body:List lI):Prop where
 obj:∃ o,B.H.get? f=some o/\o.data= .func fd/\o.cls= .type "function"
 body:fd.body= .stmts body
 code:B.H.CodeRec fd.code fd.qualname
 cells:∀ x∈fd.scope.names,x.2≠.cell
 kind:fd.scope.kind= .function
 gen:fd.scope.isGenerator=false
 co:fd.scope.isCoroutine=false
 glob:fd.globals=Yi
 blt:fd.builtins=aau
 kept:Kept B (.ref f)
noncomputable abbrev cD:fw:=ac "self"
noncomputable abbrev dw:fw:=ac "message"
noncomputable abbrev eu:fw:=ac "row"
noncomputable abbrev pe:fw:=ac "__init__"
structure jl(B:bw)(K:adO)(cS NE NS fE fS:bQ)(fdE fdS:Zf)(mE mS:fw->Option am)(la:aay):Prop where
 kin:K.In B.H
 clsE:IsExcCls B.H B.cE NE (.ref cS::mz)
 nsE:B.H.Ns NE mE
 iniE:mE pe=some (.ref fE)
 kE:afg K B.cE=some la
 mroE:la.mro= .ref B.cE::.ref cS::mz
 dctE:la.hasDict=true
 setE:Zi K (.ref B.cE) (ac "__setattr__")=some (some (.builtin "object.__setattr__"))
 msgE:Zi K (.ref B.cE) dw=some none
 rowE:Zi K (.ref B.cE) eu=some none
 iniS:∀ {A:bY} {s:aO} {pl:Xm Bool} {Q:am×List am->aO->Prop} {E:am->aO->Prop},B.H.StaysIn s.heap->(∀ tk,Q (.ref fS,[]) { s with toks:=tk })->wpAny (cr B.prog B.w) A (aaW (.ref cS) pe pl) Q E s
 swg:B.mg (ac "SwitchError")=some (.ref cS)
 exg:B.mg (ac "Exception")=none
 exb:B.mb (ac "Exception")=some (.type "Exception")
 defE:∃ p1 p2 p3 p4 p5 p6 p7 p8 p9 tC,za B fE fdE [.Expr (.Call (.Attribute (.Name (ac "SwitchError") p1) pe p2) [.Name cD p3,.Name dw p4] [] p5) p6,.Assign [.Attribute (.Name cD p7) eu p8] (.Name eu p9) tC]/\(p2.endLine==p5.line)=true /\
  ∀ env,aft (.Name eu p9) (some (.Attribute (.Name cD p7) eu p8)) tC.line env=pure false
 defS:∃ p1 p2 p3 p4 p5 p6 p7 p8 p9 tC,za B fS fdS [.Expr (.Call (.Attribute (.Name (ac "Exception") p1) pe p2) [.Name cD p3,.Name dw p4] [] p5) p6,.Assign [.Attribute (.Name cD p7) dw p8] (.Name dw p9) tC]/\(p2.endLine==p5.line)=true /\
  ∀ env,aft (.Name dw p9) (some (.Attribute (.Name cD p7) dw p8)) tC.line env=pure false
 namE:fdE.scope.names.lookup cD=some .local/\fdE.scope.names.lookup dw=some .local/\fdE.scope.names.lookup eu=some .local/\fdE.scope.names.lookup (ac "SwitchError")=some .globalImplicit
 namS:fdS.scope.names.lookup cD=some .local/\fdS.scope.names.lookup dw=some .local/\fdS.scope.names.lookup (ac "Exception")=some .globalImplicit
 bindE:∀ (s:aO) a b c,B.H.StaysIn s.heap->adp s fdE ⟨[a,b,c],[]⟩ [(cD,a),(dw,b),(eu,c)]
 bindS:∀ (s:aO) a b,B.H.StaysIn s.heap->adp s fdS ⟨[a,b],[]⟩ [(cD,a),(dw,b)]
section
variable{A:bY}
theorem xD{m:fw}{pos:YZ}{ov f:am}{first:List am}{κ:ac4}(hc:bW args=true)(ji:(p.endLine==pos.line)=true)(hno:∀ p q,o≠.Call (.Name (ac "super") p) [] [] q)
  (ho:∀ Q:am->aO->Prop,Q ov s->wpAny (cr prog w) A (eval o env) Q E s) (mL:κ= .frame\/κ= .machine)
  (hm:∀ (pl:Xm Bool) (Q:am×List am->aO->Prop),(∀ tk,Q (f,first) { s with toks:=tk })->wpAny (cr prog w) A (aaW ov m pl) Q E s)
  (ha:∀ tk (Q:List am->aO->Prop),Q us { s with toks:=tk }->wpAny (cr prog w) A (acJ (Yx pos (j8 args env))) Q E { s with toks:=tk })
  (hk:∀ tk (Q:ac4->aO->Prop),Q κ { s with toks:=tk }->wpAny (cr prog w) A (ab8 f) Q E { s with toks:=tk })
  (oW:∀ tk,wpAny (cr prog w) A (call f (first++us) []) Q E { s with toks:=tk }):wpAny (cr prog w) A (eval (.Call (.Attribute o m p) args [] pos) env) Q E s:=by
 obtain⟨hs,ck⟩:=bM hc;have hp:(Yx pos (j8 args env)).any (·.1)=false:=by rw[aR hs];exact et
 have Dc:adq (args.length+([]:List adn).length) (Yx pos (j8 args env)) (acb pos (aaD [] env))=true:=by
  have h1:(Yx pos (j8 args env)).all (fun x=>!x.1)=true:=by
   rw[aR hs];simp[Yx]
  have h2:args.length<30:=by simpa using ck
  show(_&&_&&_)=true;rw[h1];simp[h2,show acb pos (aaD [] env)=[]from rfl]
 have IB:ZY true o env p pos=pure pos:=by unfold ZY;simp[ji]
 show wpAny _ _ (do
  let ov<-Z0 o m env (eval o env)
  standAt p.atName
  methodCall o m p pos env ov (args.length+([]:List adn).length) (Yx pos (j8 args env)) (acb pos (aaD [] env))) Q E s
 refine aa (mK (fun p q e=>(hno p q e).elim) (ho _ (aa (Ye ?_))));unfold methodCall;rw[Dc];refine aa (eG (hm _ _ fun tk=>?_));refine aa (aaB IB ?_);refine cj hp mL (gX hs (ha tk _ ⟨fun Q' q=>hk tk Q' q,oW tk⟩))
theorem DG:findCls [] (.type "Exception") (.type "type") pe=some (.val (.builtin "Exception.__init__")):=by rfl'
theorem Bj:Zi [] (.type "type") (ac "__getattribute__")=some (some (.builtin "type.__getattribute__")):=by rfl'
theorem wG{pl:Xm Bool}{Q:am×List am->aO->Prop}(h:∀ tk,Q (.builtin "Exception.__init__",[]) { s with toks:=tk }):wpAny (cr prog w) A (aaW (.type "Exception") pe pl) Q E s:=by
 generalize(fun a o e=>by exact nn e:Frag.In [] s.heap)=X;generalize(abU (by rfl'):aeC (cr prog w) s.heap (typeOf (.type "Exception")) (.type "type"))=hT;unfold aaW specialOf;refine aa (aa (hT.here ((abK X Bj).here ?_)));dsimp only;rw[if_pos canon_tga];refine aa ?_;refine cls_open (hook:=none) X (abU (by rfl')) hT Bj (abU (by rfl')) (by rfl') DG ?_;refine ae ?_;show wpAny _ _ (handedOut (.builtin "Exception.__init__")) _ _ _;exact handed_on (by rfl') (ae (h _))
end
end
section
open Builtin Builtin.ObjectAttr Builtin.Getset_descriptor
section
variable{A:bY}{h:ir}{g:Array aeH}{d:Drawn}{t:Nat}{os:acj}
variable{C N cS:bQ}{cw:Fe}
theorem wH{e:bQ}{oe:Obj}{rest:List am}{Q:Unit->aO->Prop}
  (hC:h.get? C=some (u5 C N (.ref cS::mz) cw)) (he:h.get? e=some oe) (Jo:oe.cls= .ref C) (hq:Q () ⟨h,g,d,t,os⟩) :
  wpAny M A (ZP "Exception.__init__" ⟨.ref e::rest,[]⟩) Q E ⟨h,g,d,t,os⟩:=by
 generalize(Y3)=F;generalize(rfl:(gH C::.ref cS::mz).contains (.type "Exception")=true)=DD;generalize(F.noStar)=Ue;simp only[ZP,F.initKind,F.initSplit,F.initRow];repeat (first|(with_reducible refine Yn he ?_;rw[Jo])|with_reducible refine Yn hC ?_|(with_reducible refine Zl hC ?_;rw[DD])|wp_step)
 refine adD ?_;rw[show ∀ (a b:String) (n:Nat),Bind.check ⟨.positional,"*","Exception",.self,[⟨"args",.varPos,false⟩]⟩ a b n (List.map (fun x=>x.fst) ({ pos:=gH e::rest } : Args).kw)=pure ()from
  fun a b n=>check_star_args _ _ _ _ _ _]
 exact ae hq
theorem Bk{e T:bQ}{v:am}{dct:Option bQ}
  (hC:h.get? C=some (u5 C N (.ref cS::mz) cw)) (he:h.get? e=some { cls:=.ref C,dict:=dct,data:=.fields #[.ref T,.none,.none,.none,.bool false,.none],slots:=sl })
  (hq:∀ h' T',(∀ b o,b≠e->h.get? b=some o->h'.get? b=some o)->h'.get? e=some { cls:=.ref C,dict:=dct,data:=.fields #[.ref T',.none,.none,.none,.bool false,.none],slots:=sl }->Q .none ⟨h',g,d,t,os⟩) :
  wpAny (cr prog w) A (call (.builtin "Exception.__init__") [.ref e,v] []) Q E ⟨h,g,d,t,os⟩:=by
 generalize(Y3)=F;refine ZK (Ze F.init.plain F.initEntry (wH hC he rfl ?_));wp_walk
 refine hq _ h.objs.size (fun b o hb eo=>(YF _ _ (Ne.symm hb)).trans (ag _ eo)) ?_;exact Yv _ (ag _ he) rfl
end
section
variable{A:bY}{K:adO}{cS NE NS fE fS:bQ}{fdE fdS:Zf}{mE mS:fw->Option am}{la:aay}
noncomputable abbrev g7(C T:bQ)(d:Option bQ):Obj:={ cls:=.ref C,dict:=d,data:=.fields #[.ref T,.none,.none,.none,.bool false,.none] }
theorem gL{m:fw->Option am}{v:am}(hk:env.scope.kind= .function)(hl:env.kindOf x=some .local)(hm:s.heap.Ns env.locals m)(hv:m x=some v)(hd:(x==ac "__debug__")=false)(q:Q v s) :
  wpAny M A (eval (.Name x p) env) Q E s:=acv (ab5 hk hl hm hv q) hd
theorem Ff{h:ir}{b:bQ}{m:fw->Option am}(hn:h.Ns a m)(k:∀ b' o,b'≠b->h.get? b'=some o->h'.get? b'=some o)(II:a≠b):h'.Ns a m:=by
 obtain⟨o,es,ep,e,r⟩:=hn;exact⟨o,es,ep,k _ _ II e,r⟩
theorem l5{K:adO}{h:ir}(X:K.In B.H)(st:B.H.StaysIn h):K.In h:=fun a o e=>st a o (X a o e)
theorem DH(D:jl B K cS NE NS fE fS fdE fdS mE mS la){e T:bQ}{v:am}{Q:Unit->aO->Prop}(st:B.H.StaysIn s.heap)(Bl:B.H.get? e=none)(he:s.heap.get? e=some (g7 B.cE T none))
  (q:∀ h' tk hh tm d,(∀ b o,b≠e->s.heap.get? b=some o->h'.get? b=some o)->h'.get? e=some (g7 B.cE T (some d))->h'.get? d=some (YM [⟨hh,.str dw tm,v⟩] 1)->s.heap.get? d=none->Q () { s with heap:=h',toks:=tk }) :
  wpAny (cr B.prog B.w) A (afc (.ref e) dw v) Q E s:=by
 generalize(l5 (B:=B) D.kin st)=X;generalize(⟨he,rfl,rfl,trivial⟩:InstAt s.heap e (g7 B.cE T none) B.cE none)=I;refine Bh X I D.setE ?_;refine u6 (c1:=B.cE) (c2:=cS) (s:={ s with toks:=s.toks+1 }) X I D.kE D.mroE D.msgE ?_;refine aa (ae (aa ?_));refine wE (s:={ s with toks:=s.toks+1 }) X D.kE D.dctE he ?_;generalize(Ne.symm (jr (cR he)):s.heap.objs.size≠e)=hne;have hd:((s.heap.push { cls:=.type "dict",data:=.dict #[] }).update e fun o=>{ o with dict:=some s.heap.objs.size }).get? s.heap.objs.size=some (YM [] 0) :=
  (YF _ _ (Ne.symm hne)).trans (ct _ rfl)
 have to:((s.heap.push { cls:=.type "dict",data:=.dict #[] }).update e fun o=>{ o with dict:=some s.heap.objs.size }).get? e=some (g7 B.cE T (some s.heap.objs.size)) :=
  Yv _ (ag _ he) rfl
 refine y7 (s:={ s with heap:=_,toks:=s.toks+1 }) rfl hd rfl (es':=[⟨_,_,_⟩]) (n':=1) (by simp) rfl fun h' cC gx=>?_;have cC:fq s.heap.objs.size ((s.heap.push { cls:=.type "dict",data:=.dict #[] }).update e fun o=>{ o with dict:=some s.heap.objs.size }) h':=cC;refine q h' _ _ _ s.heap.objs.size (fun b o hb eo=>?_) (cC.extBut _ _ (Ne.symm hne) to) gx (bp _);exact cC.extBut b o (jr (cR eo)) ((YF _ _ (Ne.symm hb)).trans (ag _ eo))
theorem Bm(D:jl B K cS NE NS fE fS fdE fdS mE mS la){e T:bQ}{v:am}{tm:BY}{Q:Unit->aO->Prop}(st:B.H.StaysIn s.heap)(he:s.heap.get? e=some (g7 B.cE T (some d)))(hd:s.heap.get? d=some (YM [⟨hh,.str dw tm,v⟩] 1))
  (q:∀ h' tk hr tr,fq d s.heap h'->h'.get? d=some (YM [⟨hh,.str dw tm,v⟩,⟨hr,.str eu tr,u⟩] 2)->Q () { s with heap:=h',toks:=tk }) :
  wpAny (cr B.prog B.w) A (afc (.ref e) eu u) Q E s:=by
 generalize(l5 (B:=B) D.kin st)=X;generalize(⟨he,rfl,rfl,hd⟩:InstAt s.heap e (g7 B.cE T (some d)) B.cE (some (YM [⟨hh,.str dw tm,v⟩] 1)))=I;refine Bh X I D.setE ?_;refine u6 (c1:=B.cE) (c2:=cS) (s:={ s with toks:=s.toks+1 }) X I D.kE D.mroE D.rowE ?_;refine aa (ae (aa ?_));refine wF (s:={ s with toks:=s.toks+1 }) X D.kE D.dctE he ?_;refine y7 (s:={ s with toks:=s.toks+1 }) rfl hd rfl (es':=[⟨hh,.str dw tm,v⟩,⟨acD B.w.params eu,.str eu (s.toks+1),u⟩]) (n':=2) (by simp) (by rfl') fun h' cC gx=>?_;exact q h' _ _ _ cC gx
end
end
section
open Builtin Builtin.ObjectAttr Builtin.Getset_descriptor
section
variable{A:bY}{K:adO}{cS NE NS fE fS:bQ}{fdE fdS:Zf}{mE mS:fw->Option am}{la:aay}
theorem pg{h:ir}{e:bQ}(st:B.H.StaysIn h)(Bl:B.H.get? e=none)(k:∀ b o,b≠e->h.get? b=some o->h'.get? b=some o):B.H.StaysIn h':=fun b o eo =>
 k b o (fun q=>by rw[q,Bl]at eo;exact nn eo) (st b o eo)
theorem Jp{m:fw->Option am}{y:fw}{p1 p2 pos:YZ}{v w:am}{Q:List am->aO->Prop}(hk:env.scope.kind= .function)(hx:env.kindOf x=some .local)(hy:env.kindOf y=some .local)(hm:s.heap.Ns env.locals m)(vx:m x=some v)(vy:m y=some w)
  (dx:(x==ac "__debug__")=false) (dy:(y==ac "__debug__")=false) (tk:Nat) (q:Q [v,w] { s with toks:=tk }) :
  wpAny M A (acJ (Yx pos (j8 [.Name x p1,.Name y p2] env))) Q E { s with toks:=tk }:=by
 rw[aR (by rfl)];refine aai (gL (s:={ s with toks:=tk }) hk hx hm vx dx (aai (gL (s:={ s with toks:=tk }) hk hy hm vy dy (aaC q))))
theorem Bn(BO:aP B)(D:jl B K cS NE NS fE fS fdE fdS mE mS la){e T:bQ}{v:am}(hA:A.depth<900)(st:B.H.StaysIn s.heap)(Bl:B.H.get? e=none)(he:s.heap.get? e=some (g7 B.cE T none))
  (q:∀ h' tk hh tm d T',(∀ b o,b≠e->s.heap.get? b=some o->h'.get? b=some o)->h'.get? e=some (g7 B.cE T' (some d))->h'.get? d=some (YM [⟨hh,.str dw tm,v⟩] 1)->s.heap.get? d=none->Q .none { s with heap:=h',toks:=tk }) :
  wpAny (cr B.prog B.w) A (call (.ref fS) [.ref e,v] []) Q E s:=by
 refine ab fun _ gG=>?_;obtain⟨p1,p2,p3,p4,p5,p6,p7,p8,p9,tC,DF,ji,hsw⟩:=D.defS;refine gG ?_;clear gG
 refine ab fun _ gG=>?_;obtain⟨o,uR,Dn,AB⟩:=DF.obj;refine gG ?_;clear gG
 refine ab fun _ gG=>?_;obtain⟨n1,n2,n3⟩:=D.namS;refine gG ?_;clear gG
 refine ZK (acX (by show A.depth<1000;exact lA ‹_<=900› rfl) (st _ _ uR) Dn (BO.nolim.keeps st) (DF.code.keeps st) DF.body (D.bindS s _ _ st) DF.cells (fun x hx=>?_) (fun aF fZ hk₁=>?_) DF.co DF.gen DF.kind)
 ·refine ab fun _ gG=>?_;rcases cn hx with rfl|hx<;>refine gG ?_<;>clear gG
  ·exact n1
  ·rw[a8 hx];exact n2
 ·generalize hE:callEnv fdS s.heap.objs.size fS=env;have e1:env.scope=fdS.scope:=by rw[<- hE];rfl
  have e2:env.locals=s.heap.objs.size:=by rw[<- hE];rfl
  have e4:env.globals=Yi:=by rw[<- hE];exact DF.glob
  have e5:env.builtins=aau:=by rw[<- hE];exact DF.blt
  have hk:env.scope.kind= .function:=by rw[e1];exact DF.kind
  have l1:env.kindOf cD=some .local:=by show env.scope.names.lookup _=_;rw[e1];exact n1
  have l2:env.kindOf dw=some .local:=by show env.scope.names.lookup _=_;rw[e1];exact n2
  have l3:env.scope.names.lookup (ac "Exception")=some .globalImplicit:=by rw[e1];exact n3
  rw[<- e2]at fZ;generalize(fun b o x=>hk₁ b o (st b o x):B.H.StaysIn aF)=st₁;generalize(hk₁ _ _ he)=u8;have hlt:e≠env.locals:=by rw[e2];exact jr (cR he)
  generalize hm:(fun x=>([(cD,gH e),(dw,v)]:List (fw×am)).reverse.lookup x)=m at fZ;have vS:m cD=some (.ref e):=by rw[<- hm];rfl'
  have vM:m dw=some v:=by rw[<- hm];rfl'
  refine ab fun _ gG=>?_;obtain⟨cw,hC⟩:=D.clsE.keeps st₁;refine gG ?_;clear gG
  refine Yd (acw ?_ (iy hk) rfl);refine xD (s:={ s with heap:=aF,toks:=s.toks+2 }) (ov:=.type "Exception") (f:=.builtin "Exception.__init__") (first:=[]) (us:=[.ref e,v]) (κ:=.machine) rfl ji (fun _ _ x=>by cases x) (fun Q' q'=>?_) (.inr rfl)
   (fun pl Q' q'=>wG q') (fun tk Q' q'=>Jp hk l1 l2 fZ vS vM rfl rfl tk q') (fun tk Q' q'=>ae q') (fun tk=>?_)
  ·exact ZN hk l3 (aeZ (by rw[e4];exact BO.hg.keeps st₁) D.exg (by rw[e5];exact BO.hb.keeps st₁) D.exb q') rfl
  ·refine Bk hC u8 fun bi Fg k₂ nc=>?_;generalize(pg st₁ Bl k₂)=st₂;generalize(Ff fZ k₂ (Ne.symm hlt))=qz;refine Yd (aan (gL (s:=⟨bi,s.gens,s.drawn,tk,s.os⟩) hk l2 qz vM rfl (gL (s:=⟨bi,s.gens,s.drawn,tk,s.os⟩) hk l1 qz vS rfl ?_)) (hsw env));refine DH D (s:=⟨bi,s.gens,s.drawn,tk,s.os⟩) st₂ Bl nc fun eJ DI hh tm d k₃ OD DJ oj=>?_;refine YJ ?_;have sG:s.heap.get? d=none:=by
    cases z:s.heap.get? d with
    | none=>rfl
    | some o' =>
     have OE:d≠e:=fun x=>by
      rw[x]at oj;generalize(oj:bi.get? e=none)=oj;rw[nc]at oj;exact oQ oj
     have:=k₂ d o' OE (hk₁ d o' z);generalize(oj:bi.get? d=none)=oj;rw[oj]at this;exact nn this
   exact q eJ DI hh tm d Fg (fun b o hb eo=>k₃ b o hb (k₂ b o hb (hk₁ b o eo))) OD DJ sG
theorem Bo(BO:aP B)(D:jl B K cS NE NS fE fS fdE fdS mE mS la){e T:bQ}{v:am}(hA:A.depth<800)(st:B.H.StaysIn s.heap)(Bl:B.H.get? e=none)(he:s.heap.get? e=some (g7 B.cE T none))
  (q:∀ h' tk hh tm hr tr d T',(∀ b o,b≠e->s.heap.get? b=some o->h'.get? b=some o)->h'.get? e=some (g7 B.cE T' (some d))->h'.get? d=some (YM [⟨hh,.str dw tm,v⟩,⟨hr,.str eu tr,u⟩] 2)->s.heap.get? d=none->Q .none { s with heap:=h',toks:=tk }) :
  wpAny (cr B.prog B.w) A (call (.ref fE) [.ref e,v,u] []) Q E s:=by
 refine ab fun _ gG=>?_;obtain⟨p1,p2,p3,p4,p5,p6,p7,p8,p9,tC,DF,ji,hsw⟩:=D.defE;refine gG ?_;clear gG
 refine ab fun _ gG=>?_;obtain⟨_,_,_,_,_,_,_,_,_,_,DS,_⟩:=D.defS;refine gG ?_;clear gG
 refine ab fun _ gG=>?_;obtain⟨κ,mL,hkeep⟩:=DS.kept;refine gG ?_;clear gG
 refine ab fun _ gG=>?_;obtain⟨o,uR,Dn,AB⟩:=DF.obj;refine gG ?_;clear gG
 refine ab fun _ gG=>?_;obtain⟨n1,n2,n4,n3⟩:=D.namE;refine gG ?_;clear gG
 refine ZK (acX (by show A.depth<1000;exact lC ‹_<800› rfl) (st _ _ uR) Dn (BO.nolim.keeps st) (DF.code.keeps st) DF.body (D.bindE s _ _ _ st) DF.cells (fun x hx=>?_) (fun aF fZ hk₁=>?_) DF.co DF.gen DF.kind)
 ·refine ab fun _ gG=>?_;rcases cn hx with rfl|hx<;>refine gG ?_<;>clear gG
  ·exact n1
  ·refine ab fun _ gG=>?_;rcases cn hx with rfl|hx<;>refine gG ?_<;>clear gG
   ·exact n2
   ·rw[a8 hx];exact n4
 ·generalize hE:callEnv fdE s.heap.objs.size fE=env;have e1:env.scope=fdE.scope:=by rw[<- hE];rfl
  have e2:env.locals=s.heap.objs.size:=by rw[<- hE];rfl
  have e4:env.globals=Yi:=by rw[<- hE];exact DF.glob
  have hk:env.scope.kind= .function:=by rw[e1];exact DF.kind
  have l1:env.kindOf cD=some .local:=by show env.scope.names.lookup _=_;rw[e1];exact n1
  have l2:env.kindOf dw=some .local:=by show env.scope.names.lookup _=_;rw[e1];exact n2
  have l4:env.kindOf eu=some .local:=by show env.scope.names.lookup _=_;rw[e1];exact n4
  have l3:env.scope.names.lookup (ac "SwitchError")=some .globalImplicit:=by rw[e1];exact n3
  rw[<- e2]at fZ;have st₁:B.H.StaysIn aF:=fun b o x=>hk₁ b o (st b o x)
  have u8:=hk₁ _ _ he;have hlt:e≠env.locals:=by rw[e2];exact jr (cR he)
  generalize hm:(fun x=>([(cD,gH e),(dw,v),(eu,u)]:List (fw×am)).reverse.lookup x)=m at fZ;have vS:m cD=some (.ref e):=by rw[<- hm];rfl'
  have vM:m dw=some v:=by rw[<- hm];rfl'
  have vR:m eu=some u:=by rw[<- hm];rfl'
  refine Yd (acw ?_ (iy hk) rfl);refine xD (s:={ s with heap:=aF,toks:=s.toks+3 }) (ov:=.ref cS) (f:=.ref fS) (first:=[]) (us:=[.ref e,v]) (κ:=κ) rfl ji (fun _ _ x=>by cases x) (fun Q' q'=>?_) mL
   (fun pl Q' q'=>D.iniS st₁ q') (fun tk Q' q'=>Jp hk l1 l2 fZ vS vM rfl rfl tk q') (fun tk Q' q'=>hkeep (s:={ s with heap:=aF,toks:=tk }) st₁ q') (fun tk=>?_)
  ·exact ZN hk l3 (acK (by rw[e4];exact BO.hg.keeps st₁) D.swg q') rfl
  ·refine Bn BO D (s:={ s with heap:=aF,toks:=tk }) (by show A.depth+1<900;exact Uz ‹_›) st₁ Bl u8 fun bi qY hh tm d Fg k₂ nc DK oj=>?_;have st₂:=pg st₁ Bl k₂;have qz:=Ff fZ k₂ (Ne.symm hlt);refine Yd (aan (gL (s:=⟨bi,s.gens,s.drawn,qY,s.os⟩) hk l4 qz vR rfl (gL (s:=⟨bi,s.gens,s.drawn,qY,s.os⟩) hk l1 qz vS rfl ?_)) (hsw env));refine Bm D (s:=⟨bi,s.gens,s.drawn,qY,s.os⟩) st₂ nc DK fun eJ DI hr tr d3 DJ=>?_;refine YJ ?_;have d3:fq d bi eJ:=d3;have Jq:aF.get? d=none:=oj;have sG:s.heap.get? d=none:=by
    induction z:s.heap.get? d using aL with
    | none=>rfl
    | some o'=>have:=hk₁ d o' z;rw[Jq]at this;exact nn this
   have OE:e≠d:=fun x=>by rw[<- x,he]at sG;exact oQ sG
   exact q eJ DI hh tm hr tr d Fg (fun b o hb eo=>d3.extBut b o (fun x=>by rw[x,sG]at eo;exact nn eo) (k₂ b o hb (hk₁ b o eo))) (d3.extBut _ _ OE nc) DJ sG
end
end
section
open Builtin Builtin.ObjectAttr Builtin.Getset_descriptor
section
variable{A:bY}
variable{C N cS:bQ}{cw:Fe}
theorem wI{e T:bQ}{dct:Option bQ}{Q:aaV->aO->Prop}(hh:A.handled=none)(hC:s.heap.get? C=some (u5 C N (.ref cS::mz) cw))
  (he:s.heap.get? e=some (g7 C T dct)) (hE:E (.ref e) s):wpAny M A (jK (.ref e)) Q E s:=by
 generalize(rfl:(gH C::.ref cS::mz).contains (.type "BaseException")=true)=DD;unfold jK;obtain⟨hp,g,d,tk,os⟩:=s;repeat (first|with_reducible refine Yn he ?_|with_reducible refine Yn hC ?_|(with_reducible refine Zl hC ?_;rw[DD])|wp_step)
 exact wpAny_raiseNew_none hh hE
end
section
variable{K:adO}{cS NE NS fE fS:bQ}{fdE fdS:Zf}{mE mS:fw->Option am}{la:aay}
theorem Gx(BO:aP B)(D:jl B K cS NE NS fE fS fdE fdS mE mS la):AT B:=by
 intro A envs P μ O s l row t t2 Q E gA hh hd hu I q;refine ab fun _ gG=>?_;obtain⟨_,_,_,_,_,_,_,_,_,_,DE,_⟩:=D.defE;refine gG ?_;clear gG
 refine ab fun _ gG=>?_;obtain⟨oI,VG,_,VH⟩:=DE.obj;refine gG ?_;clear gG
 refine ab fun _ gG=>?_;obtain⟨cw,hC⟩:=D.clsE;refine gG ?_;clear gG
 have fr:∀ j,s.heap.get? (s.heap.objs.size+j)=none:=fun j=>ku (ef _ _)
 have frB:∀ {a},s.heap.get? a=none->B.H.get? a=none:=fun{a} e=>by
  cases z:B.H.get? a with
  | none=>rfl
  | some o=>have:=I.stays a o z;rw[e]at this;cases this
 have nf:∀ {a},s.heap.get? a=none->NF envs a:=fun{a} e env Bp hf=>by
  refine ab fun _ gG=>?_;obtain⟨_,L,hL,_,o,es,n,ho,_⟩:=I.frs env Bp;refine gG ?_;clear gG
  rw[hL]at hf;obtain rfl:=si hf
  rw[ho]at e;exact oQ e
 refine Bi (h:=s.heap) (I.stays _ _ hC) (D.nsE.keeps I.stays) D.iniE (I.stays _ _ VG) VH (by show 2<=lH;decide) fun e T aF ee eT k₁ u8 hsz=>?_;subst ee eT;have st₁:B.H.StaysIn aF:=fun b o x=>k₁ b o (I.stays b o x)
 refine Bo BO D (A:=Around.made A B.cE _) (s:=⟨aF,s.gens,s.drawn,s.toks,s.os⟩) (by rw[sF];exact UA ‹_›) st₁ (frB (fr 1)) u8 fun bi tk hm tm hr tr d Fg k₂ nc DK oj=>?_;have Jq:aF.get? d=none:=oj;have sG:s.heap.get? d=none:=by
  induction z:s.heap.get? d using aL with
  | none=>rfl
  | some o'=>have:=k₁ d o' z;rw[Jq]at this;exact nn this
 have st₂:=pg st₁ (frB (fr 1)) k₂;have kp:∀ b o,s.heap.get? b=some o->bi.get? b=some o:=fun b o x=>k₂ b o (fun z=>by rw[z,fr 1]at x;exact nn x) (k₁ b o x)
 refine⟨rfl,wI (s:=⟨bi,s.gens,s.drawn,tk,s.os⟩) hh (st₂ _ _ hC) nc (q _ _ ?_)⟩;have pv:∀ {a},s.heap.get? a=none->Priv B envs s.heap a:=fun h=>⟨h,frB h,nf h⟩
 exact⟨st₂,I.gens,I.os,fun a o x _ _=>⟨o.slots,kp a o x,fun _=>rfl⟩,fun a o x=>⟨o,kp a o x⟩,fun env Bp=>(I.frs env Bp).go (Go.of_keeps kp) I.apart,fun a ha=>I.new a (aq _ ha),⟨s.heap.objs.size+1,_,_,d,hm,tm,_,hr,tr,t2⟩,rfl,pv (fr 1),nc,rfl,rfl,rfl,(by show 5<=6;decide),pv sG,DK,.inl rfl⟩
theorem Gy(D:jl B K cS NE NS fE fS fdE fdS mE mS la):Kept B (.ref B.cE):=by
 obtain⟨cw,hC⟩:=D.clsE;exact⟨.machine,.inr rfl,fun{A s Q E} st q=>wpAny_keeperOf_exc (st _ _ hC) q⟩
end
end
section
open Builtin Builtin.ObjectAttr Builtin.Getset_descriptor
noncomputable abbrev g8:fw:=ac "rows"
structure qA(B:bw)(K:adO)(cd:aay)(fI:bQ)(fdI:Zf):Prop where
 kin:K.In B.H
 makes:makesIn K B.cS=true
 kS:afg K B.cS=some cd
 over:plainOver K B.cS=true
 dct:cd.hasDict=true
 ini:Zi K (.ref B.cS) pe=some (some (.ref fI))
 fnI:typeIn K (.ref fI)=some (.type "function")
 setS:Zi K (.ref B.cS) (ac "__setattr__")=some (some (.builtin "object.__setattr__"))
 takR:takerIn K B.cS g8=some none
 gaS:Zi K (.ref B.cS) (ac "__getattribute__")=some (some (.builtin "object.__getattribute__"))
 gaN:Zi K (.ref B.cS) (ac "__getattr__")=some none
 rowN:Zi K (.ref B.cS) g8=some none
 defI:∃ p1 p2 p3 p4,za B fI fdI [.Assign [.Attribute (.Name cD p1) g8 p2] (.Dict [] [] p3) p4]/\∀ env,aft (.Dict [] [] p3) (some (.Attribute (.Name cD p1) g8 p2)) p4.line env=pure false
 namI:fdI.scope.names.lookup cD=some .local
 bindI:∀ (s:aO) a,B.H.StaysIn s.heap->adp s fdI ⟨[a],[]⟩ [(cD,a)]
section
variable{K:adO}{fI:bQ}{fdI:Zf}
theorem Bq{r:bQ}{t:BY}(h1:s.heap.get? a=some (Y2 B.cS d))(h2:s.heap.get? d=some (YM [⟨hh,.str g8 t,.ref r⟩] 1)):InstAt s.heap a (Y2 B.cS d) B.cS (some (YM [⟨hh,.str g8 t,.ref r⟩] 1)):=⟨h1,rfl,rfl,h2⟩
theorem Jr(D:qA B K cd fI fdI){A:bY}{r:bQ}{t:BY}(st:B.H.StaysIn s.heap)(h1:s.heap.get? a=some (Y2 B.cS d))(h2:s.heap.get? d=some (YM [⟨hh,.str g8 t,.ref r⟩] 1))
  (q:∀ tk,Q (.ref r) { s with toks:=tk }):wpAny (cr B.prog B.w) A (adk (.ref a) g8 true) Q E s:=by
 refine get_value (l5 D.kin st) (Bq h1 h2) D.gaS (v:=.ref r) ?_ rfl (q _);unfold findObj;rw[D.kS,D.rowN];simp only[cH];unfold aed;rw[D.dct];simp[lookIn,afh]
theorem Js(D:qA B K cd fI fdI){m:fw}{f:bQ}(hf:Zi K (.ref B.cS) m=some (some (.ref f)))(ht:typeIn K (.ref f)=some (.type "function"))(hm:g8≠m)
  {A:bY} {s:aO} {a d r:bQ} {hh:Int} {t:BY} {pl:Xm Bool} {Q:am×List am->aO->Prop} {E:am->aO->Prop} (st:B.H.StaysIn s.heap) (h1:s.heap.get? a=some (Y2 B.cS d)) (h2:s.heap.get? d=some (YM [⟨hh,.str g8 t,.ref r⟩] 1))
  (q:Q (.ref f,[.ref a]) s):wpAny (cr B.prog B.w) A (aaW (.ref a) m pl) Q E s:=by
 refine method_fn (l5 D.kin st) (Bq h1 h2) D.gaS D.gaN hf ht ?_ q;have:(ad6 g8 t).isStr m=false:=by simp[afh,hm]
 simp[shadowIn,lookIn,this,DictEntry.refKey]
theorem Inv.cellIn(x:Inv B envs P μ O s){r:bQ}{c:Cell}(k:∀ b o,s.heap.get? b=some o->h'.get? b=some o)(acL:s.heap.get? r=none)(hr:∃ o,h'.get? r=some o)
  (hc:CellAt B h' (μ++[r]) ((μ++[r])++P) c r):Inv B envs P (μ++[r]) (O++[c]) { s with heap:=h',toks:=tk }:=by
 have hν:∀ a∈[r],s.heap.get? a=none:=fun a m=>by rw[a8 m];exact acL
 have nP:∀ a∈μ++P,a≠r:=fun a m q=>by obtain⟨o',e⟩:=x.dom a m;rw[q,acL]at e;exact nn e
 refine⟨fun b o' e=>k b o' (x.stays b o' e),x.gens,x.os,fun a m=>?_,fun a m=>?_,?_,fun a m=>?_,by simp[x.len],fun i c' a h1 h2=>?_,fun e he=>(x.frs e he).go (Go.of_keeps k) x.apart⟩
 ·rcases iq hν a m with q|q
  ·exact x.new a q
  ·induction q':B.H.get? a using aL with
   | none=>rfl
   | some o'=>have:=x.stays a o' q';rw[q]at this;exact nn this
 ·rcases bU m with q|q
  ·rcases bU q with q|q
   ·obtain⟨o',e⟩:=x.dom a (bo _ q);exact⟨o',k a o' e⟩
   ·rw[a8 q];exact hr
  ·obtain⟨o',e⟩:=x.dom a (aq _ q);exact⟨o',k a o' e⟩
 ·rw[aaU];refine⟨x.nodup,by simp,fun a ha b hb=>?_⟩;rw[a8 hb];exact nP a (bo _ ha)
 ·rcases bU m with q|q
  ·exact x.apart a q
  ·rw[a8 q];exact fun hp=>nP _ (aq _ hp) rfl
 ·by_cases hi:i<O.length
  ·rw[eQ hi]at h1;rw[eQ (by rw[x.len];exact hi)]at h2;exact(x.cells i c' a h1 h2).move (Kp.of_keeps k) (fun o e=>k a o e) mI (iq hν)
  ·have CC:i=O.length:=by
    have:=(iQ h1).1;rw[bv,aac]at this;exact PJ ‹_› ‹_›
   subst CC;rw[eM (kG _),Z5]at h1;rw[<- x.len,eM (kG _),Z5]at h2;obtain rfl:=si h1;obtain rfl:=si h2
   exact hc
theorem wJ{A:bY}{C x:bQ}{dt:Data}{Q:Option bQ->aO->Prop}(X:K.In s.heap)(hc:afg K C=some cd)(hd:cd.hasDict=true)(hx:s.heap.get? x=some { cls:=.ref C,dict:=some d,data:=dt,slots:=sl })
  (h:Q (some d) s):wpAny (cr prog w) A (ownDictForStores (.ref x)) Q E s:=by
 show wpAny _ _ (aaR x true) _ _ s;unfold aaR;refine aa (ab4 hx ?_);dsimp only;refine aa ((ac9 X hc).here ?_);rw[hd,if_neg (by decide)];exact ae h
theorem Gz(D:qA B K cd fI fdI){A:bY}{x dx:bQ}{v:am}{Q:Unit->aO->Prop}(st:B.H.StaysIn s.heap)(hx:s.heap.get? x=some (Y2 B.cS dx))(hd:s.heap.get? dx=some (YM [] 0))
  (q:∀ h' tk hh t,fq dx s.heap h'->h'.get? dx=some (YM [⟨hh,.str g8 t,v⟩] 1)->Q () { s with heap:=h',toks:=tk }) :
  wpAny (cr B.prog B.w) A (afc (.ref x) g8 v) Q E s:=by
 generalize(l5 (B:=B) D.kin st)=X;generalize(⟨hx,rfl,rfl,hd⟩:InstAt s.heap x (Y2 B.cS dx) B.cS (some (YM [] 0)))=I;refine set_plain X I D.setS ?_;refine osa_open (s:={ s with toks:=s.toks+1 }) X I D.over D.takR fun b=>?_;refine aa (ae (aa ?_));refine wJ (s:={ s with toks:=s.toks+1 }) X D.kS D.dct hx ?_;refine y7 (s:={ s with toks:=s.toks+1 }) rfl hd rfl (es':=[⟨_,_,_⟩]) (n':=1) (by simp) rfl fun h' cC gx=>?_;exact q h' _ _ _ cC gx
noncomputable def g9:aG:=fun vs O=>match vs with
 | []=>.ok (.sett O.length,O++[.dict [] []])
 | _=>.stuck
theorem zb(BO:aP B)(D:qA B K cd fI fdI)(k:Nat):FnOk B k (.ref B.cS) g9:=by
 intro A envs P μ O s vs us Q E gA hh iY on I R H;induction vs using cz with
 | cons v vs=>exact H.elim
 | nil =>
  replace R:=b8 R;subst R;generalize(H:Aft B envs P μ [] s.heap (.ok (.sett O.length,O++[.dict [] []])) (KV B P Q) E)=H';generalize(l5 (B:=B) D.kin I.stays)=X;have Y:=makes_of (M:=cr B.prog B.w) X D.makes;refine ab fun _ gG=>?_;obtain⟨p1,p2,p3,p4,DF,hsw⟩:=D.defI;refine gG ?_;clear gG
  refine ab fun _ gG=>?_;obtain⟨o,uR,Dn,AB⟩:=DF.obj;refine gG ?_;clear gG
  have k2:∀ b o,s.heap.get? b=some o->((s.heap.push acg).push (Y2 B.cS s.heap.objs.size)).get? b=some o:=fun b o e=>ag _ (ag _ e)
  refine ZK ?_;refine make_core (h:=s.heap) (g:=s.gens) (d:=s.drawn) (t:=s.toks) (os:=s.os) Y (abK X D.ini) (fun self=>bind_fn X self D.fnI) (.inl rfl) ?_;have hx:((s.heap.push acg).push (Y2 B.cS s.heap.objs.size)).get? (s.heap.objs.size+1)=some (Y2 B.cS s.heap.objs.size):=by
   have:=ct (s.heap.push acg) (o:=Y2 B.cS s.heap.objs.size) rfl;rw[Yw]at this;exact this
  have hd:((s.heap.push acg).push (Y2 B.cS s.heap.objs.size)).get? s.heap.objs.size=some (YM [] 0):=ag _ (ct _ rfl);have fr:∀ j,s.heap.get? (s.heap.objs.size+j)=none:=fun j=>ku (ef _ _)
  have hsz:((s.heap.push acg).push (Y2 B.cS s.heap.objs.size)).objs.size=s.heap.objs.size+2:=by simp[Yw]
  generalize((s.heap.push acg).push (Y2 B.cS s.heap.objs.size))=aF at hx hd k2 hsz ⊢;have st₁:B.H.StaysIn aF:=fun b o e=>k2 b o (I.stays b o e)
  refine acX (s:=⟨aF,s.gens,s.drawn,s.toks,s.os⟩) (A:=Around.made A B.cS []) (by rw[sF];show A.depth+1<1000;exact QK ‹_›) (st₁ _ _ uR) Dn (BO.nolim.keeps st₁) (DF.code.keeps st₁) DF.body (D.bindI _ _ st₁) DF.cells (fun x hx=>?_) (fun bi fZ hk₂=>?_) DF.co DF.gen DF.kind
  ·rw[a8 hx];exact D.namI
  ·generalize hE:callEnv fdI aF.objs.size fI=env;have e1:env.scope=fdI.scope:=by rw[<- hE];rfl
   have e2:env.locals=aF.objs.size:=by rw[<- hE];rfl
   have hk:env.scope.kind= .function:=by rw[e1];exact DF.kind
   have l1:env.kindOf cD=some .local:=by show env.scope.names.lookup _=_;rw[e1];exact D.namI
   have fZ:bi.Ns env.locals (fun x=>([(cD,gH (s.heap.objs.size+1))]:List (fw×am)).reverse.lookup x):=by rw[e2];exact fZ
   generalize hm:(fun x=>([(cD,gH (s.heap.objs.size+1))]:List (fw×am)).reverse.lookup x)=m at fZ;have vS:m cD=some (.ref (s.heap.objs.size+1)):=by rw[<- hm];rfl'
   refine Yd (aan (rY (gL (s:=⟨bi.push { cls:=.type "dict",data:=.dict #[] },s.gens,s.drawn,s.toks+1,s.os⟩) hk l1 (fZ.keeps fun b o e=>ag _ e) vS rfl ?_)) (hsw env));have hk3:∀ b o,aF.get? b=some o->(bi.push { cls:=.type "dict",data:=.dict #[] }).get? b=some o:=fun b o e=>ag _ (hk₂ b o e)
   have OF:B.H.StaysIn (bi.push { cls:=.type "dict",data:=.dict #[] }):=fun b o e=>hk3 b o (st₁ b o e)
   have xA:(bi.push { cls:=.type "dict",data:=.dict #[] }).get? bi.objs.size=some { cls:=.type "dict",data:=.dict #[] }:=ct _ rfl;refine Gz D (s:=⟨bi.push { cls:=.type "dict",data:=.dict #[] },s.gens,s.drawn,s.toks+1,s.os⟩) OF (hk3 _ _ hx) (hk3 _ _ hd) fun jH tk hh t hs₄ OG=>?_;refine YJ ?_;have hs₄:fq s.heap.objs.size (bi.push { cls:=.type "dict",data:=.dict #[] }) jH:=hs₄;generalize(cR (hk₂ _ _ hd):s.heap.objs.size<bi.objs.size)=l2;generalize(cR (hk₂ _ _ hx):s.heap.objs.size+1<bi.objs.size)=l3;generalize(fun b o e=>hs₄.extBut b o (jr (cR e)) (hk3 b o (k2 b o e)):∀ b o,s.heap.get? b=some o->jH.get? b=some o)=kall;generalize(ku (YG l2):s.heap.get? bi.objs.size=none)=gA;have Tl:jH.get? bi.objs.size=some { cls:=.type "dict",data:=.dict #[] }:=hs₄.extBut _ _ (YW l2) xA;generalize(hs₄.extBut _ _ (acy _) (hk3 _ _ hx):jH.get? (s.heap.objs.size+1)=some (Y2 B.cS s.heap.objs.size))=VI;have I4:Inv B envs P (μ++[bi.objs.size]) (O++[.dict [] []]) { s with heap:=jH,toks:=tk }:=I.cellIn kall gA ⟨_,Tl⟩
    ⟨rfl,[],⟨[],⟨_,#[],0,Tl,⟨rfl,rfl,rfl⟩,rfl,rfl,nofun,Z2⟩,rfl,nofun,rfl⟩,z0⟩
   have hν:∀ a∈[bi.objs.size],s.heap.get? a=none:=fun a m=>by rw[a8 m];exact gA
   have nin:∀ {a},s.heap.get? a=none->a≠bi.objs.size->a∉(μ++[bi.objs.size])++P:=fun{a} e ne m=>by
    refine ab fun _ gG=>?_;rcases iq hν a m with q|q<;>refine gG ?_<;>clear gG
    ·obtain⟨o',e'⟩:=I.dom a q;rw[e]at e';exact nn e'
    ·refine ab fun _ gG=>?_;rcases bU m with m|m<;>refine gG ?_<;>clear gG
     ·refine ab fun _ gG=>?_;rcases bU m with m|m<;>refine gG ?_<;>clear gG
      ·obtain⟨o',e'⟩:=I.dom a (bo _ m);rw[e]at e';exact nn e'
      ·exact ne (a8 m)
     ·obtain⟨o',e'⟩:=I.dom a (aq _ m);rw[e]at e';exact nn e'
   refine⟨rfl,H' [bi.objs.size] { s with heap:=jH,toks:=tk } hν I4 (Go.of_keeps kall) _ ?_⟩;exact SG (nin (fr 1) (jr l3)) (nin (fr 0) (jr l2)) VI OG (yQ I.len _)
theorem GA{C:bQ}{dd:Option bQ}(hC:B.H.get? C=some ⟨.type "type",dd,.cls cd,sl⟩):Kept B (.ref C):=by
 refine⟨.machine,.inr rfl,fun{A s Q E} st q=>?_⟩;have Tm:=st _ _ hC;have f1:=tc_lookup;have hT:s.TypeIs (.ref C) "type":=⟨_,Tm,rfl⟩
 obtain⟨h,g,d,t,os⟩:=s;unfold ab8;repeat (any_goals (first|assumption|with_reducible refine Yn Tm ?_|wp_step))
theorem u9{f:bQ}{o:Obj}(ho:B.H.get? f=some o)(hd:o.data= .func fd):Kept B (.ref f):=by
 refine⟨.frame,.inl rfl,fun{A s Q E} st q=>?_⟩;unfold ab8;refine aa (abJ (st _ _ ho) ?_);rw[hd];exact ae q
end
end
section
set_option backward.match.sparseCases true
noncomputable def mn(f:V->V->Option Bool):List V->List V->Option Bool
 | [],[]=>some false
 | [],_::_=>some true
 | _::_,[]=>some false
 | a::l,b::m=>(fM a b).bind fun e=>if e=true then mn f l m else f a b
noncomputable def Jt(f:List V->List V->Option Bool)(a b:V):Option Bool:=match a with
 | .int x=>match b with
  | .int y=>some (decide (x<y))
  | _=>none
 | .str x=>match b with
  | .str y=>some (!(pL y x))
  | _=>none
 | .tup l=>match b with
  | .tup m=>f l m
  | _=>none
 | .lst l=>match b with
  | .lst m=>f l m
  | _=>none
 | _=>none
noncomputable def zc(n:Nat):V->V->Option Bool:=Nat.rec (motive:=fun _=>V->V->Option Bool) (Jt fun _ _=>none) (fun _ r=>Jt (mn r)) n
theorem Br{P:V->V->Prop}{f:List V->List V->Option Bool}{c:Bool}(h1:∀ x y,decide (x<y)=c->P (.int x) (.int y))(h2:∀ x y,(!(pL y x))=c->P (.str x) (.str y))(h3:∀ l l',f l l'=some c->P (.tup l) (.tup l'))(h4:∀ l l',f l l'=some c->P (.lst l) (.lst l'))
  {a b:V} (h:Jt f a b=some c):P a b:=by
 induction a using V.casesOn with
 | int x=>induction b using V.casesOn with
  | int y=>exact h1 x y (si h)
  | _=>exact nn h
 | str x=>induction b using V.casesOn with
  | str y=>exact h2 x y (si h)
  | _=>exact nn h
 | tup x=>induction b using V.casesOn with
  | tup y=>exact h3 x y h
  | _=>exact nn h
 | lst x=>induction b using V.casesOn with
  | lst y=>exact h4 x y h
  | _=>exact nn h
 | _=>exact nn h
theorem LS{P:V->V->Prop}{c:Bool}(h1:∀ x y,decide (x<y)=c->P (.int x) (.int y))(h2:∀ x y,(!(pL y x))=c->P (.str x) (.str y))(h3:∀ m l l',n=m+1->mn (zc m) l l'=some c->P (.tup l) (.tup l'))(h4:∀ m l l',n=m+1->mn (zc m) l l'=some c->P (.lst l) (.lst l'))
  {a b:V} (h:zc n a b=some c):P a b:=by
 induction n using ZU with
 | zero=>exact Br h1 h2 (fun _ _ h=>nn h) (fun _ _ h=>nn h) h
 | succ n=>exact Br h1 h2 (fun l l' h=>h3 n l l' rfl h) (fun l l' h=>h4 n l l' rfl h) h
theorem tR{h:ir}{T:String}{P:Prop}(x:∃ o,h.get? a=some o/\o.cls= .type T/\∃ n,o.data= .seq xs n)(k:∀ n dd sl,h.get? a=some { cls:=.type T,dict:=dd,data:=.seq xs n,slots:=sl }->P):P:=by
 obtain⟨⟨c,dd,dt,sl⟩,ho,e1,n,e2⟩:=x;obtain rfl:c=_:=e1;obtain rfl:dt=_:=e2;exact k n dd sl ho
noncomputable def Bs(B:bw)(A:bY)(s:aO)(μ X:List bQ)(f:V->V->Option Bool):Prop :=
 ∀ {a b:V} {c:Bool} {u x:am},f a b=some c->Rep B s.heap μ X a u->Rep B s.heap μ X b x->∀ {Q:am->aO->Prop} {E:am->aO->Prop},Q (.bool c) s->wpAny (cr B.prog B.w) A (ab6 .Lt u x) Q E s
theorem xE{a b:V}{m:List V}{c:Bool}(h:mn f (a::l) (b::m)=some c):(fM a b=some true/\mn f l m=some c)\/(fM a b=some false/\f a b=some c):=by
 have h:((fM a b).bind fun e=>if e=true then mn f l m else f a b)=some c:=h;induction he:fM a b using aL with
 | none=>rw[he]at h;exact nn h
 | some e =>
  rw[he]at h;induction e using iN with
  | true=>exact .inl ⟨rfl,h⟩
  | false=>exact .inr ⟨rfl,h⟩
theorem va{h:ir}(r:Reps B h μ X (v::l) (us.drop i)):∃ u,us[i]?=some u/\Rep B h μ X v u/\Reps B h μ X l (us.drop (i+1)):=by
 replace r:=ba r;obtain⟨u,q,e,r1,r2⟩:=r;generalize((l0 e)).1=h1;generalize((l0 e)).2=h2;exact⟨u,h1,r1,h2▸r2⟩
theorem xF{h:ir}(r:Reps B h μ X [] (us.drop i)):us[i]?=none:=by
 replace r:=b8 r;exact Zv (List.drop_eq_nil_iff.mp r)
theorem Ju{A:bY}{b:bQ}{ca cb:am}{na nb:Nat}{dd VJ:Option bQ}{wC:Array (Option am)}(ha:s.heap.get? a=some { cls:=ca,dict:=dd,data:=.seq xs na,slots:=sl })(hb:s.heap.get? b=some { cls:=cb,dict:=VJ,data:=.seq ys nb,slots:=wC })(hu:A.in1.units+64<ZZ)(hf:Bs B A.in1 s μ X f) :
  ∀ (l m:List V) (i:Nat) {c:Bool} {R:abf->aO->Prop},i<=xs.size->i<=ys.size->Reps B s.heap μ X l (xs.toList.drop i)->Reps B s.heap μ X m (ys.toList.drop i)->mn f l m=some c->R (.ok (.ret (.bool c))) s ->
   codeAny (cr B.prog B.w) A (.builtin "list.__eq__.loop" ⟨[.ref a,.ref b,rawInt i,rawInt 0],[]⟩) R s:=by
 intro l;obtain⟨hp,g,d,tk,os⟩:=s;induction l with
 | nil =>
  intro m i c R hi hj hl hm h hR;have e1:=xF hl;have XA:xs.size<=i:=by
   have:=List.getElem?_eq_none_iff.mp e1;simpa using this
  refine Zc acF ?_;rw[YQ ZI _];wp_walk using dP ha,dP hb
  have GB:xs[((i:Nat):Int).toNat]?=none:=by simp;assumption
  rw[GB];wp_walk using dP ha,dP hb
  show R (.ok (.ret (.bool (decide (xs.size<ys.size))))) _;have XC:xs.size=i:=by exact Qg ‹_› ‹_›
  have To:ys.toList.length-i=m.length:=by have:=hm.length;rw[aaf]at this;exact this
  have:decide (xs.size<ys.size)=c:=by
   induction m using cz with
   | nil =>
    obtain rfl:=si h;simp at To;simp;exact QW ‹_› ‹_›
   | cons w m =>
    obtain rfl:=si h;simp at To;simp;exact Ru ‹_› ‹_›
  rw[this];exact hR
 | cons v l ih =>
  intro m i c R hi hj hl hm h hR;obtain⟨u,LU,ru,rl⟩:=va hl;have hlt:i<xs.size:=by
   have:=(iQ LU).1;simpa using this
  have OH:xs[((i:Nat):Int).toNat]?=some u:=by simpa using LU
  refine Zc acF ?_;rw[YQ ZI _];induction m using cz with
  | nil =>
   have e1:=xF hm;have N6:ys.size<=i:=by
    have:=List.getElem?_eq_none_iff.mp e1;simpa using this
   have LV:ys[((i:Nat):Int).toNat]?=none:=by simp;assumption
   wp_walk using dP ha,dP hb
   rw[OH,LV];wp_walk using dP ha,dP hb
   show R (.ok (.ret (.bool (decide (xs.size<ys.size))))) _;obtain rfl:=si h;have:decide (xs.size<ys.size)=false:=by simp;exact MR ‹_› ‹_›
   rw[this];exact hR
  | cons w m =>
   obtain⟨x,uV,rx,rm⟩:=va hm;have AC:i<ys.size:=by
    have:=(iQ uV).1;simpa using this
   have LV:ys[((i:Nat):Int).toNat]?=some x:=by simpa using uV
   wp_walk using dP ha,dP hb
   rw[OH,LV];have hc:((i:Int)+1)=((i+1:Nat):Int):=by push_cast;rfl
   rcases xE h with⟨he,hr⟩|⟨he,hr⟩
   ·refine aa (jz (A:=A.in1) (s:=⟨hp,g,d,tk,os⟩) hu ru rx he B.prog B.w _ _ ?_);wp_walk
    rw[hc];exact⟨ZX ZI _,ih m (i+1) hlt AC rl rm hr hR⟩
   ·refine aa (jz (A:=A.in1) (s:=⟨hp,g,d,tk,os⟩) hu ru rx he B.prog B.w _ _ ?_);wp_walk using dP ha,dP hb
    rw[OH,LV];refine aa (hf hr ru rx ?_);exact ae hR
theorem Jv{A:bY}{m:List V}{x:am}{c:Bool}(hu:A.in1.units+64<ZZ)(hf:Bs B A.in1 s μ X f)(ra:Rep B s.heap μ X (.lst l) u)(rb:Rep B s.heap μ X (.lst m) x)(h:mn f l m=some c)(q:Q (.bool c) s) :
  wpAny (cr B.prog B.w) A (ab6 .Lt u x) Q E s:=by
 obtain⟨a,xs,rfl,_,tB,DL⟩:=ez ra;obtain⟨b,ys,rfl,_,Bb,DM⟩:=ez rb;have pb:A.units<ZZ:=by show A.units<9900;have:A.units+1+64<9900:=hu;exact Fx ‹_›
 refine ZD (op:=.Lt) tB.typeIs Bb.typeIs PySem.F.slot_list_lt ?_ pb;refine ZK (Ze PySem.F.slot_list_lt.plain PySem.F.entry_list_lt (PySem.F.slot_list_lt.check _ _ _ _ _ _ _ _ tB.typeIs (PySem.F.args_list_lt_2 _ _) ?_));refine tR tB fun na VK VL ha=>tR Bb fun nb VM VN hb=>?_;have key:codeAny (cr B.prog B.w) A (.builtin "list.__eq__.loop" ⟨[.ref a,.ref b,rawInt 0,rawInt 0],[]⟩) (fun r s'=>match r with | .ok (.ret v)=>v≠.notImplemented/\Q v s' | .ok _=>False | .error e=>E e s') s :=
  Ju (f:=f) ha hb hu hf l m 0 (YC _) (YC _) (by simpa using DL) (by simpa using DM) h ⟨nofun,q⟩
 obtain⟨hp,g,d,tk,os⟩:=s;generalize(AutoSeq1.sub_list_list)=f3;wp_walk using dP ha,dP hb
 exact⟨ZX ZI _,key⟩
theorem Jw{m:List V}{c:Bool}{a:Nat}(h:mn f l m=some c)(hz:l=[]\/m=[])(hl:l.length+b=m.length+a):decide (a<b)=c:=by
 induction l using cz with
 | nil=>induction m using cz with
  | nil=>rw[<- si h,decide_eq_false_iff_not];simp only[dv]at hl;exact Qt ‹_›
  | cons w m=>rw[<- si h,decide_eq_true_iff];simp only[dv,cx]at hl;exact QY ‹_›
 | cons v l=>induction m using cz with
  | nil=>rw[<- si h,decide_eq_false_iff_not];simp only[dv,cx]at hl;exact Q6 ‹_›
  | cons w m=>exact absurd hz (by simp)
theorem Jx{h:ir}{m:List V}{ws:List am}(rl:Reps B h μ X l us)(rm:Reps B h μ X m ws)(hz:[]=adA us ws):l=[]\/m=[]:=by
 induction l using cz with
 | nil=>exact .inl rfl
 | cons v l=>induction m using cz with
  | nil=>exact .inr rfl
  | cons w m =>
   obtain⟨_,_,rfl,_⟩:=rl;obtain⟨_,_,rfl,_⟩:=rm;exact nomatch hz
theorem GC{h:ir}{m:List V}{ws:List am}{x:am}{rest:List (am×am)}(rl:Reps B h μ X l us)(rm:Reps B h μ X m ws)(hz:(y,x)::rest=adA us ws):∃ v l' w m' oh y5,l=v::l'/\m=w::m'/\rest=adA oh y5/\Rep B h μ X v y/\Rep B h μ X w x/\Reps B h μ X l' oh/\Reps B h μ X m' y5:=by
 induction l using cz with
 | nil=>obtain rfl:=b8 rl;exact nomatch hz
 | cons v l=>induction m using cz with
  | nil=>obtain rfl:=b8 rm;simp at hz
  | cons w m =>
   obtain⟨u0,oh,rfl,ru,rl⟩:=rl;obtain⟨x0,y5,rfl,rx,rm⟩:=rm;generalize((abu hz)).1=e;obtain rfl:=((abu hz)).2;obtain rfl:=((Ym e)).1;obtain rfl:=((Ym e)).2;exact⟨v,l,w,m,oh,y5,rfl,rfl,rfl,ru,rx,rl,rm⟩
inductive Jy(B:bw)(h:ir)(μ X:List bQ)(f:V->V->Option Bool)(c:Bool)(a b:Nat):List (am×am)->Prop
 | mk {l m:List V} {us ws:List am} (rl:Reps B h μ X l us) (rm:Reps B h μ X m ws) (hv:mn f l m=some c) (hl:l.length+b=m.length+a):Jy B h μ X f c a b (adA us ws)
theorem GD{h:ir}{c:Bool}{a:Nat}{x:am}{rest:List (am×am)}(H:Jy B h μ X f c a b ((y,x)::rest)):∃ v w,Rep B h μ X v y/\Rep B h μ X w x/\(fM v w=some true/\Jy B h μ X f c a b rest\/fM v w=some false/\f v w=some c):=by
 generalize hz:(y,x)::rest=z at H;obtain⟨rl,rm,hv,hl⟩:=H;obtain⟨v,l',w,m',oh,y5,rfl,rfl,rfl,ru,rx,rl,rm⟩:=GC rl rm hz;exact⟨v,w,ru,rx,(xE hv).elim (fun q=>.inl ⟨q.1,rl,rm,q.2,by simp only[cx]at hl;exact Sn ‹_›⟩) .inr⟩
theorem Jz{h:ir}{c:Bool}{a:Nat}(H:Jy B h μ X f c a b []):decide (a<b)=c:=by
 generalize hz:[]=z at H;obtain⟨rl,rm,hv,hl⟩:=H;exact Jw hv (Jx rl rm hz) hl
theorem GF{A:bY}{m:List V}{x:am}{c:Bool}(hu:A.in1.units+64<ZZ)(hf:Bs B A.in1 s μ X f)(ra:Rep B s.heap μ X (.tup l) u)(rb:Rep B s.heap μ X (.tup m) x)(h:mn f l m=some c)(q:Q (.bool c) s) :
  wpAny (cr B.prog B.w) A (ab6 .Lt u x) Q E s:=by
 obtain⟨a,xs,rfl,_,tB,DL⟩:=eA ra;obtain⟨b,ys,rfl,_,Bb,DM⟩:=eA rb;have pb:A.units<ZZ:=by show A.units<9900;have:A.units+1+64<9900:=hu;exact RP ‹_›
 refine ZD (op:=.Lt) tB.typeIs Bb.typeIs PySem.F.slot_tuple_lt ?_ pb;refine ZK (Ze PySem.F.slot_tuple_lt.plain PySem.F.entry_tuple_lt (PySem.F.slot_tuple_lt.check _ _ _ _ _ _ _ _ tB.typeIs (PySem.F.args_tuple_lt_2 _ _) ?_));refine tR tB fun na VK VL ha=>tR Bb fun nb VM VN hb=>?_;generalize(DL.length)=n1;generalize(DM.length)=n2;obtain⟨hp,g,d,tk,os⟩:=s;generalize(AutoSeq1.sub_tuple_tuple)=f2;have VO:xs.size=l.length:=by simpa using n1
 have VP:ys.size=m.length:=by simpa using n2
 wp_walk using dP ha,dP hb,afr _ (fun rest b s'=>b.1=none/\s'=⟨hp,g,d,tk,os⟩/\Jy B hp μ X f c l.length m.length rest) _
 case turn =>
  rintro⟨y,x⟩ rest b s' ⟨q7,rfl,H⟩;obtain⟨v,w,ru,rx,H⟩:=GD H;rcases H with⟨he,H⟩|⟨he,hr⟩
  ·refine aa (jz (A:=A.in1) (s:=⟨hp,g,d,tk,os⟩) hu ru rx he B.prog B.w _ _ ?_);wp_walk
   exact⟨rfl,rfl,H⟩
  ·refine aa (jz (A:=A.in1) (s:=⟨hp,g,d,tk,os⟩) hu ru rx he B.prog B.w _ _ ?_);refine afL (fun _=>?_) (fun II=>absurd rfl II);refine aa (aar ?_);refine aa (hf hr ru rx ?_);refine aa (ae (ae (ae ?_)));exact⟨nofun,q⟩
 case fin =>
  rintro⟨b1,b2⟩ s' ⟨q7,rfl,H⟩;simp only at q7;subst q7;have:decide (xs.size<ys.size)=c:=by
   rw[VO,VP];exact Jz H
  wp_walk
  subst this;exact⟨nofun,by simpa[afH]using q⟩
 case h =>
  exact⟨rfl,rfl,⟨DL,DM,h,ZH _ _⟩⟩
theorem Fh{A:bY}{a b:V}{c:Bool}{x:am}(ih:∀ m,n=m+1->A.in1.units+64<ZZ/\Bs B A.in1 s μ X (zc m))(h:zc n a b=some c)(ra:Rep B s.heap μ X a u)(rb:Rep B s.heap μ X b x)(q:Q (.bool c) s):wpAny (cr B.prog B.w) A (ab6 .Lt u x) Q E s:=by
 refine LS (P:=fun a b=>Rep B s.heap μ X a u->Rep B s.heap μ X b x->wpAny (cr B.prog B.w) A (ab6 .Lt u x) Q E s) (fun x y e ra rb=>?_) (fun x y e ra rb=>?_) (fun m l l' e h ra rb=>GF (ih m e).1 (ih m e).2 ra rb h q) (fun m l l' e h ra rb=>Jv (ih m e).1 (ih m e).2 ra rb h q) h ra rb
 ·obtain⟨t,rfl⟩:=dS ra;obtain⟨t',rfl⟩:=dS rb;exact ad7 (e▸q)
 ·obtain⟨t,rfl⟩:=c8 ra;obtain⟨t',rfl⟩:=c8 rb;refine PySem.P.lt_str ?_;rw[show(decide ((aB x).cps.toList<(aB y).cps.toList))=!(pL y x)by rw[<- y4 y x];simp,e];exact q
theorem OI(n:Nat):∀ {A:bY} {s:aO} {μ X:List bQ},A.units+n+66<ZZ->Bs B A s μ X (zc n):=by
 induction n with
 | zero =>
  intro A s μ X hu a b c u x h ra rb Q E q;exact Fh (fun m e=>absurd e.symm (Nat.succ_ne_zero m)) h ra rb q
 | succ n ih =>
  intro A s μ X hu a b c u x h ra rb Q E q;have LU:A.in1.units+n+66<ZZ:=by show A.units+1+n+66<ZZ;exact Ry ‹_›
  exact Fh (fun m e=>by cases e;exact⟨fc (Yo (lP (j5 (YC n)) _) (by decide)) hu,ih LU⟩) h ra rb q
end
noncomputable abbrev iJ(h:ir)(d:bQ)(es:Array abF)(ep:Nat):Prop:=h.get? d=some { cls:=.type "dict",data:=.dict es ep }
section
variable{A:bY}{es:Array abF}{ep:Nat}
theorem GG(hd:(d==YD)=false)(hm:iJ s.heap d es ep)
  (hQ:Q (.ref s.heap.objs.size) { s with heap:=s.heap.push { cls:=.type "dict_keyiterator",data:=.fields #[.ref d,.int 0 0,.int es.size 0,.int ep 0] } }) :
  wpAny (cr prog w) A (aas (.ref d)) Q E s:=by
 have hT:s.TypeIs (.ref d) "dict":=⟨_,hm,rfl⟩
 refine wpAny_pyIter_slot hT acZ (Ys acZ hT PySem.F.entry_dict_iter ?_ (PySem.F.args_dict_iter_1 _));unfold Builtin.«dict.__iter__» age;refine aa (aa (aap hT (ae ?_)));refine aa (ae ?_);unfold acC;refine aa ?_;show wpAny _ _ (if(d==YD)=true then _ else _) _ _ s;rw[hd,if_neg jG];refine ae (aa (Zd hm rfl (aa (aaK hm rfl ?_))));exact aa (Yg (ae ⟨_,rfl,"dict_keyiterator",_,⟨_,ct _ rfl,rfl⟩,PySem.F.slot_dict_keyiterator_next.lookup,hQ⟩))
theorem GH{Q:Option am->aO->Prop}(hit:s.heap.IsKeyIter it d i es.size ep)(hm:iJ s.heap d es ep)(hlt:i<es.size)
  (hQ:∀ h',h'.IsKeyIter it d (i+1) es.size ep->fq it s.heap h'->Q (some es[i].key) { s with heap:=h' }):wpAny (cr prog w) A (Z4 (.ref it)) Q E s:=by
 obtain⟨o,ho,hc,hd⟩:=id hit;unfold Z4;refine aa (aaz (Yp (name:=ac "__next__") hit.typeIs YV
  (Ys YV hit.typeIs abG ?_ (abA _))))
 refine aa (ae (aa (aa ?_)));first|refine aa (Zu hit.typeIs (ae ?_))|refine aa (ZV hit.typeIs (ae ?_))
 refine aa (agg ho hd ?_);have hown:Y6 "dict_keyiterator"=false:=by decide
 rw[if_neg (show¬(Y6 "dict_keyiterator"=true)from by rw[hown];exact jG)];show wpAny _ _ (if(gH d==Yr)=true then _ else _) _ _ s;rw[if_neg (show¬((gH d==Yr)=true)from jG)];refine aa (ae (aa (Zd hm rfl ?_)));rw[if_neg (by simp)];refine aa (ae (aa (aaK hm rfl ?_)));rw[if_neg (by simp)];refine ae ?_;simp only[show¬((i:Int)<0)from nz,if_false,Z8,Y5 hlt];refine aa ?_;first|refine aa (Zu hit.typeIs (ae ?_))|refine aa (ZV hit.typeIs (ae ?_))
 refine aa (aea hit.typeIs ?_);show wpAny _ _ (setField (.ref it) 1 (rawInt ((i:Int)+1))>>=_) _ _ s;refine aa (ZJ ho hd (by simp) ?_);have pY:(s.heap.update it (ab0 (·.setIfInBounds 1 (rawInt ((i:Int)+1))))).IsKeyIter it d (i+1) es.size ep :=
  ⟨_,Yv _ ho (aad (Zo hd _)),(aee ..).trans hc,by rw[Zo hd];simp[rawInt]⟩
 refine aa (eG ?_);refine aa (aea (s:={ s with heap:=s.heap.update it (ab0 (·.setIfInBounds 1 (rawInt ((i:Int)+1)))) }) pY.typeIs ?_);show wpAny _ _ (pure es[i].key) _ _ _;exact ae (ae ⟨_,rfl,ae (hQ _ pY (j7 ..))⟩)
theorem JA{Q:Option am->aO->Prop}(hh:A.handled=none)(hit:s.heap.IsKeyIter it d es.size es.size ep)(hm:iJ s.heap d es ep)
  (hQ:∀ h',acB it s.heap h'->Q none { s with heap:=h' }):wpAny (cr prog w) A (Z4 (.ref it)) Q E s:=by
 obtain⟨o,ho,hc,hd⟩:=id hit;unfold Z4;refine aa (aaz (Yp (name:=ac "__next__") hit.typeIs YV
  (Ys YV hit.typeIs abG ?_ (abA _))))
 refine aa (ae (aa (aa ?_)));first|refine aa (Zu hit.typeIs (ae ?_))|refine aa (ZV hit.typeIs (ae ?_))
 refine aa (agg ho hd ?_);have hown:Y6 "dict_keyiterator"=false:=by decide
 rw[if_neg (show¬(Y6 "dict_keyiterator"=true)from by rw[hown];exact jG)];show wpAny _ _ (if(gH d==Yr)=true then _ else _) _ _ s;rw[if_neg (show¬((gH d==Yr)=true)from jG)];refine aa (ae (aa (Zd hm rfl ?_)));rw[if_neg (by simp)];refine aa (ae (aa (aaK hm rfl ?_)));rw[if_neg (by simp)];refine ae ?_;simp only[show¬((es.size:Int)<0)from nz,if_false,Z8,aa7 (kG es.size)];refine aa ?_;first|refine aa (Zu hit.typeIs (ae ?_))|refine aa (ZV hit.typeIs (ae ?_))
 show wpAny _ _ (setField (.ref it) 0 .none>>=_) _ _ s;refine aa (ZJ ho hd (by simp) ?_);show wpAny _ _ (newExc (.type "StopIteration") []>>=_) _ _ _;refine aa ?_;delta newExc newTuple;refine aa (Yg ?_ (by size_fits));refine aa (m:=ab9 _ _) (aaB (a:=Yr) (by first|rfl|(simp only[ab9];rfl)) ?_);refine Yg ?_ (by size_fits);delta raiseNew;dsimp only
 refine aa (agw ?_);rw[show A.in1.handled=none from hh];refine aa (ae (aep ?_));refine aa (abx (T:="StopIteration") (b:=true) ⟨_,ct _ rfl,rfl⟩ agn ?_);exact ae (hQ _ (((j7 ..).extBut.push _).push _))
theorem DN(hh:A.handled=none)(I d:bQ)(hne:d≠I)(es:Array abF)(ep:Nat) :
  Walks prog w A I [I,d] [I] es.size (fun i v=>(es[i]?).map (·.key)=some v) (fun i h=>h.IsKeyIter I d i es.size ep/\iJ h d es ep) where
 sub:=fun b hb=>by simp at hb;simp[hb]
 frame:=fun _ _ _ st hk=>⟨st.1.at fun o e=>hk I (by simp) o e,hk d (by simp) _ st.2⟩
 item:=fun i s Q E hi st hQ=>GH st.1 st.2 hi fun h' pY cC=>hQ _ h' s.toks (by simp[hi]) ⟨pY,cC.extBut _ _ hne st.2⟩ fun b o hb e=>cC.extBut b o (fun h=>hb (by simp[h])) e
 done:=fun s Q E st hQ=>JA hh st.1 st.2 fun h' to=>hQ h' s.toks fun b o hb e=>to b o (fun h=>hb (by simp[h])) e
 self:=fun _ _ _ _ st hQ=>wpAny_pyIter_keyiter st.1 hQ
theorem JB(lo:(d==YD)=false):KdlSrc prog w "dict" d d es.size (fun i v=>(es[i]?).map (·.key)=some v) (fun h=>iJ h d es ep) where
 type:=fun _ hm=>⟨_,hm,rfl⟩
 there:=fun _ hm=>⟨cR hm,cR hm⟩
 keep:=fun _ _ hm hk=>hk d (.inl rfl) _ hm
 notList:=by decide
 notTuple:=by decide
 hint:=fun _ _ _ _ hm hq=>kdl_hint_dict ⟨_,hm,rfl⟩ hq
 iter:=fun _ _ hh hm=>⟨_,_,(fun _ _ hq=>GG lo hm hq),DN hh _ d (jr (cR hm)) es ep,⟨⟨_,ct _ rfl,rfl,rfl⟩,ag _ hm⟩⟩
theorem GI{R:abf->aO->Prop}{S:bQ}(hh:A.handled=none)(lo:(d==YD)=false)(hm:iJ s.heap d es ep)(hn:es.size<=lH)(Tp:S≠d)(hS:s.heap.get? S=some { cls:=.type "list",data:=.seq #[] 0 })
  (hR:∀ h' tk xG c',(∀ b o,b≠S->s.heap.get? b=some o->h'.get? b=some o)->h'.get? S=some { cls:=.type "list",dict:=none,data:=.seq xG c',slots:=#[] }->ItemsOf (fun i v=>(es[i]?).map (·.key)=some v) xG es.size->R (.ok (.ret (.ref S))) { s with heap:=h',toks:=tk }) :
  codeAny (cr prog w) A (.builtin "list.__iadd__" ⟨[.ref S,.ref d],[]⟩) R s:=by
 refine Zc entry_list_iadd' ?_;rw[YQ (by decide +kernel:plainId "list.__iadd__"=true) _];show wpAny _ A.in1 (aaa (.ref S) (.ref d) (.ref S)) _ _ s;exact kdl_extend (R:=R) (JB lo) hh hm S Tp Tp _ 0 hS hR hn
theorem zd{Q:List am->aO->Prop}(hh:A.handled=none)(lo:(d==YD)=false)(hm:iJ s.heap d es ep)(hn:es.size<=lH)
  (h:∀ h' tk,(∀ b o,s.heap.get? b=some o->h'.get? b=some o)->Q (es.toList.map (·.key)) { s with heap:=h',toks:=tk }):wpAny (cr prog w) A (collect (.ref d)) Q E s:=by
 unfold collect;refine aa (wpAny_runValue (Zc entry_proto_collect' ?_));show wpAny _ _ (do again (.builtin "list.__iadd__" ⟨[<- newList [],.ref d],[]⟩)) _ _ s;refine aa (adE (ae ⟨ab3 _ (by decide +kernel),?_⟩));have hS:(s.heap.push (YL "list" #[] 0)).get? s.heap.objs.size=some { cls:=.type "list",data:=.seq #[] 0 }:=ct _ rfl;have uL:iJ (s.heap.push (YL "list" #[] 0)) d es ep:=ag _ hm;refine GI (s:={ s with heap:=s.heap.push (YL "list" #[] 0) }) hh lo uL hn (YW (cR hm)) hS fun h' tk xG c' hk hD xh=>?_;refine aa (abJ hD ?_);refine ae ?_;have e:xG.toList=es.toList.map (·.key):=by
  apply ack;intro j;rw[Zt,Yt,Zt];by_cases hj:j<es.size
  ·have K4:j<xG.size:=by rw[xh.1];exact hj
   have:=xh.2 j xG[j] (Y5 K4);rw[Y5 K4,<- this]
  ·rw[aa7 (by rw[xh.1];exact r2 ‹_›),aa7 (by exact r2 ‹_›)];rfl
 rw[e];exact h h' tk fun b o eb=>hk b o (jr (cR eb)) (ag _ eb)
end
noncomputable def oK{α:Type}(lt:Nat->Nat->Option Bool):KasT α->Option α
 | .ret a=>some a
 | .ask i j k=>match lt i j with
  | some b=>oK lt (k b)
  | none=>none
theorem lb{lt:Nat->Nat->Option Bool}{k:Bool->KasT α} : oK lt (.ask i j k)=(lt i j).bind fun b=>oK lt (k b):=by rfl'
theorem Fi{α:Type}{cmp:Nat->Nat->(Bool->aO->Prop)->aO->Prop}{lt:Nat->Nat->Option Bool}{s:aO}(hc:∀ i j b,lt i j=some b->∀ C:Bool->aO->Prop,C b s->cmp i j C s) :
  ∀ (t:KasT α) {a:α} {Q:α->aO->Prop},oK lt t=some a->Q a s->t.kasWp cmp Q s
 | .ret _,_,_,h,q=>by obtain rfl:=si h;exact q
 | .ask i j k,a,Q,h,q=>by
  induction hb:lt i j using aL with
  | none=>rw[lb,hb]at h;exact nn h
  | some b =>
   rw[lb,hb]at h;exact hc i j b hb _ (Fi hc (k b) h q)
noncomputable def DO:V->V->Option Bool
 | .int x,.int y=>some (decide (x<y))
 | _,_=>none
noncomputable def xH:Nat->List V->List V->Option Bool
 | _,[],[]=>some false
 | i,a::l,b::m=>(fM a b).bind fun e=>if e=true then xH (i+1) l m else if i=0 then DO a b else zc 9 a b
 | _,_,_=>none
noncomputable def LW:V->V->Option Bool
 | .tup l,.tup m=>if l.length=m.length then xH 0 l m else none
 | _,_=>none
noncomputable def vb:V->Bool
 | .tup (.int _::_)=>true
 | _=>false
noncomputable def Bt(ks:List V)(i j:Nat):Option Bool:=match ks[i]?,ks[j]? with
 | some a,some b=>LW a b
 | _,_=>none
noncomputable def pi(ks:List V):Option (List Nat):=if ks.length<2 then some (YE ks.length)else if ks.all vb=true/\ks.length<64 then(oK (Bt ks) (agl ks.length)).map (·.toList)else none
noncomputable def jn(F:aG):List V->U->R (List V×U)
 | [],O=>.ok ([],O)
 | v::vs,O=>match F [v] O with
  | .ok a=>(jn F vs a.2).bind fun r=>.ok (a.1::r.1,r.2)
  | _=>.stuck
noncomputable def rh(F:aG)(vs:List V)(O:U):R (V×U):=match jn F vs O with
 | .ok r=>match pi r.1 with
  | some p=>.ok (.lst (p.map fun i=>vs.getD i .none),r.2)
  | none=>.stuck
 | _=>.stuck
section
variable{A:bY}
theorem Bu(hu:A.units+80<ZZ):∀ (l m:List V) (i:Nat) {us ws:List am} {c:Bool} {Q:Bool->aO->Prop},xH i l m=some c->Reps B s.heap μ X l us->Reps B s.heap μ X m ws->Q c s->KatLex B.prog B.w A true false Q (us.zip ws) i s
 | [],[],i,us,ws,c,Q,h,ra,rb,q=>by
  obtain rfl:=b8 ra;obtain rfl:=b8 rb;obtain rfl:=si h;exact q
 | [],_::_,_,_,_,_,_,h,_,_,_=>by exact nn h
 | _::_,[],_,_,_,_,_,h,_,_,_=>by exact nn h
 | a::l,b::m,i,us,ws,c,Q,h,ra,rb,q=>by
  obtain⟨u,us,rfl,ra,rl⟩:=ba ra;obtain⟨x,ws,rfl,rb,rm⟩:=ba rb;have h:((fM a b).bind fun e=>if e=true then xH (i+1) l m else if i=0 then DO a b else zc 9 a b)=some c:=h;induction he:fM a b using aL with
  | none=>rw[he]at h;exact nn h
  | some e =>
   rw[he]at h;have h:(if e=true then xH (i+1) l m else if i=0 then DO a b else zc 9 a b)=some c:=h;have heq:=jz (A:=A) (s:=s) (by exact Qj ‹_›) ra rb he;refine kat_cons (heq B.prog B.w _ _ ?_);induction e using iN with
   | true=>exact kat_yes (Bu hu l m (i+1) h rl rm q)
   | false =>
    refine kat_no ?_;rw[if_neg (by decide)]at h;by_cases hi:i=0
    ·rw[if_pos hi]at h;subst hi;induction a using V.casesOn with
     | int p =>
      induction b using V.casesOn with
      | int r =>
       obtain⟨t,rfl⟩:=dS ra;obtain⟨t',rfl⟩:=dS rb;obtain rfl:=si h;exact oneLt_int q
      | _=>exact nn h
     | _=>exact nn h
    ·rw[if_neg hi]at h;have e0:(true&&i==0)=false:=by simp[hi]
     rw[e0];exact kat_one _ _ (OI 9 (by show A.units+9+66<ZZ;exact QE ‹_›) h ra rb q)
theorem LX(hu:A.units+80<ZZ){a b:V}{x:am}{c:Bool}{Q:Bool->aO->Prop}(h:LW a b=some c)(ra:Rep B s.heap μ X a u)(rb:Rep B s.heap μ X b x)(q:Q c s):wpAny (cr B.prog B.w) A (keyLt' (tuples' true) u x) Q E s:=by
 induction a using V.casesOn with
 | tup l =>
  induction b using V.casesOn with
  | tup m =>
   refine ab fun _ gG=>?_;obtain⟨a,xs,rfl,_,⟨oa,ha,LY,na,da⟩,DL⟩:=eA ra;refine gG ?_;clear gG
   refine ab fun _ gG=>?_;obtain⟨b,ys,rfl,_,⟨ob,hb,XD,nb,db⟩,DM⟩:=eA rb;refine gG ?_;clear gG
   have h:(if l.length=m.length then xH 0 l m else none)=some c:=h;by_cases ck:l.length=m.length
   ·rw[if_pos ck]at h;refine kat_lt ha da hb db ?_;have e:decide (xs.size<ys.size)=false:=by
     generalize(DL.length)=h1;have h2:=DM.length;simp only[Yk]at h1 h2;rw[h1,h2,ck];simp
    rw[e];exact Bu hu l m 0 h DL DM q
   ·rw[if_neg ck]at h;exact nn h
  | _=>exact nn h
 | _=>exact nn h
end
section
variable{A:bY}
theorem Inv.write(I:Inv B envs P μ O s)(ha:a∈P)(hnf:NF envs a)(hs:fq a s.heap h')(he:∃ o,h'.get? a=some o) :
  Inv B envs P μ O { s with heap:=h',toks:=tk }:=by
 generalize(fun b o m e=>hs.extBut b o (fun q=>m (by rw[q];exact List.mem_singleton.mpr rfl)) e:∀ b o,b∉[a]->s.heap.get? b=some o->h'.get? b=some o)=hk;refine I.touch hk (fun b m=>by rw[a8 m];exact ha) (fun b m=>by rw[a8 m];exact he) fun e to=>?_;obtain⟨x,L,h1,h2,o,es,n,ho,hd⟩:=I.frs e to;exact⟨x,L,h1,h2,o,es,n,hs.extBut L o (fun q=>hnf e to (by rw[h1,q])) ho,hd⟩
theorem Rep.write{h:ir}(r:Rep B h μ (μ++P) v u)(ha:a∈P)(hs:fq a h h'):Rep B h' μ (μ++P) v u :=
 r.touch (W:=[a]) (fun b o m e=>hs.extBut b o (fun q=>m (by rw[q];exact List.mem_singleton.mpr rfl)) e) fun b m=>by rw[a8 m];exact ha
theorem Reps.write{h:ir}(r:Reps B h μ (μ++P) vs us)(ha:a∈P)(hs:fq a h h'):Reps B h' μ (μ++P) vs us :=
 r.touch (W:=[a]) (fun b o m e=>hs.extBut b o (fun q=>m (by rw[q];exact List.mem_singleton.mpr rfl)) e) fun b m=>by rw[a8 m];exact ha
theorem DP{kS:bQ}{oa:Obj}(FO:FnOk B k fu F)(gA:A.frames=some envs)(hh:A.handled=none)(iY:A.depth+2*k<=600)(on:A.units+200*k<=6000)(ze:kS∈P)(GJ:a∈P)(hka:a≠kS)(hnf:NF envs kS)
  {body:am->PUnit->Xm (ForInStep PUnit)}
  (hb:∀ (x:am) (s:aO) (R:ForInStep PUnit->aO->Prop),wpAny (cr B.prog B.w) A (call fu [x] []) (fun kv s'=>wpAny (cr B.prog B.w) A (aga (.ref kS) (·.push kv)) (fun _ wn=>R (.yield ⟨⟩) wn) E s') (fun _ _=>False) s->wpAny (cr B.prog B.w) A (body x ⟨⟩) R E s) :
  ∀ (vs:List V) {us:List am} {ds:List V} {xs:Array am} {c:Nat} {μ:List bQ} {O ar:U} {ks:List V} {s:aO} {Q:PUnit->aO->Prop},Inv B envs P μ O s->Reps B s.heap μ (μ++P) vs us->s.heap.get? kS=some (YL "list" xs c)->Reps B s.heap μ (μ++P) ds xs.toList ->
   s.heap.get? a=some oa->xs.size+vs.length<=ai->jn F vs O= .ok (ks,ar) ->
   (∀ ν s' ys c',(∀ b∈ν,s.heap.get? b=none)->Inv B envs P (μ++ν) ar s'->Go μ [kS] s.heap s'.heap->s'.heap.get? kS=some (YL "list" ys c')->Reps B s'.heap (μ++ν) ((μ++ν)++P) (ds++ks) ys.toList->s'.heap.get? a=some oa->Q ⟨⟩ s') ->
   wpAny (cr B.prog B.w) A (forIn us adG body) Q E s:=by
 intro vs;induction vs with
 | nil =>
  intro us ds xs c μ O ar ks s Q I r hk rd ha hz h q;replace r:=b8 r;subst r;cases h
  rw[acU];have:=q [] s xs c nofun (by rw[bP];exact I) (Go.refl _ _ _) hk (by rw[bP,bP];exact rd) ha
  exact ae this
 | cons v vs ih =>
  intro us ds xs c μ O ar ks s Q I r hk rd ha hz h q;replace r:=ba r;obtain⟨u,us,rfl,r1,r2⟩:=r;have h:(match F [v] O with | .ok a=>(jn F vs a.2).bind fun r=>R.ok (a.1::r.1,r.2)|_=>R.stuck)=_:=h;induction hF:F [v] O using R.casesOn with
  | exc row=>simp only[hF]at h;cases h
  | stuck=>simp only[hF]at h;cases h
  | ok kr =>
   obtain⟨key,aS⟩:=kr;simp only[hF]at h;induction jk:jn F vs aS using R.casesOn with
   | exc row=>simp only[jk]at h;cases h
   | stuck=>simp only[jk]at h;cases h
   | ok rr =>
    obtain⟨OJ,ky⟩:=rr;simp only[jk]at h;cases h
    rw[aaq];refine aa (hb u s _ ?_);generalize(zC (r1) z0:Reps B s.heap μ (μ++P) [v] [u])=R1;refine FO gA hh iY on I R1 ?_;rw[hF];intro aT s1 f1 I1 g1 kv rk;generalize(fun m=>I.apart kS m ze:kS∉μ)=aK;generalize(fun m=>I.apart a m GJ:a∉μ)=aA;generalize(g1.kp kS _ hk aK nofun)=CQ;generalize(g1.kp a _ ha aA nofun)=JC;have hcl:ai<=lH:=by decide
    have XE:xs.size+1<=ai:=bL (lP (abp 1 _) _) hz;refine act CQ rfl ?_ (by exact QV ‹_› ‹_›) (by rw[aao];exact MT ‹_› ‹_›);generalize(j7 .. : fq kS s1.heap (s1.heap.update kS (YN (·.push kv))))=ej;generalize(abP CQ (·.push kv))=yC;have I2:Inv B envs P (μ++aT) aS { s1 with heap:=s1.heap.update kS (YN (·.push kv)) }:=I1.write (tk:=s1.toks) ze hnf ej ⟨_,yC⟩;show wpAny _ A (forIn us adG body) _ _ _;refine ih (ds:=ds++[key]) I2 ((r2.go g1 f1 nofun).write ze ej) yC ?_ (ej.extBut a _ hka JC) (by rw[aao];simp only[cx]at hz;exact MW ‹_›) jk fun eY s3 ys c' f2 I3 g3 hk3 VQ VR=>?_
    ·rw[Array.toList_push];generalize(zC (rk) z0:Reps B s1.heap (μ++aT) ((μ++aT)++P) [key] [kv])=R2;exact((rd.go g1 f1 nofun).append' R2).write ze ej
    ·have gs:Go μ [kS] s1.heap (s1.heap.update kS (YN (·.push kv))):=⟨fun b o e _ m=>ej.extBut b o (fun z=>m (by rw[z];exact List.mem_singleton.mpr rfl)) e,fun b o e=>by
      by_cases z:b=kS
      ·rw[z];exact⟨_,yC⟩
      ·exact⟨o,ej.extBut b o z e⟩⟩
     generalize((g1.wide nofun).trans gs:Go μ [kS] s.heap (s1.heap.update kS (YN (·.push kv))))=Tq;generalize((cJ ..).symm:μ++(aT++eY)=(μ++aT)++eY)=e1;have e2:ds++key::OJ=(ds++[key])++OJ:=by simp
     exact q (aT++eY) s3 ys c' (fun b m=>(bU m).elim (f1 b) fun z=>Tq.none (f2 b z)) (by rw[e1];exact I3) (Tq.trans_new f1 g3) hk3 (by
      show Reps B s3.heap (μ++(aT++eY)) ((μ++(aT++eY))++P) (ds++key::OJ) ys.toList;rw[e1,e2];exact VQ) VR
end
section
variable{A:bY}
theorem vc{kS:bQ}{e1:Nat}{out:List am}{st:SortSt}{Q:afP->aO->Prop}(ze:kS∈P)(GJ:a∈P)(hka:a≠kS)(hnf:NF envs kS)(Fj:NF envs a)
  (IN:(arrOf st).map (·.2)=out.toArray) (hf:failedOf st=none) (hz:out.length<=ai) (XF:xs.size<=ai) (I:Inv B envs P μ O s) (hk:s.heap.get? kS=some (YL "list" xs c)) (ha:s.heap.get? a=some (YL "list" #[] e1))
  (q:∀ s' c',Inv B envs P μ O s'->Go μ [kS,a] s.heap s'.heap->s'.heap.get? a=some (YL "list" out.toArray c')->Q (.done (.ret .none)) s') :
  wpAny (cr B.prog B.w) A (ksk_tail a false e1 (.ref kS) st) Q E s:=by
 have hcl:ai<=lH:=by decide
 unfold ksk_tail;dsimp only;rw[IN];refine aa (act hk rfl ?_ (by exact MR ‹_› ‹_›) (YC _));generalize(j7 s.heap kS (YN fun _=>(#[]:Array am)))=hs1;generalize(abP hk fun _=>(#[]:Array am))=CQ;have I1:Inv B envs P μ O { s with heap:=s.heap.update kS (YN fun _=>(#[]:Array am)) }:=I.write (tk:=s.toks) ze hnf hs1 ⟨_,CQ⟩;generalize(hs1.extBut a _ hka ha)=JC;refine aa (aer ?_);refine aa (seqEpoch_at JC rfl ?_);refine aa (act JC rfl ?_ (YC _) (by simp;exact MT ‹_› ‹_›));generalize(j7 (s.heap.update kS (YN fun _=>(#[]:Array am))) a (YN fun _=>out.toArray))=ej;generalize(abP JC fun _=>out.toArray)=OK;have I2:Inv B envs P μ O { s with heap:=(s.heap.update kS (YN fun _=>(#[]:Array am))).update a (YN fun _=>out.toArray) }:=I1.write (tk:=s.toks) GJ Fj ej ⟨_,OK⟩;rw[hf];simp only[bne_self_eq_false,Y1,if_false];refine ae (q _ _ I2 ⟨fun b o e _ m=>ej.extBut b o (fun z=>m (by simp[z])) (hs1.extBut b o (fun z=>m (by simp[z])) e),fun b o e=>?_⟩ OK);by_cases z:b=a
 ·rw[z];exact⟨_,OK⟩
 ·by_cases z2:b=kS
  ·rw[z2];exact⟨_,ej.extBut _ _ (Ne.symm hka) CQ⟩
  ·exact⟨o,ej.extBut b o z (hs1.extBut b o z2 e)⟩
theorem vd{h:ir}{μ X:List bQ} : ∀ {ks:List V} {us:List am},Reps B h μ X ks us->ks.all vb=true->∃ fs,KatTups h us fs/\fs.length=us.length/\∀ v∈fs,∃ i t,v= .int i t
 | [],us,r,_=>by obtain rfl:=b8 r;exact⟨[],.nil,rfl,nofun⟩
 | k::ks,us,r,h=>by
  replace r:=ba r;obtain⟨u,us,rfl,r1,r2⟩:=r;simp only[List.all_cons,gT]at h;obtain⟨fs,h1,h2,h3⟩:=vd r2 h.2;induction k using V.casesOn with
  | tup l =>
   induction l using cz with
   | nil=>cases h.1
   | cons v l =>
    induction v using V.casesOn with
    | int i =>
     obtain⟨a,xs,rfl,_,⟨o,ho,hc,n,hd⟩,hr⟩:=eA r1;replace hr:=ba hr;obtain⟨x,q,e,rx,_⟩:=hr;obtain⟨t,rfl⟩:=dS rx;have hx:xs[0]?=some (.int i t):=by rw[<- Zt,e];rfl
     refine⟨.int i t::fs,.cons ho hc hd hx h1,by simp[h2],fun v m=>?_⟩;rcases cn m with rfl|m
     ·exact⟨i,t,rfl⟩
     ·exact h3 v m
    | _=>cases h.1
  | _=>cases h.1
theorem range_getD(l:List α)(d:α):(YE l.length).map (fun i=>l.getD i d)=l:=by
 apply ack;intro i;simp only[Yt];by_cases h:i<l.length
 ·simp[h]
 ·simp[h,Zv (js h)]
theorem GK{kS:bQ}{e1:Nat}{ks:List V}{p:List Nat}{Q:afP->aO->Prop}(hu:A.units+80<ZZ)(ze:kS∈P)(GJ:a∈P)(hka:a≠kS)(hnf:NF envs kS)(Fj:NF envs a)
  (hp:pi ks=some p) (hl:ks.length=us.length) (hz:us.length<=ai) (I:Inv B envs P μ O s) (hk:s.heap.get? kS=some (YL "list" ys c)) (rk:Reps B s.heap μ (μ++P) ks ys.toList) (ha:s.heap.get? a=some (YL "list" #[] e1))
  (q:∀ s' c',Inv B envs P μ O s'->Go μ [kS,a] s.heap s'.heap->s'.heap.get? a=some (YL "list" (p.map fun i=>us.getD i .none).toArray c')->Q (.done (.ret .none)) s') :
  wpAny (cr B.prog B.w) A (ksk_end a false us.toArray e1 (.ref kS) ys) Q E s:=by
 have N6:ys.size=ks.length:=by have:=rk.length;simpa using this
 have VT:ys=(ys.toList).toArray:=by simp
 unfold ksk_end;dsimp only;rw[if_neg (by decide)];unfold pi at hp;by_cases h2:ks.length<2
 ·rw[if_pos h2]at hp;obtain rfl:=si hp;have GL:us.toArray.size<2:=by simp;exact P9 ‹_› ‹_›
  rw[if_pos GL,if_pos GL];refine aa (ae (aa ?_));refine ae ?_;refine vc (out:=us) ze GJ hka hnf Fj ?_ rfl hz (by exact Qq ‹_› ‹_›) I hk ha fun s' c' I' g' Lg=>q s' c' I' g' ?_
  ·show((ys.zip us.toArray).map (·.2))=us.toArray;apply Array.toList_inj.mp;simp only[Array.toList_map,Array.toList_zip];rw[List.map_snd_zip];simp;exact QL ‹_› ‹_›
  ·rw[hl,range_getD];exact Lg
 ·rw[if_neg h2]at hp;by_cases hc:ks.all vb=true/\ks.length<64
  ·rw[if_pos hc]at hp;obtain⟨pa,LJ,rfl⟩:=Option.map_eq_some_iff.mp hp;have GL:¬us.toArray.size<2:=by simp;exact Ql ‹_› ‹_›
   rw[if_neg GL,if_neg GL];obtain⟨fs,VU,VV,VW⟩:=vd rk hc.1;have hT:∀ v∈fs,aeC (cr B.prog B.w) s.heap (typeOf v) (.type "int"):=fun v m=>by
    obtain⟨i,t,rfl⟩:=VW v m;exact abU rfl
   rw[VT];refine aa (kat_kind (T:=.type "int") VU (by rw[VV,Yk];exact Qk ‹_› ‹_›) hT rfl ?_);have hne:(aaE "int" != aaE "tuple")=true:=by decide
   rw[hne];have JD:ys.toList.length=us.length:=by rw[Yk];exact QN ‹_› ‹_›
   refine aa (Yj (kat_run (Q:=fun oY s'=>s'=s/\(arrOf oY).map (·.2)=(pa.toList.map fun i=>us.getD i .none).toArray/\failedOf oY=none/\pa.size=us.length) JD (by exact r2 ‹_›) (by lia) (G:=fun p' s'=>p'=pa/\s'=s) (fun p' oY s' h1 h3 h4 h5=>?_) ?_) (fun r s' hr=>?_) fun _ _ y=>y)
   ·obtain rfl:=((h5)).1;obtain rfl:=((h5)).2;exact⟨rfl,kat_snds JD h3,h4,h1⟩
   ·rw[<- hl];refine Fi (lt:=Bt ks) (fun i j b hb C hC=>?_) (agl ks.length) LJ ⟨rfl,rfl⟩;unfold Bt at hb;induction hi:ks[i]? using aL with
    | none=>rw[hi]at hb;exact nn hb
    | some x =>
     induction hj:ks[j]? using aL with
     | none=>rw[hi,hj]at hb;exact nn hb
     | some y =>
      rw[hi,hj]at hb;obtain⟨ui,h6,rx⟩:=rk.get2 hi;obtain⟨uj,h7,ry⟩:=rk.get2 hj;have e6:ys.toList.getD i Yr=ui:=by rw[Yc,h6];rfl
      have e7:ys.toList.getD j Yr=uj:=by rw[Yc,h7];rfl
      unfold kas_ask;rw[e6,e7];exact LX hu hb rx ry hC
   ·obtain⟨⟨⟩,oY⟩:=r;obtain rfl:=((hr)).1;generalize(((hr)).2).1=ho;generalize((((hr)).2).2).1=VX;generalize((((hr)).2).2).2=CU;dsimp only;refine vc ze GJ hka hnf Fj ho VX ?_ (by exact HE ‹_› ‹_›) I hk ha q;rw[bR,Yk,CU];exact hz
  ·rw[if_neg hc]at hp;exact nn hp
end
noncomputable abbrev aC(k:List Atom):V:=.tup (k.map Atom.toV)
section
variable{A:bY}
theorem Bv{h:ir}{k:List Atom}{vs:List am}(r:PySem.ItemsAre (gE B.prog B.w) k vs):Reps B h μ X (k.map Atom.toV) vs:=by
 induction r with
 | nil=>exact z0
 | @cons a v k vs h1 _ ih =>
  show Exists _;refine⟨v,vs,rfl,?_,ih⟩;cases a with
  | int i=>obtain⟨t,rfl⟩:=Atom.shape_int h1;exact zI
  | str l=>obtain⟨t,rfl⟩:=Atom.shape_str h1;exact zS
theorem vf{h:ir}{μ X:List bQ} : ∀ (xs:List (List Atom×bQ×am)),(∀ x∈xs,(bt B.prog B.w).is h x.1 x.2.1)->(∀ x∈xs,x.2.1∉X/\Ad h x.2.1)->Reps B h μ X (xs.map fun x=>aC x.1) (xs.map fun x=>.ref x.2.1)
 | [],_,_=>z0
 | x::xs,h1,h2=>by
  show Exists _;refine⟨_,_,rfl,?_,vf xs (fun y m=>h1 y (bG _ m)) fun y m=>h2 y (bG _ m)⟩;refine ab fun _ gG=>?_;obtain⟨o,items,n,ho,hc,hd,hi⟩:=h1 x aW;refine gG ?_;clear gG
  refine ab fun _ gG=>?_;obtain⟨hX,o',fe,hb⟩:=h2 x aW;refine gG ?_;clear gG
  rw[ho]at fe;obtain rfl:=si fe
  exact CA hX (⟨o,n,ho,hc,hb,hd⟩) (Bv hi)
theorem vg{h:ir}{μ X:List bQ}{vs:List V}{us:List am}(r:Reps B h μ X vs us):∀ (p:List Nat),Reps B h μ X (p.map fun i=>vs.getD i .none) (p.map fun i=>us.getD i .none)
 | []=>z0
 | i::p=>by
  show Exists _;refine⟨_,_,rfl,?_,vg r p⟩;show Rep B h μ X (vs.getD i V.none) (us.getD i Yr);induction hi:vs[i]? using aL with
  | none =>
   have hn:us[i]?=none:=by
    have:=r.length;rw[List.getElem?_eq_none_iff]at hi ⊢;exact HE ‹_› ‹_›
   rw[Yc,Yc,hi,hn];exact zN
  | some v =>
   obtain⟨u,hu,ru⟩:=r.get2 hi;rw[Yc,Yc,hi,hu];exact ru
theorem oL{F:aG} : ∀ {vs:List V} {O:U} {r:List V×U},jn F vs O= .ok r->r.1.length=vs.length
 | [],O,r,h=>by cases h;rfl
 | v::vs,O,r,h=>by
  have h:(match F [v] O with | .ok a=>(jn F vs a.2).bind fun r=>R.ok (a.1::r.1,r.2)|_=>R.stuck)=_:=h;induction hF:F [v] O using R.casesOn with
  | exc row=>rw[hF]at h;cases h
  | stuck=>rw[hF]at h;cases h
  | ok kr =>
   rw[hF]at h;dsimp only at h
   induction jk:jn F vs kr.2 using R.casesOn with
   | exc row=>rw[jk]at h;cases h
   | stuck=>rw[jk]at h;cases h
   | ok rr =>
    rw[jk]at h;cases h
    simp[oL jk]
theorem zf{q:bQ}{es:Array abF}{ep:Nat}{out:List V}(FO:FnOk B k (.ref q) F)(gA:A.frames=some envs)(hh:A.handled=none)(iY:A.depth+2*k<=600)(on:A.units+2+200*k<=6000)
  (I:Inv B envs P μ O s) (lo:(d==YD)=false) (hm:iJ s.heap d es ep) (hr:Reps B s.heap μ (μ++P) vs (es.toList.map (·.key))) (hz:es.size<=1000) (hs:rh F vs O= .ok (.lst out,ar))
  (hq:∀ ν s' u,(∀ a∈ν,s.heap.get? a=none)->Inv B envs P (μ++ν) ar s'->Go μ [] s.heap s'.heap->Rep B s'.heap (μ++ν) ((μ++ν)++P) (.lst out) u->Q u s') :
  wpAny (cr B.prog B.w) A (call (.builtin "sorted") [.ref d] [(ac "key",.ref q)]) Q E s:=by
 unfold rh at hs;induction qj:jn F vs O using R.casesOn with
 | exc row=>rw[qj]at hs;cases hs
 | stuck=>rw[qj]at hs;cases hs
 | ok r =>
  obtain⟨ks,aS⟩:=r;rw[qj]at hs;have hs:(match pi ks with
   | some p=>R.ok (V.lst (p.map fun i=>vs.getD i .none),aS)
   | none=>.stuck)=R.ok (V.lst out,ar):=hs
  induction hp:pi ks using aL with
  | none=>rw[hp]at hs;cases hs
  | some p =>
   rw[hp]at hs;cases hs
   have hcl:1000<=lH:=by decide
   have wA:1000<=ai:=by decide
   have OL:(es.toList.map (·.key)).length=vs.length:=hr.length;have Xf:es.size=vs.length:=by simpa using OL
   refine call_function_entry_kw kind_sorted plain_sorted entry_sorted (ksk_s1 _ _) ?_;unfold Builtin.«sorted»;refine aa (m:=checkCount "sorted" 1 1 _) (ae ?_);refine aa (zd (A:=A.in1) hh lo hm (by exact Qy ‹_› ‹_›) fun h1 Lq k1=>?_);refine aa (adE ?_ (by rw[OL];exact Rk ‹_› ‹_› ‹_›));generalize GL:es.toList.map (·.key)=us at *;have LZ:(h1.push (YL "list" us.toArray 0)).get? h1.objs.size=some (YL "list" us.toArray 0):=ct _ rfl;refine aa (eG (wpAny_call_entry_kw slot_list_sort ⟨_,LZ,rfl⟩ entry_list_sort ?_ (by unfold argsOk;rfl')));rw[ksk_t1];unfold ksk_tree;have OM:us.length<=lH:=by exact So ‹_› ‹_› ‹_› ‹_›
   refine aa (listItems_at LZ rfl ?_);refine aa (act LZ rfl ?_ (by rw[aaT];assumption) (YC _));have L6:=abP LZ fun _=>(#[]:Array am)
   have hs1:=j7 (h1.push (YL "list" us.toArray 0)) h1.objs.size (YN fun _=>(#[]:Array am));generalize XG:(if(#[]:Array am).size==us.toArray.size then 0 else 0+1)=e1 at L6;have No:((h1.push (YL "list" us.toArray 0)).update h1.objs.size (YN fun _=>(#[]:Array am))).objs.size=h1.objs.size+1:=by rw[Heap.size_update,size_push']
   have k2:∀ b o,s.heap.get? b=some o->((h1.push (YL "list" us.toArray 0)).update h1.objs.size (YN fun _=>(#[]:Array am))).get? b=some o:=fun b o e =>
    hs1.extBut b o (jr (cR (k1 b o e))) (ag _ (k1 b o e))
   generalize((h1.push (YL "list" us.toArray 0)).update h1.objs.size (YN fun _=>(#[]:Array am)))=h2 at L6 No k2 ⊢;refine aa (seqEpoch_at L6 rfl ?_);refine aa (agf ?_ (by simp;assumption));refine aa (adE ?_ (YC _));refine eG ?_;have Tr:(h2.push (YL "tuple" us.toArray 0)).objs.size=h1.objs.size+2:=by rw[size_push',No]
   have eC:((h2.push (YL "tuple" us.toArray 0)).push (YL "list" #[] 0)).get? (h1.objs.size+2)=some (YL "list" #[] 0):=by rw[<- Tr];exact ct _ rfl
   have k3:∀ b o,h2.get? b=some o->((h2.push (YL "tuple" us.toArray 0)).push (YL "list" #[] 0)).get? b=some o:=fun b o e=>ag _ (ag _ e)
   show wpAny _ _ (ksk_rest h1.objs.size (.ref q) false us.toArray e1 (.ref (h2.push (YL "tuple" us.toArray 0)).objs.size)) _ _ { s with heap:=(h2.push (YL "tuple" us.toArray 0)).push (YL "list" #[] 0),toks:=Lq };rw[Tr];have ON:=k3 _ _ L6;have kall:∀ b o,s.heap.get? b=some o->((h2.push (YL "tuple" us.toArray 0)).push (YL "list" #[] 0)).get? b=some o:=fun b o e=>k3 b o (k2 b o e)
   generalize((h2.push (YL "tuple" us.toArray 0)).push (YL "list" #[] 0))=h3 at eC ON kall ⊢;have fD:s.heap.get? h1.objs.size=none:=by
    cases z:s.heap.get? h1.objs.size with
    | none=>rfl
    | some o=>exact absurd (cR (k1 _ _ z)) (Yl _)
   have fK:s.heap.get? (h1.objs.size+2)=none:=by
    cases z:s.heap.get? (h1.objs.size+2)with
    | none=>rfl
    | some o=>exact absurd (cR (k1 _ _ z)) (Nat.not_lt.mpr (ef _ _))
   have nf:∀ {a},s.heap.get? a=none->NF envs a:=fun{a} e env Bp hf=>by
    obtain⟨_,L,hL,_,o,es,n,ho,_⟩:=I.frs env Bp;rw[hL]at hf;obtain rfl:=si hf
    rw[ho]at e;exact oQ e
   have hW:∀ a∈[h1.objs.size,h1.objs.size+2],s.heap.get? a=none:=fun a m=>by
    rcases cn m with rfl|m
    ·exact fD
    ·rw[a8 m];exact fK
   have I3:Inv B envs (P++[h1.objs.size,h1.objs.size+2]) μ O { s with heap:=h3,toks:=Lq }:=I.more kall hW fun a m=>by
    rcases cn m with rfl|m
    ·exact⟨_,ON⟩
    ·rw[a8 m];exact⟨_,eC⟩
   have OP:h1.objs.size∈P++[h1.objs.size,h1.objs.size+2]:=aq _ (by simp);have Ts:h1.objs.size+2∈P++[h1.objs.size,h1.objs.size+2]:=aq _ (by simp);have Tt:h1.objs.size≠h1.objs.size+2:=jr (Nat.lt_add_of_pos_right (by decide));have VY:Reps B h3 μ (μ++(P++[h1.objs.size,h1.objs.size+2])) vs us:=Reps.move vs hr (Kp.of_keeps kall) (fun _ _ e=>e) (gJ hW);unfold ksk_rest;refine aa (aar ?_);rw[List.forIn_toArray];refine aa (DP (A:=A.in1.in1) (s:={ s with heap:=h3,toks:=Lq }) (ds:=[]) (xs:=#[]) FO gA hh iY (by show A.units+1+1+200*k<=6000;assumption) Ts OP Tt (nf fK) (fun x s0 R hx=>?_) vs I3 VY eC z0 ON (by simp;exact QB ‹_› ‹_›) qj fun ν s4 ys c' f4 I4 g4 Tu VZ V0=>?_)
   ·refine aa (aaz (Yj hx (fun kv s' h'=>?_) fun _ _ z=>z.elim));refine aa (Yj h' (fun _ wn wv=>?_) fun _ _ z=>z);exact ae wv
   ·dsimp only;refine aa (listItems_at Tu rfl ?_);have V1:=oL qj;refine GK (A:=A.in1.in1) (by show A.units+1+1+80<9900;exact Sf ‹_›) Ts OP Tt (nf fK) (nf fD) hp (by rw[V1,OL]) (by exact Sd ‹_› ‹_› ‹_›) I4 Tu (by simpa using VZ) V0 fun s5 c5 I5 g5 V2=>?_;refine⟨_,rfl,ae ⟨_,rfl,?_⟩⟩;have Tv:∀ a∈ν,s.heap.get? a=none:=fun a m=>by
     induction z:s.heap.get? a using aL with
     | none=>rfl
     | some o=>have:=kall a o z;have e:=f4 a m;rw[this]at e;exact oQ e
    have Tw:Go μ [h1.objs.size+2,h1.objs.size] h3 s5.heap:=(g4.wide (fun a m=>by rw[a8 m];simp)).trans_new f4 g5;have gs:Go μ [] s.heap s5.heap:=⟨fun b o e n1 _=>Tw.kp b o (kall b o e) n1 (fun m=>by
     rcases cn m with rfl|m
     ·rw[fK]at e;exact nn e
     ·rw[a8 m,fD]at e;exact nn e),fun b o e=>Tw.dm b o (kall b o e)⟩
    have I6:Inv B envs P (μ++ν) ar s5:=I5.less I.frIn;refine hq ν s5 _ Tv I6 gs ?_;have V3:Reps B s5.heap (μ++ν) ((μ++ν)++P) vs us:=hr.go gs Tv nofun
    refine zL (fun m=>?_) (⟨_,V2,rfl,_,rfl⟩) (by simpa using vg V3 p);rcases bU m with m|m
    ·exact I5.apart _ m OP
    ·obtain⟨o,e⟩:=I.dom _ (aq _ m);rw[fD]at e;exact nn e
end
noncomputable def vh(F:aG)(v:V)(O:U):R (V×U):=(ah (c6 v O)).bind fun d=>if d.1.length<=1000 then match rh F (d.1.map aC) O with
   | .ok (.lst l,ar)=>.ok (.lst l,ar)
   | _=>.stuck
  else .stuck
noncomputable def zg(T:bJ)(n:Nat)(sc:gK)(st:lI)(ρ:af)(O:U):b7:=match st with
 | .Return (some (.Call (.Name g _) [.Attribute o x p] [⟨some kw,.Name q _,_⟩] _)) _ =>
  if(g==ac "sorted"&&kw==ac "key"&&bd sc ρ g&&bd sc ρ q)=true then(ah (T.fns.lookup q)).bind fun F=>(ev T n sc (.Attribute o x p) ρ O).bind fun a=>(vh F a.1 a.2).bind fun b=>.ok ((.ret b.1,ρ),b.2)
  else .stuck
 | _=>.stuck
theorem fj{sc:gK}(h:bd sc ρ x=true):sc.names.lookup x=some .globalImplicit/\(x==ac "__debug__")=false:=by
 obtain⟨h,hd⟩:=bM h;obtain⟨_,h⟩:=bM h;exact⟨by simpa using h,by simpa using hd⟩
theorem DQ(BO:aP B){A:bY}{q:bQ}(FO:FnOk B k (.ref q) F)(gA:A.frames=some envs)(hh:A.handled=none)(iY:A.depth+2*k<=600)(on:A.units+2+200*k<=6000)
  (I:Inv B envs P μ O s) (r:Rep B s.heap μ (μ++P) v u) (H:Aft B envs P μ [] s.heap (vh F v O) (KV B P Q) E) :
  wpAny (cr B.prog B.w) A (call (.builtin "sorted") [u] [(ac "key",.ref q)]) Q E s:=by
 delta vh at H;refine ab fun _ gG=>?_;obtain⟨⟨ks,ws⟩,hd,H⟩:=H.opt;refine gG ?_;clear gG
 refine ab fun _ gG=>?_;generalize((Aft.ite H)).1=hl;generalize((Aft.ite H)).2=H;refine gG ?_;clear gG
 dsimp only at H hl;refine ab fun _ gG=>?_;obtain⟨d,us,rfl,⟨xs,hD,hk,hX,hu⟩,hr⟩:=uX I r hd;refine gG ?_;clear gG
 subst hk;generalize(jO BO I hD)=hs;refine ab fun _ gG=>?_;obtain⟨o,es,ep,ho,⟨CY,yX,Tx⟩,eK,Tz,V4,iX⟩:=hD;refine gG ?_;clear gG
 have V5:iJ s.heap d es ep:=by
  show s.heap.get? d=_;rw[ho];refine ab fun _ gG=>?_;obtain⟨c1,c2,c3,c4⟩:=o;refine gG ?_;clear gG
  dsimp only at CY yX Tx eK;subst CY yX Tx eK;rfl
 have V6:es.toList.map (·.key)=xs.map fun x=>.ref x.2.1:=by rw[Tz,Y7];rfl
 have hR:Reps B s.heap μ (μ++P) (xs.map fun x=>aC x.1) (es.toList.map (·.key)):=by rw[V6];exact vf xs V4 hX
 have hsz:es.size<=1000:=by
  have:es.size=xs.length:=by rw[<- Yk,Tz,bR]
  rw[this];simpa using hl
 have hm:(xs.map (·.1)).map aC=xs.map fun x=>aC x.1:=by rw[Y7];rfl
 rw[hm]at H;induction GN:rh F (xs.map fun x=>aC x.1) O using R.casesOn with
 | exc row=>rw[GN]at H;exact H.elim
 | stuck=>rw[GN]at H;exact H.elim
 | ok a =>
  refine ab fun _ gG=>?_;obtain⟨v,ar⟩:=a;refine gG ?_;clear gG
  rw[GN]at H;induction v using V.casesOn with
  | lst l=>exact zf FO gA hh iY on I hs V5 hR hsz GN fun ν s' u f' I' g' R'=>H ν s' f' I' g' u R'
  | _=>exact H.elim
theorem DR(BO:aP B)(TO:dn B k T)(OO:jj B)(h1:B.mg (ac "sorted")=none)(h2:B.mb (ac "sorted")=some (.builtin "sorted")){kw q:fw}{p p0 p1 p2 p3 p4} : d5 B (zg T n) (k+1) (.Return (some (.Call (.Name g p0) [.Attribute o x p] [⟨some kw,.Name q p1,p2⟩] p3)) p4):=by
 intro A envs env P μ O s ρ Q E S I r H;have S0:Sit k A envs env P:={ S.toSit with depth:=by have:=S.depth;exact Q7 ‹_›,units:=by have:=S.units;exact Rm ‹_› }
 replace H:=Aft.ite H;obtain⟨hc,H⟩:=H;obtain⟨hc,hq⟩:=bM hc;obtain⟨hc,hg⟩:=bM hc;obtain⟨eg,ek⟩:=bM hc;generalize(eq_of_beq eg)=eg;generalize(eq_of_beq ek)=ek;subst eg ek;obtain⟨F,hF,H⟩:=Aft.opt H;obtain⟨a,hm,hK,OQ⟩:=TO.fns q F hF;obtain⟨lg,dg⟩:=fj hg;generalize((fj hq)).1=lq;generalize((fj hq)).2=dq;refine aah ?_;show wpAny _ _ (do callWith p3 (<- eval (.Name _ p0) env) [] (Yx p3 (j8 [.Attribute o x p] env)) (acb p3 (aaD [⟨some _,.Name q p1,p2⟩] env))) _ _ s;refine aa (iG BO S.kind S.glob S.blt I lg dg h1 h2 ?_);refine callWith_kw ?_;refine aai ((gb BO TO OO n).1 _ S0 I r (H.bindN fun v aS aT s1 _ f1 I1 g1 H1 u R=>?_));refine aaC ?_;refine kws_cons (fy BO S.kind S.glob I1 lq dq hm (kws_nil ?_));generalize(r.goO S g1 f1 I.apart)=r1;refine DQ BO OQ S0.frames S0.handled S0.depth (by have:=S.units;exact Rs ‹_›) I1 R (Aft.bindN H1 fun v2 ky eY s2 _ f2 I2 g2 H2 u2 R2=>?_);exact Aft.here (O:=ky) (b:=(Fl.ret v2,ρ)) H2 I2 (r1.goO S g2 f2 I1.apart) u2 R2
theorem JE{f:gK->lI->af->U->b7}{st:lI}(ih:d5 B f k st){A:bY}{Q:aaV->aO->Prop}(S:Fit k A envs env P)(I:Inv B envs P μ O s)(r:SR B env P μ ρ s.heap)
  (H:Aft B envs P μ (own env) s.heap (ay (f env.scope) [st] ρ O) (KF B env P Q) E):wpAny (cr B.prog B.w) A (adR [st] env) Q E s:=by
 have H':Aft B envs P μ (own env) s.heap ((f env.scope st ρ O).bind fun a=>match a.1.1 with
   | .next=>.ok ((.next,a.1.2),a.2)
   | _=>.ok a) (KF B env P Q) E:=H
 refine Yd (ih S I r (H'.bind fun a aS aT s1 _ f1 I1 g1 H1 r1=>?_));obtain⟨fl,bj⟩:=a;induction fl using Fl.casesOn with
 | next=>exact YJ (Aft.here (O:=aS) (b:=(Fl.next,bj)) H1 I1 r1)
 | cont=>exact Aft.here (O:=aS) (b:=(Fl.cont,bj)) H1 I1 r1
 | brk=>exact Aft.here (O:=aS) (b:=(Fl.brk,bj)) H1 I1 r1
 | ret v=>exact fun u hu=>Aft.here (O:=aS) (b:=(Fl.ret v,bj)) H1 I1 r1 u hu
theorem L7{F:Fn}{f:gK->lI->af->U->b7}{st:lI}(BO:aP B)(FA:FnAt B a fd F)(hb:F.body=[st])(ih:d5 B f k st):FnOk B (k+1) (.ref a) (yW f F):=by
 intro A envs P μ O s vs us Q E gA hh iY on I R H;exact tO (W:=fun env _=>own env) (Z:=fun _=>[]) (J:=fun _ _ _=>True) (body:=ay (f F.scope) F.body) BO FA (fun _ _ _ _ m=>.inl m) (fun env _=>aW) (fun _ _ _ _ _ _=>trivial)
  (fun S e _ I r H=>by
   rw[hb]at H ⊢;rw[<- e]at H;exact JE ih S I r (H.mono fun _ _ _ x=>x trivial)) gA hh iY on I R (H.mono fun _ _ _ x _=>x)
section
open Builtin Builtin.ObjectAttr Builtin.Getset_descriptor
section
variable{K:adO}{cS NE NS fE fS:bQ}{fdE fdS:Zf}{mE mS:fw->Option am}{la:aay}
theorem GO{A:bY}{h:ir}{g:Array aeH}{d:Drawn}{t:Nat}{os:acj}{C N:bQ}{bm:List am}{o:Obj}{u7:am}{Q:Unit->aO->Prop}(hC:IsExcCls h C N bm)(hb:bm.contains (.type "BaseException")=true)
  (hx:h.get? a=some o) (hc:o.cls= .ref C) (hq:Q () ⟨h,g,d,t,os⟩):wpAny M A (ZP "BaseException.__getattribute__" ⟨[.ref a,u7],[]⟩) Q E ⟨h,g,d,t,os⟩:=by
 obtain⟨cw,hC⟩:=hC;have hk:builtinKind "BaseException.__getattribute__"=some .slot:=by decide +kernel
 have L8:splitId "BaseException.__getattribute__"=some ("BaseException","__getattribute__"):=by decide +kernel
 have DD:(gH C::bm).contains (.type "BaseException")=true:=by rw[List.contains_cons,hb];rfl
 generalize(PySem.F.args_bexc_ga (.ref a) u7)=ha;simp only[ZP,hk,L8];refine aa ?_
 ·unfold ae0;repeat (first|(with_reducible refine Yn hx ?_;rw[hc])|(with_reducible refine Zl hC ?_;rw[DD])|wp_step)
  exact hq
theorem JF(D:jl B K cS NE NS fE fS fdE fdS mE mS la)(zh:Zi K (.ref B.cE) "__getattribute__"=some (some (.builtin "BaseException.__getattribute__")))(vi:Zi K (.ref B.cE) "__getattr__"=some none)
  {A:bY} {E:am->aO->Prop} {s:aO} {ea d:bQ} {oe:Obj} {vs:Array am} {hm hr:Int} {tm tr t:BY} {m:am} {row:Int} {Q:am->aO->Prop} (st:B.H.StaysIn s.heap)
  (he:s.heap.get? ea=some oe) (hc:oe.cls= .ref B.cE) (hd:oe.dict=some d) (eK:oe.data= .fields vs) (Tg:s.heap.get? d=some (YM [⟨hm,.str dw tm,m⟩,⟨hr,.str eu tr,.int row t⟩] 2))
  (q:Q (.int row t) { s with toks:=s.toks+1 }):wpAny (cr B.prog B.w) A (adk (.ref ea) eu true) Q E s:=by
 generalize(l5 (B:=B) D.kin st)=X;have I:InstAt s.heap ea oe B.cE (some (YM [⟨hm,.str dw tm,m⟩,⟨hr,.str eu tr,.int row t⟩] 2)):=⟨he,hc,by unfold notCls;rw[eK],by rw[hd];exact Tg⟩
 have hf:findObj K B.cE (some (YM [⟨hm,.str dw tm,m⟩,⟨hr,.str eu tr,.int row t⟩] 2)) eu=some (.value (.int row t)):=by
  unfold findObj;rw[D.kE,D.rowE];simp only[cH];unfold aed;rw[D.dctE];rfl
 generalize(D.clsE.keeps st)=hC;have hb:(.ref cS::mz:List am).contains (.type "BaseException")=true:=by rfl
 generalize(I.type (M:=cr B.prog B.w))=L0;generalize(abK (M:=cr B.prog B.w) X zh)=L1;generalize(abK (M:=cr B.prog B.w) X vi)=L2;generalize(looks_find (M:=cr B.prog B.w) X I hf)=L3;obtain⟨h,g,dr,tk,os⟩:=s;generalize(PySem.F.attrBase_Exception.ga.bind (.ref ea))=f3;generalize(rfl:(true&&onTheHeap (abR "BaseException.__getattribute__"))=false)=SW;unfold adk getAttrBy;refine aa (adZ (eG (aa (L0.at (aa (L1.at ?_))))));dsimp only;have V7:(abR "BaseException.__getattribute__"==abR "object.__getattribute__")=false:=by decide +kernel
 rw[V7,aeS,if_neg jG];unfold getAttrByItsOwn hookBefore;refine aa ?_;rw[if_pos (show onTheHeap (gH B.cE)=true from rfl)];refine L2.at (aa (aaz (eG ?_)));unfold callGetattribute;rw[if_neg (by decide)];unfold boundAndCalled;refine aa (aaB f3 ?_);refine ZK ?_;refine Ze PySem.F.attrBase_Exception.ga.plain PySem.F.entry_bexc_ga (GO hC hb he hc ?_);unfold Builtin.«object.__getattribute__»;refine aa (ae ?_);dsimp only;refine aa (ae ?_);refine aa (L0.at (aa (L3.at ?_)));refine ae ?_;exact ae q
end
end
section
open Builtin Builtin.ObjectAttr Builtin.Getset_descriptor
section
variable{h:ir}
mutual
theorem pj:∀ (v:V) {u:am},V.clean v=true->Rep B h μ X v u->Rep B h bV X v u
 | .none,_,_,r=>r
 | .bool b,_,_,r=>r
 | .int i,_,_,r=>r
 | .str l,_,_,r=>r
 | .typ t,_,_,r=>r
 | .bnd,_,_,r=>r
 | .tup l,_,c,r=>by
  show Exists _;refine ab fun _ gG=>?_;obtain⟨a,xs,e,n,p,q⟩:=r;refine gG ?_;clear gG
  exact⟨a,xs,e,n,p,ey l c q⟩
 | .lst l,_,c,r=>by
  show Exists _;refine ab fun _ gG=>?_;obtain⟨a,xs,e,n,p,q⟩:=r;refine gG ?_;clear gG
  exact⟨a,xs,e,n,p,ey l c q⟩
 | .dct ks vs,_,c,r=>by
  show Exists _;refine ab fun _ gG=>?_;obtain⟨a,us,e,n,p,q⟩:=r;refine gG ?_;clear gG
  exact⟨a,us,e,n,p,ey vs c q⟩
 | .ref n,_,c,_=>j4 c
 | .sett n,_,c,_=>j4 c
theorem ey:∀ (vs:List V) {us:List am},V.cleans vs=true->Reps B h μ X vs us->Reps B h bV X vs us
 | [],us,_,r=>r
 | v::vs,us,c,r=>by
  show Exists _;simp only[V.cleans,gT]at c;obtain⟨u,q,rfl,r1,r2⟩:=r;exact⟨u,q,rfl,pj v c.1 r1,ey vs c.2 r2⟩
end
end
theorem swap_mem:a∈[]++(P++μ)↔a∈μ++P:=by
 simp only[abi,aeE];exact Or.comm
theorem xI(x:Inv B envs P μ O s):Inv B envs (P++μ) [] [] s where
 stays:=x.stays
 gens:=x.gens
 os:=x.os
 new:=fun a m=>x.new a (swap_mem.mp m)
 dom:=fun a m=>x.dom a (swap_mem.mp m)
 nodup:=Z2
 apart:=nofun
 len:=rfl
 cells:=fun i c a h _=>by simp at h
 frs:=fun e he=>by
  obtain⟨a,L,b,c,r⟩:=x.frs e he;exact⟨a,L,b,bo _ c,r⟩
theorem po(x:Inv B envs P μ O s)(st:B.H.StaysIn s'.heap)(gn:s'.gens=#[])(os:s'.os=B.os)(fr:∀ e∈envs,FrAt s'.heap (P++μ) e)(dm:∀ a o,s.heap.get? a=some o->∃ o',s'.heap.get? a=some o')
  (kp:∀ a o,s.heap.get? a=some o->NF envs a->s'.heap.get? a=some o):Inv B envs P μ O s' where
 stays:=st
 gens:=gn
 os:=os
 new:=x.new
 dom:=fun a m=>let⟨o,e⟩:=x.dom a m;dm a o e
 nodup:=x.nodup
 apart:=x.apart
 len:=x.len
 cells:=fun i c a h1 h2=>by
  have nf:∀ b,b∉P->NF envs b:=fun b hb e he hf=>by
   obtain⟨L,h1,h2⟩:=x.frIn e he;rw[h1]at hf;obtain rfl:=si hf
   exact hb h2
  exact(x.cells i c a h1 h2).move (fun b o e n=>kp b o e (nf b fun m=>n (aq _ m))) (fun o e=>kp a o e (nf a (x.apart a (fU h2)))) (fun _ _ e=>e) fun _ m=>.inl m
 frs:=fun e he=>(fr e he).less (x.frIn e he)
theorem xJ{h:ir}{m:fw->Option am}(hn:h.Ns L m)(k:∀ o,h.get? L=some o->∃ sl,h'.get? L=some { o with slots:=sl }):h'.Ns L m:=by
 obtain⟨o,es,ep,ho,hd,r⟩:=hn;obtain⟨sl,e⟩:=k o ho;exact⟨_,es,ep,e,hd,r⟩
noncomputable def dz(envs:List YY):List bQ:=envs.filterMap (·.frame)
theorem OR(h:a∉dz envs):NF envs a:=fun e he hf=>h (List.mem_filterMap.mpr ⟨e,he,hf⟩)
noncomputable def Np:lI->Option (Option Expr)
 | .Return e _=>some e
 | _=>none
noncomputable def TA:lI->Option (List lI×List agB)
 | .Try b h _ _ _=>some (b,h)
 | _=>none
noncomputable def OS:lI->Option Expr
 | .Expr e _=>some e
 | _=>none
noncomputable def DT:agB->Option Expr×Option fw×List lI
 | .ExceptHandler e x b _=>(e,x,b)
noncomputable def OT:Expr->Option (Expr×fw)
 | .Attribute e a _=>some (e,a)
 | _=>none
noncomputable def TB(f:fw->List Expr->fw->fw->fw->fw->b7)(ss:List lI):b7 :=
 ((pM ss).bind fun s=>(TA s.1).bind fun t=>(fX t.1).bind fun b=>(OS b).bind fun e=>(lL e).bind fun g=>(fX t.2).bind fun h=>(DT h).1.bind fun c=>(ik c).bind fun c=>(DT h).2.1.bind fun x=>(fX (DT h).2.2).bind fun q=>(Np q).bind fun q=>q.bind fun q=>(OT q).bind fun q =>
  (ik q.1).map fun y=>f g.1 g.2 c x y q.2).getD .stuck
noncomputable def rowE(T:bJ)(n:Nat)(sc:gK)(ss:List lI)(O:U)(ρ:af):b7:=TB (fun g args c x y r =>
  if(bd sc ρ g&&bd sc ρ c&&c==ac "SettingError"&&r==eu&&x==y&&sc.names.lookup x==some .local&&bW args&&!(x==ac "__debug__"))=true then(ah (T.fns.lookup g)).bind fun F=>match a9 (fun e O=>ev T n sc e ρ O) args O with
   | .ok a=>if V.cleans a.1=true then match F a.1 []with
     | .ok _=>.ok ((.ret .none,[]),a.2)
     | .exc row=>.ok ((.ret (.int row),[]),a.2)
     | .stuck=>.stuck
    else .stuck
   | _=>.stuck
  else .stuck) ss
end
section
open Builtin Builtin.ObjectAttr Builtin.Getset_descriptor
section
variable{K:adO}{cS NE NS fE fS:bQ}{fdE fdS:Zf}{mE mS:fw->Option am}{la:aay}
theorem zi(D:jl B K cS NE NS fE fS fdE fdS mE mS la)(zh:Zi K (.ref B.cE) "__getattribute__"=some (some (.builtin "BaseException.__getattribute__")))(vi:Zi K (.ref B.cE) "__getattr__"=some none)
  {A A0:bY} {envs:List YY} {env:YY} {P P' μ:List bQ} {O:U} {h0:ir} {s4:aO} {x:fw} {pr pn ps:YZ} {e:am} {row:Int} {ph:YZ} {Q Q1:aaV->aO->Prop} {E E' E1:am->aO->Prop} (S:Fit k A0 envs env P) (fZ:∃ m,h0.Ns env.locals m)
  (lx:env.scope.names.lookup x=some .local) (dx:(x==ac "__debug__")=false)
  (q1:∀ v s,wpAny (cr B.prog B.w) A0 (do bindName env x .none;unbindBehindTheSuite env x ph) (fun _ s'=>Q (.ret v) s') E1 s->Q1 (.ret v) s) (X4:Exc B envs P' [] [] h0 e row s4) (I4:Inv B envs P μ O s4) (V8:∀ a∈P,B.H.get? a=none)
  (q:∀ s6 t,Inv B envs P μ O s6->Go μ (own env++dz envs) h0 s6.heap->(∀ a o,a≠env.locals->h0.get? a=some o->∃ sl,s6.heap.get? a=some { o with slots:=sl })->(∃ m,s6.heap.Ns env.locals m)->Q (.ret (.int row t)) s6) :
  wpAny (cr B.prog B.w) A (storeName env x e) (fun _ iU=>wpAny (cr B.prog B.w) A (adR [.Return (some (.Attribute (.Name x pn) eu pr)) ps] env) Q1 E iU) E' s4:=by
 obtain⟨w,z⟩:=X4.at_;obtain⟨m0,fZ⟩:=fZ;have TC:s4.heap.Ns env.locals m0:=xJ fZ fun o ho=>let⟨sl,h,_⟩:=X4.kept _ o ho nofun fun m=>nomatch m;⟨sl,h⟩
 have hl:env.kindOf x=some .local:=lx;have hp:(env.scope.kind==.class||(env.scope.kind==.module&&env.locals != env.globals))=false:=by rw[S.kind];rfl
 have hlN:∀ a,Priv B envs h0 a->env.locals≠a:=fun a p z=>by
  obtain⟨o,_,_,e',_⟩:=fZ;have:=p.new;rw[<- z,e']at this;exact oQ this
 cases z.v
 refine ad9 hl TC (fun h5 TD L9=>?_) hp;have V9:B.H.StaysIn h5:=fun b o q7=>L9.extBut b o (fun z=>by
  have:=V8 _ S.own;rw[<- z,q7]at this;exact oQ this) (X4.stays b o q7)
 refine Yd (aah ?_);show wpAny _ _ (do
  let o'<-Z0 (.Name x pn) eu env (eval (.Name x pn) env)
  standAt pr.atName
  let r<-holding [o'] (adk o' eu true)
  letTemporaryGo (.Name x pn) o' r
  pure r) _ _ _
 refine aa (mK (fun p q z=>by cases z) (gL (s:={ s4 with heap:=h5,toks:=s4.toks+1 }) S.kind hl TD (if_pos rfl) dx (aa (Ye (aa (eG (JF (s:={ s4 with heap:=h5,toks:=s4.toks+1 }) D zh vi V9 ((L9.2 _ (Ne.symm (hlN _ z.own))).trans z.obj) z.cls z.dict z.data ((L9.2 _ (Ne.symm (hlN _ z.dwn))).trans z.dobj) (aa (aeq (ae ?_))))))))));refine q1 _ _ ?_;refine wpAny_nameGoes (s:={ s4 with heap:=h5,toks:=s4.toks+1+1 }) hl TD hp fun h6 m6 JG Wa=>?_;have hs:fq env.locals s4.heap h6:=L9.trans Wa;have hk:∀ b o,b∉[env.locals]->s4.heap.get? b=some o->h6.get? b=some o:=fun b o hb e=>hs.extBut b o (fun z=>hb (by simp[z])) e
 have hW:∀ a∈[env.locals],a∈P:=fun a m=>by rw[a8 m];exact S.own
 have hd:∀ a∈[env.locals],∃ o,h6.get? a=some o:=fun a m=>by rw[a8 m];obtain⟨o,_,_,e,_⟩:=JG;exact⟨o,e⟩
 refine q { s4 with heap:=h6,toks:=s4.toks+1+1+1 } w.t (I4.touch hk hW hd (o7 I4.frs hs (.inl ⟨_,JG⟩))) ⟨fun a o e n1 n2=>?_,fun a o e=>?_⟩ (fun a o n e=>?_) ⟨_,JG⟩
 ·refine hk a o (fun z=>n2 (bo _ (by rw[a8 z];exact aW))) ?_;exact X4.same a o e nofun nofun (OR fun m=>n2 (aq _ m))
 ·obtain⟨o',e'⟩:=X4.dm a o e;by_cases z:a=env.locals
  ·exact z▸hd _ (by simp)
  ·exact⟨o',hk a o' (by simpa using z) e'⟩
 ·obtain⟨sl,z,_⟩:=X4.kept a o e nofun nofun
  exact⟨sl,hk a _ (by simpa using n) z⟩
theorem Ma(D:jl B K cS NE NS fE fS fdE fdS mE mS la)(zh:Zi K (.ref B.cE) "__getattribute__"=some (some (.builtin "BaseException.__getattribute__")))(vi:Zi K (.ref B.cE) "__getattr__"=some none)(BO:aP B)(hE:B.mg (ac "SettingError")=some (.ref B.cE))
  {A:bY} {envs:List YY} {env:YY} {P μ:List bQ} {O:U} {s s':aO} {x:fw} {pc pr pn ps ph:YZ} {e:am} {row:Int} {Q:aaV->aO->Prop} {E:am->aO->Prop} (S:Fit k A envs env P) (I:Inv B envs P μ O s) (fZ:∃ m,s.heap.Ns env.locals m)
  (lc:env.scope.names.lookup (ac "SettingError")=some .globalImplicit) (lx:env.scope.names.lookup x=some .local) (dx:(x==ac "__debug__")=false)
  (X:Exc B envs (P++μ) [] [] s.heap e row s')
  (q:∀ s6 t,Inv B envs P μ O s6->Go μ (own env++dz envs) s.heap s6.heap->(∀ a o,a≠env.locals->s.heap.get? a=some o->∃ sl,s6.heap.get? a=some { o with slots:=sl })->(∃ m,s6.heap.Ns env.locals m)->Q (.ret (.int row t)) s6) :
  wpAny (cr B.prog B.w) A (adQ e env) (fun _ iU=>wpAny (cr B.prog B.w) A (setFlight e none) (fun _ k4=>wpAny (cr B.prog B.w) A (handleBy e env [.ExceptHandler (some (.Name (ac "SettingError") pc)) (some x) [.Return (some (.Attribute (.Name x pn) eu pr)) ps] ph]) Q E k4) E iU) E s':=by
 refine ab fun _ gG=>?_;obtain⟨e0,rest,L,qZ,uz,hf⟩:=S.frm;refine gG ?_;clear gG
 refine jJ S.frames qZ uz hf X fun s2 X2 n2=>kU X2 n2 fun s3 X3 n3=>?_;refine ab fun _ gG=>?_;obtain⟨w3,z3⟩:=X3.at_;refine gG ?_;clear gG
 refine ab fun _ gG=>?_;obtain⟨cw,Wb⟩:=D.clsE.keeps X3.stays;refine gG ?_;clear gG
 cases z3.v
 refine wpAny_handleBy_cons (codeAny_handlers_test (ZN S.kind lc (acK (by rw[S.glob];exact BO.hg.keeps X3.stays) hE ?_) (by decide +kernel))) (by intro z;cases z);refine wpAny_excMatches_sub_self Wb z3.obj z3.cls (by rfl) ?_;refine codeAny_handlers_suite_as (kU X3 n3 fun s4 X4 _=>?_);exact zi (Q:=Q) (ph:=ph) D zh vi S fZ lx dx (fun _ _ h=>h) X4 (po I X4.stays X4.gens X4.os X4.frs X4.dm fun a o h nf=>X4.same a o h nofun nofun nf) (fun a h=>I.new a (aq μ h)) q
end
end
section
open Builtin Builtin.ObjectAttr Builtin.Getset_descriptor
section
variable{K:adO}{cS NE NS fE fS:bQ}{fdE fdS:Zf}{mE mS:fw->Option am}{la:aay}
theorem Aft.wider{Y:List bQ}{h:ir}{r:R (β×U)}{J:β->List bQ->aO->Prop}(x:Aft B envs P μ Z h r J E)(hz:∀ a∈Y,a∈Z):Aft B envs P μ Y h r J E:=by
 cases r with
 | ok a=>exact fun ν s' h1 h2 h3=>x ν s' h1 h2 (h3.wide hz)
 | exc row=>exact fun e s' h1=>x e s' (h1.wide hz)
 | stuck=>exact x.elim
theorem Fk{h:ir}(hn:∃ m,h.Ns env.locals m):SR B env P μ [] h:=by
 obtain⟨m,hn⟩:=hn;exact⟨m,hn,fun x ov e=>by simp at e⟩
theorem vj(I:Inv B envs P μ O s)(m:a∈dz envs.tail):a∉μ:=fun q=>by
 obtain⟨e,he,hf⟩:=List.mem_filterMap.mp m;obtain⟨L,h1,h2⟩:=I.frIn e (List.mem_of_mem_tail he);rw[h1]at hf;obtain rfl:=si hf
 exact I.apart _ q h2
noncomputable def fk(envs:List YY)(h h':ir):Prop:=∀ a∈dz envs,∀ o,h.get? a=some o->∃ sl,h'.get? a=some { o with slots:=sl }
theorem DU(BO:aP B)(TO:dn B k T)(OO:jj B)(hE:B.mg (ac "SettingError")=some (.ref B.cE))(D:jl B K cS NE NS fE fS fdE fdS mE mS la)(zh:Zi K (.ref B.cE) "__getattribute__"=some (some (.builtin "BaseException.__getattribute__")))
  (vi:Zi K (.ref B.cE) "__getattr__"=some none) {g c x y rr:fw} {args:List Expr} {p1 p2 p3 p4 p5 p6 p7 p8 p9 Mb Mc} {tC} {A:bY} {envs:List YY} {env:YY} {P μ:List bQ} {O:U} {s:aO} {ρ:af} {Q:aaV->aO->Prop} {E:am->aO->Prop} (S:Fit k A envs env P) (I:Inv B envs P μ O s) (r:SR B env P μ ρ s.heap) (hown:env.locals∉dz envs.tail)
  (H:Aft B envs P μ (own env++dz envs) s.heap (rowE T n env.scope [.Try [.Expr (.Call (.Name g p1) args [] p2) p3] [.ExceptHandler (some (.Name c p4)) (some x) [.Return (some (.Attribute (.Name y p5) rr p6)) p7] p8] [] [] p9,.Return (some (.Constant .none tC Mb)) Mc] O ρ) (fun a bV s'=>fk envs.tail s.heap s'.heap->KF B env P Q a bV s') E):wpAny (cr B.prog B.w) A (adR [.Try [.Expr (.Call (.Name g p1) args [] p2) p3] [.ExceptHandler (some (.Name c p4)) (some x) [.Return (some (.Attribute (.Name y p5) rr p6)) p7] p8] [] [] p9,.Return (some (.Constant .none tC Mb)) Mc] env) Q E s:=by
 replace H:=Aft.ite H;obtain⟨hc,H⟩:=H;simp only[gT,ZA,beq_iff_eq]at hc;obtain⟨⟨⟨⟨⟨⟨⟨hg,Wc⟩,ec⟩,er⟩,Wd⟩,hx⟩,OU⟩,dx⟩:=hc;subst ec er Wd;obtain⟨lg,dg⟩:=fj hg;obtain⟨lc,dc⟩:=fj Wc;obtain⟨F,hF,H⟩:=Aft.opt H;obtain⟨a,hm,⟨κ,mL,hkp⟩,OQ⟩:=TO.fns g F hF;induction hl:a9 (fun e O=>ev T n env.scope e ρ O) args O using R.casesOn with
 | exc row=>rw[hl]at H;exact H.elim
 | stuck=>rw[hl]at H;exact H.elim
 | ok al =>
  obtain⟨vs,aS⟩:=al;rw[hl]at H;replace H:=Aft.ite H;generalize((H)).1=hcl;generalize((H)).2=H;dsimp only at hcl H;generalize((bM OU)).1=hs;have hp:(Yx p2 (j8 args env)).any (·.1)=false:=by rw[aR hs];exact et
  have TE:∃ m,s.heap.Ns env.locals m:=let⟨m,h,_⟩:=r;⟨m,h⟩
  refine Yd (wpAny_Try_except (Yd (wpAny_Expr_any ?_ (iy S.kind) rfl)));show wpAny _ _ (do callWith p2 (<- eval (.Name g p1) env) [] (Yx p2 (j8 args env)) []) _ _ s;refine aa (fy BO S.kind S.glob I lg dg hm ?_);refine cj hp mL (gX hs (fz (gb BO TO OO n).1 S.toSit I r ?_));rw[hl];intro aT s1 f1 I1 g1 us R1;refine⟨fun Q' q=>hkp I1.stays q,?_⟩;have Nq:∃ m,s1.heap.Ns env.locals m:=by
   obtain⟨m,ho⟩:=TE;obtain⟨o,es,ep,ho,rest⟩:=ho;exact⟨m,o,es,ep,g1.kp _ o ho (fun q=>I.apart _ q S.own) nofun,rest⟩
  generalize(ey vs hcl (Reps.move vs R1 (Kp.refl _ _) (fun _ _ e=>e) fun a m=>.inl (swap_mem.mp m)):Reps B s1.heap [] ([]++(P++(μ++aT))) vs us)=We;refine OQ S.frames S.handled S.depth S.units (xI I1) We ?_;induction hr:F vs []using R.casesOn with
  | stuck=>rw[hr]at H;exact H.elim
  | ok b =>
   rw[hr]at H;intro eY s2 f2 I2 g2 u hu;refine YJ (YJ (Yd (aah ?_)));generalize(po I1 I2.stays I2.gens I2.os I2.frs g2.dm fun a o h _=>g2.kp a o h nofun fun m=>nomatch m:Inv B envs P (μ++aT) aS s2)=I3;show wpAny _ _ (constValue env .none) _ _ _;refine ae (H aT s2 f1 I3 ⟨fun b o e n1 _=>g2.kp b o (g1.kp b o e n1 nofun) nofun nofun,fun b o e=>let⟨o',e'⟩:=g1.dm b o e;g2.dm b o' e'⟩ (fun a m o e=>⟨o.slots,g2.kp a o (g1.kp a o e (vj I m) nofun) nofun nofun⟩) ?_ _ zN);refine Fk ?_;obtain⟨m,o,es,ep,ho,rest⟩:=Nq;exact⟨m,o,es,ep,g2.kp _ o ho nofun nofun,rest⟩
  | exc row =>
   rw[hr]at H;intro e s2 X2;refine Ma D zh vi BO hE S I1 Nq lc hx dx X2 fun s6 t I6 g6 k6 JG=>?_;exact H aT s6 f1 I6 ⟨fun b o e n1 n2=>g6.kp b o (g1.kp b o e n1 nofun) (fun m=>by
    rcases bU m with m|m
    ·exact n1 m
    ·rw[f1 b m]at e;exact nn e) n2,fun b o e=>let⟨o',e'⟩:=g1.dm b o e;g6.dm b o' e'⟩ (fun a m o e=>k6 a o (fun z=>hown (z▸m)) (g1.kp a o e (vj I m) nofun)) (Fk JG) _ zI
theorem Md{F:Fn}(BO:aP B)(FA:FnAt B a fd F)(TO:dn B k T)(OO:jj B)(hE:B.mg (ac "SettingError")=some (.ref B.cE))(D:jl B K cS NE NS fE fS fdE fdS mE mS la)(zh:Zi K (.ref B.cE) "__getattribute__"=some (some (.builtin "BaseException.__getattribute__")))
  (vi:Zi K (.ref B.cE) "__getattr__"=some none) {g c x y rr:fw} {args:List Expr} {p1 p2 p3 p4 p5 p6 p7 p8 p9 Mb Mc} {tC}
  (hb:F.body=[.Try [.Expr (.Call (.Name g p1) args [] p2) p3] [.ExceptHandler (some (.Name c p4)) (some x) [.Return (some (.Attribute (.Name y p5) rr p6)) p7] p8] [] [] p9,.Return (some (.Constant .none tC Mb)) Mc]):mX B dz fk (k+1) (.ref a) (oG (fun ρ O=>rowE T n F.scope F.body O ρ) F):=by
 refine tO (W:=fun env envs=>own env++dz envs) (Z:=dz) (J:=fk) BO FA (fun env envs x hf m=>?_) (fun env envs=>bo _ aW) (fun envs h h1 h2 kp j a m o e=>j a m o (kp a o e)) fun S e ho I r H=>?_
 ·rcases bU m with m|m
  ·exact .inl m
  ·unfold dz at m;rw[aaX hf]at m;rcases cn m with rfl|m
   ·exact .inl aW
   ·exact .inr m
 ·rw[hb]at H ⊢;rw[<- e]at H;exact DU (n:=n) BO TO OO hE D zh vi S I r ho H
end
end
section
open Builtin Builtin.ObjectAttr Builtin.Getset_descriptor
theorem Aft.mapG{Y:List bQ}{h:ir}{r:R (β×U)}{J J':β->List bQ->aO->Prop}(x:Aft B envs P μ Y h r J E)
  (q:∀ b ar ν s',(∀ a∈ν,h.get? a=none)->Inv B envs P (μ++ν) ar s'->Go μ Y h s'.heap->J b (μ++ν) s'->J' b (μ++ν) s'):Aft B envs P μ Y h r J' E:=by
 cases r with
 | ok a=>exact fun ν s' h1 h2 h3=>q _ _ _ _ h1 h2 h3 (x ν s' h1 h2 h3)
 | exc row=>exact x
 | stuck=>exact x
theorem SR.goZ{h:ir}(x:SR B env P μ ρ h)(g:Go μ (dz envs) h h')(j:fk envs h h')(hν:∀ a∈ν,h.get? a=none)(ap:∀ a∈μ,a∉P)(hP:∀ a∈dz envs,a∈P)
  (hl:env.locals∈P) (hc:∀ x a,env.cells.lookup x=some a->a∈P):SR B env P (μ++ν) ρ h':=by
 have up:∀ a∈P,∀ o,h.get? a=some o->∃ sl,h'.get? a=some { o with slots:=sl }:=fun a hp o e=>by
  by_cases m:a∈dz envs
  ·exact j a m o e
  ·exact⟨o.slots,g.kp a o e (fun q=>ap a q hp) m⟩
 obtain⟨m,hn,hv⟩:=x;refine⟨m,xJ hn (up _ hl),fun x ov e=>?_⟩;obtain⟨ou,h1,h2⟩:=hv x ov e;refine⟨ou,h1.imp id ?_,h2.go g hν hP⟩;rintro⟨hk,a,o,h3,h4,h5⟩;obtain⟨sl,z⟩:=up a (hc _ _ h3) o h4;exact⟨hk,a,_,h3,z,h5⟩
noncomputable def sH(B:bw)(k:Nat)(f:gK->af->U->R (V×U))(e:Expr):Prop :=
 ∀ {A:bY} {envs:List YY} {env:YY} {P μ:List bQ} {O:U} {s:aO} {ρ:af} {Q:am->aO->Prop} {E:am->aO->Prop},Fit k A envs env P->Inv B envs P μ O s->SR B env P μ ρ s.heap ->
  Aft B envs P μ (dz envs) s.heap (f env.scope ρ O) (fun v bV s'=>SR B env P bV ρ s'.heap->KV B P Q v bV s') E->wpAny (cr B.prog B.w) A (eval e env) Q E s
noncomputable def ri(T:bJ)(n:Nat)(F:aG)(g:fw)(args:List Expr)(sc:gK)(ρ:af)(O:U):R (V×U) :=
 if(bd sc ρ g&&bW args)=true then(a9 (fun e O=>ev T n sc e ρ O) args O).bind fun a=>F a.1 a.2 else .stuck
noncomputable def xK(T:bJ)(n:Nat)(f:gK->af->U->R (V×U))(op:acR)(r:Expr)(sc:gK)(ρ:af)(O:U):R (V×U) :=
 if aat [op] [r]=true then .stuck else(f sc ρ O).bind fun a=>(ev T n sc r ρ a.2).bind fun b=>(ah (av op a.1 b.1 b.2)).bind fun c=>.ok (.bool c,b.2)
noncomputable def JH(f g:gK->af->U->R (V×U))(sc:gK)(ρ:af)(O:U):R (V×U) :=
 (f sc ρ O).bind fun a=>(ah a.1.truth).bind fun t=>match t with
  | true=>g sc ρ a.2
  | false=>.ok a
theorem Me(I:Inv B envs P μ O s):∀ a∈dz envs,a∈P:=fun a m=>by
 obtain⟨e,he,hf⟩:=List.mem_filterMap.mp m;obtain⟨L,h1,h2⟩:=I.frIn e he;rw[h1]at hf;cases hf
 exact h2
theorem vk{p1 p2:YZ}(BO:aP B)(TO:dn B k T)(OO:jj B)(hm:B.mg g=some (.ref a))(hk:Kept B (.ref a))(FO:mX B dz fk k (.ref a) F) :
  sH B k (ri T n F g args) (.Call (.Name g p1) args [] p2):=by
 intro A envs env P μ O s ρ Q E S I r H;unfold ri at H;replace H:=Aft.ite H;generalize((H)).1=hc;generalize((H)).2=H;generalize((bM hc)).1=hg;generalize((bM hc)).2=OU;generalize((fj hg)).1=lg;generalize((fj hg)).2=dg;generalize((bM OU)).1=hs;obtain⟨κ,mL,hkp⟩:=hk;have hp:(Yx p2 (j8 args env)).any (·.1)=false:=by rw[aR hs];exact et
 show wpAny _ _ (do callWith p2 (<- eval (.Name g p1) env) [] (Yx p2 (j8 args env)) []) _ _ s;refine aa (fy BO S.kind S.glob I lg dg hm ?_);refine cj hp mL (gX hs (fz (gb BO TO OO n).1 S.toSit I r (H.bindN fun vs aS aT s1 _ f1 I1 g1 H1 us R1=>?_)));refine⟨fun Q' q=>hkp I1.stays q,?_⟩;generalize(r.goO S g1 f1 I.apart)=r1;refine FO S.frames S.handled S.depth S.units I1 R1 (H1.mapG fun v ky eY s2 f2 I2 g2 h2 j2=>h2 ?_);exact r1.goZ g2 j2 f2 I1.apart (Me I) S.own S.cellsIn
theorem xL{f:gK->af->U->R (V×U)}{l r':Expr}{op:acR}{pos:YZ}(BO:aP B)(TO:dn B k T)(OO:jj B)(hf:sH B k f l):sH B k (xK T n f op r') (.Compare l [op] [r'] pos):=by
 intro A envs env P μ O s ρ Q E S I r H;unfold xK at H;generalize((H.nite)).1=hm;generalize((H.nite)).2=H;show wpAny _ _ (do ad4 pos (<- eval l env) [op] (aeY [op] [r'] (acM [r'] env))) Q E s;rw[acn _ _ _ (by simpa using hm)];refine aa (hf S I r (H.bind fun a aS aT s1 _ f1 I1 g1 H1 r1 u1 R1=>?_));refine chain_last ((gb BO TO OO n).1 r' S.toSit I1 r1 (H1.bindN fun b ky eY s2 _ f2 I2 g2 H2 u2 R2=>?_));generalize(r1.goO S g2 f2 I1.apart)=r2;obtain⟨c,hc,H2⟩:=H2.opt;refine OO.cmp op S.handled S.depth' S.units' I2 (R1.go g2 f2 nofun) R2 hc fun s' I' g'=>?_;exact Aft.at0 (O:=ky) (b:=V.bool c) H2 I' g'.of_nil (r2.step g' I2.apart S.own S.cellsIn) _ zB
theorem GP{f g:gK->af->U->R (V×U)}{e1 e2:Expr}{pos:YZ}(hf:sH B k f e1)(hg:sH B k g e2):sH B k (JH f g) (.BoolOp .And [e1,e2] pos):=by
 intro A envs env P μ O s ρ Q E S I r H;unfold JH at H;refine BoolOp_and (hf S I r (H.bind fun a aS aT s1 _ f1 I1 g1 H1 r1 u1 R1=>?_));obtain⟨t,ht,H1⟩:=H1.opt;refine kP R1 ht ?_;cases t with
 | true=>exact BoolOp_one (hg S I1 r1 H1)
 | false=>exact Aft.here (O:=aS) (b:=a) H1 I1 r1 _ R1
end
section
open Builtin Builtin.ObjectAttr Builtin.Getset_descriptor
noncomputable def kg(f g:lI->af->U->b7):List lI->af->U->b7
 | [],_,_=>.stuck
 | [s],ρ,O=>g s ρ O
 | s::t::r,ρ,O=>(f s ρ O).bind fun a=>match a.1.1 with
  | .next=>kg f g (t::r) a.1.2 a.2
  | _=>.ok a
noncomputable def OV:Expr->Option (List Expr)
 | .BoolOp _ l _=>some l
 | _=>none
noncomputable def TF:Expr->Option (Expr×List Expr)
 | .Compare e _ l _=>some (e,l)
 | _=>none
noncomputable def Nr(e:Expr):Option (fw×List Expr×Expr):=(TF e).bind fun c=>(lL c.1).bind fun g=>(fX c.2).map fun r=>(g.1,g.2,r)
noncomputable def lf(T:bJ)(n:Nat)(F:aG)(gF:fw)(sc:gK)(st:lI)(ρ:af)(O:U):b7 :=
 ((Np st).bind fun e=>e.bind fun e=>(OV e).bind fun l=>(pM l).bind fun l=>(Nr l.1).bind fun x=>(Nr l.2).map fun y =>
  if(x.1==gF&&y.1==gF)=true then(JH (xK T n (ri T n F gF x.2.1) .Eq x.2.2) (xK T n (ri T n F gF y.2.1) .Is y.2.2) sc ρ O).bind fun a=>.ok ((.ret a.1,ρ),a.2)else .stuck).getD .stuck
theorem zj{fa:bQ}{gF:fw}(BO:aP B)(TO:dn B k T)(OO:jj B)(hm:B.mg gF=some (.ref fa))(hk:Kept B (.ref fa))(FO:mX B dz fk k (.ref fa) F){g':fw}{DV DW:List Expr}{r1 r2:Expr}{p1 p2 p3 p4 p5 p6 p7 p8}
  {A:bY} {envs:List YY} {env:YY} {P μ:List bQ} {O:U} {s:aO} {ρ:af} {Q:aaV->aO->Prop} {E:am->aO->Prop} (S:Fit k A envs env P) (I:Inv B envs P μ O s) (r:SR B env P μ ρ s.heap)
  (H:Aft B envs P μ (own env++dz envs) s.heap (lf T n F gF env.scope (.Return (some (.BoolOp .And [.Compare (.Call (.Name g p1) DV [] p2) [.Eq] [r1] p3,.Compare (.Call (.Name g' p4) DW [] p5) [.Is] [r2] p6] p7)) p8) ρ O) (KF B env P Q) E):wpAny (cr B.prog B.w) A (exec (.Return (some (.BoolOp .And [.Compare (.Call (.Name g p1) DV [] p2) [.Eq] [r1] p3,.Compare (.Call (.Name g' p4) DW [] p5) [.Is] [r2] p6] p7)) p8) env) Q E s:=by
 replace H:=Aft.ite H;obtain⟨hc,H⟩:=H;simp only[gT,beq_iff_eq]at hc;obtain⟨e1,e2⟩:=hc;subst e1 e2;generalize(xL (r':=r1) (op:=.Eq) (pos:=p3) (n:=n) BO TO OO (vk (n:=n) (args:=DV) (p1:=p1) (p2:=p2) BO TO OO hm hk FO):sH B k (xK T n (ri T n F g' DV) .Eq r1) (.Compare (.Call (.Name g' p1) DV [] p2) [.Eq] [r1] p3))=z1;generalize(xL (r':=r2) (op:=.Is) (pos:=p6) (n:=n) BO TO OO (vk (n:=n) (args:=DW) (p1:=p4) (p2:=p5) BO TO OO hm hk FO):sH B k (xK T n (ri T n F g' DW) .Is r2) (.Compare (.Call (.Name g' p4) DW [] p5) [.Is] [r2] p6))=z2;refine aah (GP (pos:=p7) (@z1) (@z2) S I r ((Aft.bind H fun v aS aT s1 _ f1 I1 g1 H1=>?_).wider fun a m=>aq _ m));exact fun r1 u R=>Aft.here (O:=aS) (b:=(Fl.ret v,ρ)) H1 I1 r1 u R
theorem sI{f g:gK->lI->af->U->b7}(ih:∀ st,d5 B f k st){A:bY}{envs:List YY}{env:YY}{P:List bQ}{Q:aaV->aO->Prop}{E:am->aO->Prop}(S:Fit k A envs env P)
  {DX:lI} (hl:∀ {μ:List bQ} {O:U} {s:aO} {ρ:af} {Q:aaV->aO->Prop} {E:am->aO->Prop},Inv B envs P μ O s->SR B env P μ ρ s.heap->Aft B envs P μ (own env++dz envs) s.heap (g env.scope DX ρ O) (KF B env P Q) E->wpAny (cr B.prog B.w) A (exec DX env) Q E s) :
  ∀ (ss:List lI) {μ:List bQ} {O:U} {s:aO} {ρ:af},ss.getLast?=some DX->Inv B envs P μ O s->SR B env P μ ρ s.heap ->
  Aft B envs P μ (own env++dz envs) s.heap (kg (f env.scope) (g env.scope) ss ρ O) (KF B env P Q) E->wpAny (cr B.prog B.w) A (adR ss env) Q E s
 | [],_,_,_,_,_,_,_,H=>H.elim
 | [st],μ,O,s,ρ,e,I,r,H=>by
  cases e
  refine Yd (hl I r (Aft.mapG (show Aft B envs P μ (own env++dz envs) s.heap (g env.scope st ρ O) (KF B env P Q) E from H) fun a aS aT s1 _ _ _ h1 r1=>?_));generalize(h1 r1)=h1;obtain⟨fl,bj⟩:=a;cases fl with
  | next=>exact YJ h1
  | cont=>exact h1
  | brk=>exact h1
  | ret v=>exact h1
 | st::t::ss,μ,O,s,ρ,e,I,r,H=>by
  have H':Aft B envs P μ (own env++dz envs) s.heap ((f env.scope st ρ O).bind fun a=>match a.1.1 with
   | .next=>kg (f env.scope) (g env.scope) (t::ss) a.1.2 a.2
   | _=>.ok a) (KF B env P Q) E:=H
  refine Yd (ih st S I r ((H'.bind fun a aS aT s1 _ f1 I1 g1 H1 r1=>?_).wider fun a m=>bo _ m));obtain⟨fl,bj⟩:=a;cases fl with
  | next=>exact sI ih S hl (t::ss) e I1 r1 H1
  | cont=>exact Aft.here (O:=aS) (b:=(Fl.cont,bj)) H1 I1 r1
  | brk=>exact Aft.here (O:=aS) (b:=(Fl.brk,bj)) H1 I1 r1
  | ret v=>exact fun u hu=>Aft.here (O:=aS) (b:=(Fl.ret v,bj)) H1 I1 r1 u hu
theorem Mf{fa:bQ}{F:Fn}{G:aG}{gF:fw}(BO:aP B)(FA:FnAt B a fd F)(TO:dn B k T)(OO:jj B)(IP:∀ st,d5 B (ex T n) k st)(hm:B.mg gF=some (.ref fa))(hk:Kept B (.ref fa))(FO:mX B dz fk k (.ref fa) G){g':fw}{DV DW:List Expr}{r1 r2:Expr}{p1 p2 p3 p4 p5 p6 p7 p8}(hb:F.body.getLast?=some (.Return (some (.BoolOp .And [.Compare (.Call (.Name g p1) DV [] p2) [.Eq] [r1] p3,.Compare (.Call (.Name g' p4) DW [] p5) [.Is] [r2] p6] p7)) p8)) :
  mX B dz (fun _ _ _=>True) (k+1) (.ref a) (oG (kg (ex T n F.scope) (lf T n G gF F.scope) F.body) F):=by
 refine tO (W:=fun env envs=>own env++dz envs) (Z:=dz) BO FA (fun env envs x hf m=>?_) (fun env envs=>bo _ aW) (fun _ _ _ _ _ _=>trivial) fun S e ho I r H=>?_
 ·rcases bU m with m|m
  ·exact .inl m
  ·unfold dz at m;rw[aaX hf]at m;rcases cn m with rfl|m
   ·exact .inl aW
   ·exact .inr m
 ·refine sI (f:=ex T n) (g:=lf T n G gF) IP S (fun I r H=>zj BO TO OO hm hk FO S I r H) F.body hb I r ?_;rw[e];exact H.mono fun _ _ _ x=>x trivial
end
theorem ng:∀ a∈μ++P,a∈(μ++ν)++P:=fun a m=>by
 rcases bU m with q|q
 ·exact bo _ (bo _ q)
 ·exact aq _ q
theorem vl{h:ir}{c:Cell}(x:CellAt B h (μ++ν) ((μ++ν)++P) c a):CellAt B h μ (μ++P) c a:=by
 have y:=CellAt.sub (X':=μ++P) x fun a m=>.inl (ng a m)
 cases c with
 | list l =>
  obtain⟨hc,xs,hp,hr⟩:=y;exact⟨hc,xs,hp,ey _ hc hr⟩
 | dict ks vs =>
  obtain⟨hc,us,hp,hr⟩:=y;exact⟨hc,us,hp,ey _ hc hr⟩
theorem Inv.cut(x:Inv B envs P (μ++ν) O s):Inv B envs P μ (O.take μ.length) s where
 stays:=x.stays
 gens:=x.gens
 os:=x.os
 new:=fun a m=>x.new a (ng a m)
 dom:=fun a m=>x.dom a (ng a m)
 nodup:=(List.nodup_append.mp x.nodup).1
 apart:=fun a m=>x.apart a (bo _ m)
 len:=by
  have:=x.len;rw[bv]at this;rw[ZE];exact(acO (this▸ef _ _)).symm
 cells:=fun i c a h1 h2=>by
  generalize((iQ h2).1:i<μ.length)=hi;rw[aaG,if_pos hi]at h1;exact vl (x.cells i c a h1 (by rw[eQ hi];exact h2))
 frs:=x.frs
theorem xM(I:Inv B envs P (μ++ν) O s){w:V}(h:rR μ.length O v=some w)(r:Rep B s.heap (μ++ν) ((μ++ν)++P) v u):Rep B s.heap μ (μ++P) w u:=by
 have other:v.clean=true->some v=some w->Rep B s.heap μ (μ++P) w u:=fun hc e=>by
  cases e
  exact pj v hc (r.sub fun a m=>.inl (ng a m))
 have Wf:(if v.clean=true then some v else YO)=some w->Rep B s.heap μ (μ++P) w u:=fun h=>other (ifs h).1 (congrArg some (ifs h).2)
 cases v with
 | ref k =>
  replace h:(if k<μ.length then some (V.ref k)else(O[k]?).map Cell.toV)=some w:=h;replace r:=dU r;obtain⟨a,rfl,e⟩:=r;by_cases hk:k<μ.length
  ·rw[if_pos hk]at h;cases h
   rw[eQ hk]at e;exact zR e
  ·rw[if_neg hk]at h;obtain⟨c,hc,rfl⟩:=Option.map_eq_some_iff.mp h;have iV:μ.length<=k:=js hk;have TG:a∉μ++P:=fun m=>by
    rcases bU m with q|q
    ·rw[eM iV]at e;exact(List.nodup_append.mp I.nodup).2.2 a q a (fU e) rfl
    ·exact I.apart a (fU e) q
   have A4:=vl (I.cells k c a hc e);cases c with
   | list l =>
    obtain⟨_,xs,⟨o,m,ho,hcl,rest⟩,hr⟩:=A4;show Exists _;exact⟨a,xs,rfl,TG,PlainL.isList ⟨o,m,ho,hcl,rest⟩,hr⟩
   | dict ks vs =>
    obtain⟨_,us,hp,hr⟩:=A4;show Exists _;exact⟨a,us,rfl,TG,hp,hr⟩
 | _=>exact Wf h
theorem vn{envs:List YY}{P μ ν:List bQ}{O:U}{s:aO}(I:Inv B envs P (μ++ν) O s):∀ {vs ws:List V} {us:List am},ip μ.length O vs=some ws->Reps B s.heap (μ++ν) ((μ++ν)++P) vs us->Reps B s.heap μ (μ++P) ws us
 | [],ws,us,h,r=>by cases h;exact r
 | v::vs,ws,us,h,r=>by
  replace h:((rR μ.length O v).bind fun u=>(ip μ.length O vs).map fun us=>u::us)=some ws:=h;obtain⟨w,hw,h⟩:=Option.bind_eq_some_iff.mp h;obtain⟨y5,Wg,rfl⟩:=Option.map_eq_some_iff.mp h;show Exists _;obtain⟨u,q,rfl,r1,r2⟩:=r;exact⟨u,q,rfl,xM I hw r1,vn I Wg r2⟩
theorem xN(I:Inv B envs P (μ++ν) O s){w:V}(h:ot μ.length O v=some w)(r:Rep B s.heap (μ++ν) ((μ++ν)++P) v u):Rep B s.heap μ (μ++P) w u:=by
 cases v with
 | tup l =>
  replace h:(ip μ.length O l).map V.tup=some w:=h;refine ab fun _ gG=>?_;obtain⟨l',hl,rfl⟩:=Option.map_eq_some_iff.mp h;refine gG ?_;clear gG
  show Exists _;refine ab fun _ gG=>?_;obtain⟨a,xs,e,n,p,q⟩:=r;refine gG ?_;clear gG
  exact⟨a,xs,e,fun m=>n (ng a m),p,vn I hl q⟩
 | _=>refine xM I ?_ r;exact h
theorem Mg(hF:FnOk B k fu F):FnOk B k fu (t8 F):=by
 intro A envs P μ O s vs us Q E gA hh iY on I R H;refine hF gA hh iY on I R ?_;have H':Aft B envs P μ [] s.heap ((F vs O).bind fun a=>(ah (ot O.length a.2 a.1)).bind fun v=>.ok (v,a.2.take O.length)) (KV B P Q) E:=H;cases hr:F vs O with
 | stuck=>rw[hr]at H';exact H'.elim
 | exc row=>rw[hr]at H';exact H'
 | ok a =>
  rw[hr]at H';obtain⟨w,hw,H'⟩:=Aft.opt (show Aft B envs P μ [] s.heap ((ah (ot O.length a.2 a.1)).bind fun v=>.ok (v,a.2.take O.length)) (KV B P Q) E from H');intro ν s' f I' g' u hu;rw[<- I.len]at hw H';have:=H' [] s' nofun (by rw[bP];exact I'.cut) g' u
  rw[bP]at this;exact this (xN I' hw hu)
theorem mo{α β:Type}{f g:α->Option β} : ∀ {l:List α},(∀ x∈l,f x=g x)->l.filterMap f=l.filterMap g
 | [],_=>rfl
 | a::l,h=>by
  rw[aax,aax,h a aW,mo fun x m=>h x (bG _ m)]
theorem iB{α:Type} : ∀ {ps:List fw} {us:List α},ps.Nodup->us.length=ps.length->(ps.filterMap fun n=>((ps.zip us).lookup n).map (n,·))=ps.zip us
 | [],us,_,_=>by simp
 | p::ps,[],_,h=>by simp at h
 | p::ps,u::us,nd,h=>by
  generalize(z9 nd)=TH;generalize(iB TH.2 (show us.length=ps.length by simpa using h))=ih;rw[YK,aax];simp only[dR,beq_self_eq_true,ZM];congr 1
  refine Eq.trans ?_ ih;exact mo fun x hx=>by
   have hne:(x==p)=false:=by
    have:x≠p:=fun e=>TH.1 (e▸hx)
    simpa using this
   rw[hne]
theorem nh{α:Type}{n:fw} : ∀ {ps:List fw} {us:List α},n∈ps.take us.length->((ps.zip us).lookup n).isSome=true
 | [],_,h=>by simp at h
 | p::ps,[],h=>by simp at h
 | p::ps,u::us,h=>by
  rw[YK,dR];by_cases e:n=p
  ·subst e;simp
  ·have:(n==p)=false:=by simpa using e
   rw[this];simp only[cx,adL,j3]at h;exact nh (h.resolve_left e)
theorem OW{A:bY}{c:Prop}[Decidable c]{x y:Xm α}{Q:α->aO->Prop}(h:¬c)(k:wpAny M A y Q E s):wpAny M A (if c then x else y) Q E s:=by rw[if_neg h];exact k
theorem vo{ps:List fw}(nd:ps.Nodup)(h:us.length=ps.length):(ps.filterMap fun n=>((ps.zip us).lookup n).map (n,·))=ps.zip (us++ds.drop (ds.length-(ps.length-us.length))):=by
 rw[iB nd h,h,Z5,afw,aa2,bP]
theorem GQ{ini:List fw}(h:x∉ini):((ini.zip us).lookup x).isNone=true:=by
 rcases e:(ini.zip us).lookup x with _|v
 ·rfl
 ·exact absurd (List.of_mem_zip (bZ e)).1 h
theorem JI{A:bY}{f:fw×am->List (fw×am)->Xm (ForInStep (List (fw×am)))}(h0:∀ n d S,(S.lookup n).isNone=false->f (n,d) S=pure (.yield S))(h1:∀ n d S,(S.lookup n).isNone=true->f (n,d) S=pure (.yield (S++[(n,d)])))
  {us ds:List am} {ps:List fw} (nd:ps.Nodup) (hl:us.length<=ps.length) (j6:ps.length<=us.length+ds.length) (OX:ds.length<=1) (Mh:ds.length<=ps.length) :
  wpAny M A (forIn ((ps.drop (ps.length-ds.length)).zip ds) (ps.zip us) f) (fun S s'=>s'=s/\(ps.filterMap fun n=>(S.lookup n).map (n,·))=ps.zip (us++ds.drop (ds.length-(ps.length-us.length)))) E s:=by
 rcases ds with _|⟨d,_|⟨_,_⟩⟩
 ·rw[adU,acU];exact ae ⟨rfl,vo nd (Yq hl j6)⟩
 ·rcases abr ps with rfl|⟨ini,last,rfl⟩
  ·exact absurd Mh (Nat.not_succ_le_zero 0)
  ·rw[abv]at nd hl j6 ⊢;have el:(ini++[last]).length=ini.length+1:=bv;rw[el]at hl j6;rw[show(ini++[last]).length - [d].length=ini.length from by rw[el];rfl,aeO,YK,List.zip_nil_left,aaq];by_cases hu:us.length=ini.length+1
   ·rw[h0 _ _ _ (by rw[Option.isNone_eq_false_iff];exact nh (by rw[hu,Zm (Yh el)];exact aq _ aW))];exact aa (ae (ae ⟨rfl,vo nd (hu.trans el.symm)⟩))
   ·have pb:us.length=ini.length:=Yq (ZB (ad8 hl hu)) (adv j6);have hz:(ini++[last]).zip us=ini.zip us:=by
     rw[<- bP us,aeD pb.symm,adU,bP,bP]
    rw[hz,h1 _ _ _ (GQ fun m=>(List.nodup_append.mp nd).2.2 last m last aW rfl)];refine aa (ae (ae ⟨rfl,?_⟩));rw[show ini.zip us++[(last,d)]=(ini++[last]).zip (us++[d])from by rw[aeD pb.symm];rfl,iB nd (by rw[bv,bv,pb];rfl),el,pb,YT];rfl
 ·exact absurd OX (by simp)
theorem DY{ps:List fw}(h:ps.length-k<=us.length):afA (fun n=>(adB n (ps.zip us)).isNone) (agt (ps.length-k) ps)=[]:=by
 refine List.filter_eq_nil_iff.mpr fun n hn=>?_;rw[<- acO h,<- List.take_take]at hn;rw[Option.isNone_eq_false_iff.mpr (nh (us:=us) (List.mem_of_mem_take hn))];exact jG
theorem rj{ps:List fw}(h0:fd.params.args.map (·.arg)=ps)(h1:fd.params.posonlyargs=[])(h2:fd.params.kwonlyargs=[])(h3:fd.params.vararg=none)(h4:fd.params.kwarg=none)(nd:ps.Nodup)
  (hl:us.length<=ps.length) (j6:ps.length<=us.length+ds.length) (OX:ds.length<=1) (Mh:ds.length<=ps.length)
  (hd:∀ (M:Model) (A:bY) (E:am->aO->Prop) (Q:Option (Array am)->aO->Prop),(∀ r,(r.getD #[]).toList=ds->Q r s)->wpAny M A (Za fd.defaults) Q E s) :
  adp s fd ⟨us,[]⟩ (ps.zip (us++ds.drop (ds.length-(ps.length-us.length)))):=by
 intro M A E Q hq;obtain⟨f1,f2,⟨a1,a2,a3,a4,a5,a6,a7⟩,f4,f5,f6,f7,f8⟩:=fd;dsimp only at h0 h1 h2 h3 h4;subst h0 h1 h2 h3 h4;unfold bindArgs;refine aa (ae (aa (hd _ _ _ _ fun r hr=>?_)));generalize hp:a2.map (·.arg)=ps at *;have e0:ds.drop (ds.length-ps.length)=ds:=by rw[abC Mh];rfl
 rw[hr];refine OW (c:=(decide (us.length>ps.length)&&Option.isNone (none:Option Arg))=true) (by rw[decide_eq_false (Nat.not_lt.mpr hl)];exact jG) ?_;refine OW (c:=(!(afA (fun n=>(adB n (ps.zip us)).isNone) (agt (ps.length-(ds.drop (ds.length-ps.length)).length) ps)).isEmpty)=true) (by rw[e0,DY (by exact QR ‹_›)];exact jG) ?_;refine aa (Yj (Q:=fun S s'=>s'=s/\(ps.filterMap fun n=>(S.lookup n).map (n,·))=ps.zip (us++ds.drop (ds.length-(ps.length-us.length)))) ?_ (fun S s' h=>?_) fun _ _ x=>x)
 ·show wpAny M A (forIn ((List.drop (ps.length-(ds.drop (ds.length-ps.length)).length) ps).zip (ds.drop (ds.length-ps.length))) (ps.zip us) _) _ E s;rw[e0];exact JI (fun n d S h=>by dsimp only;rw[h];rfl) (fun n d S h=>by dsimp only;rw[h];rfl) nd hl j6 OX Mh
 ·obtain⟨rfl,hS⟩:=h;refine aa (ae ?_);refine OW (by simp) (ae ?_);show Q (List.filterMap (fun n=>(adB n S).map (n,·)) (ps++[])) s';rw[bP,hS];exact hq
noncomputable def cX(F:aG):aG:=fun vs O=>if V.cleans vs=true then(F vs []).bind fun a=>(ah (ot 0 a.2 a.1)).bind fun v=>if v.clean=true then .ok (v,O)else .stuck else .stuck
theorem FnOk.ref{F':aG}(hF:FnOk B k fu F)(h:∀ vs O,F' vs O= .stuck\/F' vs O=F vs O):FnOk B k fu F':=by
 intro A envs P μ O s vs us Q E gA hh iY on I RR H;rcases h vs O with e|e
 ·rw[e]at H;exact H.elim
 ·exact hF gA hh iY on I RR (by rw[<- e];exact H)
theorem JJ(hF:FnOk B k fu F):FnOk B k fu (cX F):=by
 intro A envs P μ O s vs us Q E gA hh iY on I RR H;replace H:Aft B envs P μ [] s.heap (if V.cleans vs=true then(F vs []).bind fun a=>(ah (ot 0 a.2 a.1)).bind fun v=>if v.clean=true then R.ok (v,O)else .stuck else .stuck) (KV B P Q) E:=H;obtain⟨hc,H⟩:=Aft.ite H;generalize(ey vs hc (RR.sub fun a m=>.inl (swap_mem.mp m)):Reps B s.heap [] ([]++(P++μ)) vs us)=R1;refine hF gA hh iY on (xI I) R1 ?_;cases hr:F vs []with
 | stuck=>rw[hr]at H;exact H.elim
 | ok b =>
  rw[hr]at H;obtain⟨w,hw,H⟩:=Aft.opt (show Aft B envs P μ [] s.heap ((ah (ot 0 b.2 b.1)).bind fun v=>if v.clean=true then R.ok (v,O)else .stuck) (KV B P Q) E from H);obtain⟨Wh,H⟩:=Aft.ite H;intro ν s' f I' g' u hu;generalize(po I I'.stays I'.gens I'.os I'.frs g'.dm fun a o h _=>g'.kp a o h nofun fun m=>nomatch m:Inv B envs P μ O s')=I3;generalize(xN (μ:=[]) I' hw hu)=pb;have:=H [] s' nofun (by rw[bP];exact I3) ⟨fun a o e _ _=>g'.kp a o e nofun nofun,g'.dm⟩ u
  rw[bP]at this;exact this (pj w Wh (pb.sub fun a m=>.inl (swap_mem.mpr m)))
 | exc row =>
  rw[hr]at H;intro e s' X;refine H e s' (X.via (fun a o h _ _=>⟨h,nofun,nofun⟩) (fun a o h=>⟨o,h⟩) (fun e he=>?_) fun a m=>X.base a (bo _ m));obtain⟨a,L,b,c,r⟩:=X.frs e he;obtain⟨L',h1,h2⟩:=I.frIn e he;rw[h1]at b;cases b
  exact⟨a,_,h1,h2,r⟩
noncomputable def gV(x:fw):Option V:=match globsL.lookup x with
 | some v=>some v
 | none=>if x=S "int" then some (.typ "int")else if x=S "bool" then some (.typ "bool")else if x=S "str" then some (.typ "str")else if x=S "tuple" then some (.typ "tuple")else none
noncomputable def tD(x:aab×List lI×gK)(d:List V):Fn:=⟨x.1.args.map (·.arg),d,x.2.1,x.2.2⟩
noncomputable abbrev fG(m:String):=tJ (S m) pV.main.body
noncomputable def aZ(m:String):Fn:=tD (fG m) []
noncomputable def Bw(m:String)(d:List V):Fn:=tD (cg (S "Settings") (S m)) d
noncomputable def Bx:bJ:=⟨gV,[],[]⟩
noncomputable def hG:aG:=cX (bh Bx 60 (aZ "is_whole"))
noncomputable def DZ:bJ:=⟨gV,[],[]⟩
noncomputable def ni:aG:=cX (bh DZ 60 (aZ "is_name"))
noncomputable def lh:bJ:=⟨gV,[],[]⟩
noncomputable def hH:aG:=cX (bh lh 60 (aZ "is_plain_text"))
noncomputable def jo:bJ:=⟨gV,[],[]⟩
noncomputable def iC:aG:=cX (bh jo 60 (aZ "is_ascending"))
noncomputable def hM:bJ:=⟨gV,[],[]⟩
noncomputable def jp:aG:=cX (bh hM 60 (aZ "read_quoted"))
noncomputable def zk:bJ:=⟨gV,[],[]⟩
noncomputable def dL:aG:=cX (bh zk 60 (aZ "number_of"))
noncomputable def sJ:bJ:=⟨gV,[],[]⟩
noncomputable def jw:aG:=bh sJ 60 (aZ "_law_pool")
noncomputable def By:bJ:=⟨gV,[],[]⟩
noncomputable def aM:aG:=bh By 60 (aZ "_law_take")
noncomputable def pq:bJ:=⟨gV,[],[]⟩
noncomputable def bS:aG:=cX (bh pq 60 (aZ "read_block_head"))
noncomputable def wK:bJ:=⟨gV,[(S "is_name",ni),(S "is_whole",hG)],[]⟩
noncomputable def jQ:aG:=cX (bh wK 60 (aZ "fits_index"))
noncomputable def qB:bJ:=⟨gV,[(S "is_whole",hG),(S "is_name",ni),(S "is_plain_text",hH),(S "is_ascending",iC)],[]⟩
noncomputable def dk:aG:=cX (bh qB 60 (aZ "fits_kind"))
noncomputable def wL:bJ:=⟨gV,[(S "is_whole",hG)],[]⟩
noncomputable def nj:aG:=cX (bh wL 60 (aZ "part_order"))
noncomputable def kh:bJ:=⟨gV,[(S "read_quoted",jp)],[]⟩
noncomputable def br:aG:=cX (bh kh 60 (aZ "words_of"))
noncomputable def gf:bJ:=⟨gV,[(S "number_of",dL)],[]⟩
noncomputable def jR:aG:=cX (bh gf 60 (aZ "numbers_of"))
noncomputable def D0:bJ:=⟨gV,[(S "number_of",dL)],[]⟩
noncomputable def sK:aG:=cX (bh D0 60 (aZ "part_of"))
noncomputable def D3:bJ:=⟨gV,[(S "_law_take",aM)],[]⟩
noncomputable def aw:aG:=bh D3 60 (aZ "_law_one")
noncomputable def wM:bJ:=⟨gV,[(S "fits_index",jQ)],[]⟩
noncomputable def jS:aG:=cX (bh wM 60 (aZ "fits_shape"))
noncomputable def Bz:bJ:=⟨gV,[(S "number_of",dL),(S "numbers_of",jR)],[]⟩
noncomputable def c9:aG:=cX (bh Bz 60 (aZ "worth_of"))
noncomputable def D4:bJ:=⟨gV,[(S "part_of",sK),(S "fits_index",jQ)],[]⟩
noncomputable def iZ:aG:=cX (bh D4 60 (aZ "path_of"))
noncomputable def cm:bJ:=⟨gV,[(S "_law_take",aM),(S "_law_one",aw)],[]⟩
noncomputable def jq:aG:=t8 (bh cm 60 (aZ "_law_numbers"))
noncomputable def dM:bJ:=⟨gV,[(S "_law_one",aw),(S "_law_take",aM)],[]⟩
noncomputable def jT:aG:=t8 (bh dM 60 (aZ "_law_quoted"))
noncomputable def wN:bJ:=⟨gV,[(S "_law_one",aw)],[]⟩
noncomputable def cP:aG:=bh wN 60 (aZ "_law_number")
noncomputable def BA:bJ:=⟨gV,[(S "_law_one",aw)],[]⟩
noncomputable def dD:aG:=bh BA 60 (aZ "_law_word")
noncomputable def sL:bJ:=⟨gV,[(S "_law_one",aw)],[]⟩
noncomputable def jx:aG:=bh sL 60 (aZ "_law_line")
noncomputable def zl:bJ:=⟨gV,[(S "_law_one",aw)],[]⟩
noncomputable def kC:aG:=bh zl 60 (aZ "_law_fault")
noncomputable def tE:bJ:=⟨gV,[(S "fits_shape",jS)],[]⟩
noncomputable def cF:aG:=cX (bh tE 60 (aZ "kind_of_path"))
noncomputable def wO:bJ:=⟨gV,[(S "fits_shape",jS),(S "part_order",nj)],[]⟩
noncomputable def bN:aG:=cX (bh wO 60 (aZ "path_order"))
noncomputable def zm:bJ:=⟨gV,[(S "_law_take",aM),(S "_law_one",aw),(S "_law_word",dD),(S "_law_number",cP)],[]⟩
noncomputable def cK:aG:=bh zm 60 (aZ "_law_alone")
noncomputable def wP:bJ:=⟨gV,[(S "_law_take",aM),(S "_law_one",aw),(S "_law_number",cP),(S "_law_numbers",jq),(S "_law_quoted",jT),(S "_law_word",dD)],[]⟩
noncomputable def bD:aG:=bh wP 60 (aZ "_law_within")
noncomputable def zn:aG:=bh ⟨gV,[],[]⟩ 60 (Bw "get" [.none])
noncomputable def T_put:bJ:=⟨gV,[(S "fits_kind",dk),(S "kind_of_path",cF)],[]⟩
noncomputable def vp:aG:=bh T_put 60 (Bw "put" [])
noncomputable def T_paths:bJ:=⟨gV,[(S "path_order",bN)],[]⟩
noncomputable def qC:aG:=yW (zg T_paths 60) (Bw "paths" [])
noncomputable def T_told:bJ:=⟨gV,[],[(S "paths",qC)]⟩
noncomputable def zo:aG:=bh T_told 60 (Bw "told" [])
noncomputable def de:bJ:=⟨gV,[(S "_law_take",aM),(S "_law_alone",cK),(S "_law_within",bD),(S "_law_one",aw),(S "_law_line",jx)],[]⟩
noncomputable def iK:aG:=t8 (bh de 60 (aZ "_law_built"))
noncomputable def BB:bJ:=⟨gV,[(S "path_of",iZ),(S "kind_of_path",cF),(S "worth_of",c9),(S "fits_kind",dk)],[(S "get",zn),(S "put",vp)]⟩
noncomputable def fH:aG:=bh BB 60 (aZ "read_row")
noncomputable def fJ:bJ:=⟨gV,[(S "Settings",g9),(S "words_of",br),(S "read_block_head",bS),(S "read_row",fH)],[]⟩
noncomputable def bH:aG:=bh fJ 60 (aZ "read_settings")
noncomputable def T_row:bJ:=⟨gV,[(S "read_settings",bH)],[]⟩
noncomputable def az:aG:=oG (fun ρ O=>rowE T_row 60 (aZ "_law_faulty_row").scope (aZ "_law_faulty_row").body O ρ) (aZ "_law_faulty_row")
noncomputable def T_law:bJ:=⟨gV,[(S "read_settings",bH),(S "_law_pool",jw),(S "_law_built",iK),(S "_law_one",aw),(S "_law_fault",kC)],[(S "told",zo)]⟩
noncomputable def tU:aG:=oG (kg (ex T_law 60 (aZ "law").scope) (lf T_law 60 az (S "_law_faulty_row") (aZ "law").scope) (aZ "law").body) (aZ "law")
section
set_option tactic.hygienic true
noncomputable def bB(w:aaZ)(s₁:aO)(mg mb:fw->Option am):bw:=⟨pV,w,s₁.heap,mg,mb,s₁.os,326,59,62⟩
theorem BC{h:ir}{m:fw->Option am}(st:h.StaysIn h')(i:h.isNs a=true)(n:h'.Ns a m):m=h.nsMap a :=
 n.eq_nsMap.trans ((adW i).keeps st).eq_nsMap.symm
section
variable{ig s₁:aO}{mg mb:fw->Option am}
theorem GR(w:aaZ):kAddrs=(kW w).map (·.1):=by rfl
theorem jU{h:ir}(Y:dJ w h):∃ h₀:ir,h₀.StaysIn h/\(kW w).In h₀/\(∀ x∈codesL,h₀.CodeRec (.ref x.1) x.2)/\(∀ x∈globsL,CF h₀ x=true)/\h₀.isNs Yi=true/\(∀ x∈clsL,h₀.nsMap Yi x.1=some (.ref x.2))/\CG h₀=true:=by
 obtain⟨s,st,e⟩:=Y;unfold EV w9 at e;generalize((Ym e)).1=e1;generalize((Ym e)).2=e2;simp only[gT,ZF]at e2;obtain⟨⟨⟨⟨e2,e3⟩,e4⟩,e5⟩,e6⟩:=e2;refine⟨s.heap,st,Frag.in_of (GR w) e1,fun x m=>HQ (e2 x m),e3,e4,fun x m=>?_,e6⟩;have:=e5 x m;unfold M9 at this;split at this
 ·rename_i a ha;rw[ha,of_decide_eq_true this]
 ·cases this
theorem JK(Y:dJ w s₁.heap)(hg:s₁.heap.Ns Yi mg)(h:globsL.lookup x=some v):∃ u,mg x=some u/\Rep (bB w s₁ mg mb) s₁.heap [] [] v u:=by
 refine ab fun _ gG=>?_;obtain⟨h₀,st,_,_,e3,e4,_⟩:=jU Y;refine gG ?_;clear gG
 have:=e3 (x,v) (bZ h);unfold CF at this;rw[<- BC st e4 hg]at this;dsimp only at this;split at this
 ·rename_i u hu;refine⟨u,hu,Rep.move (h:=h₀) (μ:=[]) (X:=[]) v (FF (B:=bB w s₁ mg mb) rfl rfl v u this) (fun a o e _=>st a o e) (fun _ _ e=>e) (fun _ m=>.inl m)⟩
 ·cases this
theorem nU(Y:dJ w s₁.heap)(hg:s₁.heap.Ns Yi mg)(h:(x,a)∈clsL):mg x=some (.ref a):=by
 refine ab fun _ gG=>?_;obtain⟨h₀,st,_,_,_,e4,e5,_⟩:=jU Y;refine gG ?_;clear gG
 rw[BC st e4 hg];exact e5 _ h
theorem JL(Y:dJ w s₁.heap):∃ m,s₁.heap.Ns ads m/\m (S "thirdparty.any")=none:=by
 refine ab fun _ gG=>?_;obtain⟨h₀,st,_,_,_,_,_,e⟩:=jU Y;refine gG ?_;clear gG
 unfold CG at e;refine ab fun _ gG=>?_;generalize((bM e)).1=a;generalize((bM e)).2=b;refine gG ?_;clear gG
 exact⟨_,(adW a).keeps st,Option.isNone_iff_eq_none.mp b⟩
theorem eE(Y:dJ w s₁.heap):(kW w).In s₁.heap:=by
 obtain⟨h₀,st,k,_⟩:=jU Y;exact k.keeps st
theorem BD(Y:dJ w s₁.heap){x:bQ×fw}(m:x∈codesL):s₁.heap.CodeRec (.ref x.1) x.2:=by
 refine ab fun _ gG=>?_;obtain⟨h₀,st,_,c,_⟩:=jU Y;refine gG ?_;clear gG
 exact(c x m).keeps st
end
end
section
variable{ig s₁:aO}{mg mb:fw->Option am}{R:aez}{XP:(fw->Option am)->ir->Prop}
noncomputable def JM(x:fw):Bool:=!(startupNames.contains x||(looseW qv ci).contains x||((recsOf qv).map (·.name)).contains x||((litsOf qv).map (·.1)).contains x||((clssOf qv (looseW qv ci)).map (·.name)).contains x)
theorem gg(G:abm qv ci R XP w ig mg mb s₁.heap)(h:JM x=true):mg x=none:=by
 unfold JM at h;simp only[ZA,adC]at h;obtain⟨⟨⟨⟨h1,h2⟩,h3⟩,h4⟩,h5⟩:=h;have nm:∀ {l:List fw},l.contains x=false->x∉l:=fun{l} e m=>by rw[List.contains_iff_mem.mpr m]at e;cases e
 exact G.T.free x (nm h1) (nm h2) (nm h3) (nm h4) (nm h5)
theorem iL(G:abm qv ci R XP w ig mg mb s₁.heap){v:am}(hn:decide (x=("__name__" : fw))=false)(h:bootBuiltins x=some v):mb x=some v :=
 (G.T.builtins x (of_decide_eq_false hn)).trans h
theorem b0(G:abm qv ci R XP w ig mg mb s₁.heap)(Y:dJ w s₁.heap):aP (bB w s₁ mg mb) where
 hg:=G.T.g
 hb:=G.T.b
 nolim:=G.T.nolimit
 sysm:=⟨_,_,_,_,eE Y 1 _ rfl,rfl,aW,nofun⟩
 rng:=⟨gg G (by rfl'),iL G (by rfl') (by rfl')⟩
 enm:=⟨gg G (by rfl'),iL G (by rfl') (by rfl')⟩
 zp:=⟨gg G (by rfl'),iL G (by rfl') (by rfl')⟩
noncomputable def zq(w:aaZ):Array abF:=#[⟨hashStr w (S "<vlan>"),.str (S "<vlan>") 269,.ref 63⟩,⟨hashStr w (S "<port>"),.str (S "<port>") 272,.ref 64⟩,⟨hashStr w (S "<row>"),.str (S "<row>") 275,.ref 65⟩,⟨hashStr w (S "<queue>"),.str (S "<queue>") 278,.ref 66⟩,⟨hashStr w (S "<mirror>"),.str (S "<mirror>") 281,.ref 67⟩]
theorem GS:KeysOf (PySem.strKind pV w) (zq w):=fun e m=>by
 unfold zq at m;simp only[List.mem_toArray,j3,eP,or_false]at m;rcases m with rfl|rfl|rfl|rfl|rfl
 ·exact⟨S "<vlan>",by rfl',rfl⟩
 ·exact⟨S "<port>",by rfl',rfl⟩
 ·exact⟨S "<row>",by rfl',rfl⟩
 ·exact⟨S "<queue>",by rfl',rfl⟩
 ·exact⟨S "<mirror>",by rfl',rfl⟩
theorem JN(Y:dJ w s₁.heap):IV (bB w s₁ mg mb):=by
 generalize(eE Y)=K;refine⟨fun k=>findBy abQ (zq w) k,⟨_,zq w,_,K 62 _ rfl,⟨rfl,rfl,rfl⟩,rfl,GS,fun _=>rfl⟩,fun l b h=>?_⟩;generalize(bZ h)=m;unfold bounds at m;simp only[j3,eP,or_false]at m;rcases m with e|e|e|e|e<;>(obtain⟨rfl,rfl⟩:=Ym e)
 ·exact⟨63,_,_,by rfl',_,_,K 63 _ rfl,rfl,rfl,rfl⟩
 ·exact⟨64,_,_,by rfl',_,_,K 64 _ rfl,rfl,rfl,rfl⟩
 ·exact⟨65,_,_,by rfl',_,_,K 65 _ rfl,rfl,rfl,rfl⟩
 ·exact⟨66,_,_,by rfl',_,_,K 66 _ rfl,rfl,rfl,rfl⟩
 ·exact⟨67,_,_,by rfl',_,_,K 67 _ rfl,rfl,rfl,rfl⟩
theorem i5(G:abm qv ci R XP w ig mg mb s₁.heap)(Y:dJ w s₁.heap):jj (bB w s₁ mg mb) where
 bin:=Ls
 neg:=Lu
 cmp:=LM (b0 G Y)
 item:=IW (JN Y)
 slice:=Gg
 funs:=LD Jn
 meth:=I7 (b0 G Y)
end
section
set_option backward.match.sparseCases true
noncomputable def fdOf(x:aab×List lI×gK)(name HL:fw)(df pm cd:am):Zf :=
 { name,qualname:=HL,params:=x.1,body:=.stmts x.2.1,scope:=x.2.2,globals:=3,closure:=[],defaults:=df,kwdefaults:=.none,pyModule:=pm,code:=cd,builtins:=0 }
noncomputable def fdE:Zf:=fdOf (cg (S "SettingError") (S "__init__")) (S "__init__") (S "SettingError.__init__") (.ref 49) (.str (S "switchloom.errors") 194) (.ref 55)
noncomputable def fdS:Zf:=fdOf (cg (S "SwitchError") (S "__init__")) (S "__init__") (S "SwitchError.__init__") (.none) (.str (S "switchloom.errors") 194) (.ref 34)
noncomputable def fdI:Zf:=fdOf (cg (S "Settings") (S "__init__")) (S "__init__") (S "Settings.__init__") (.none) (.str (S "switchloom.settings") 252) (.ref 274)
section
variable{ig s₁:aO}{mg mb:fw->Option am}{R:aez}{XP:(fw->Option am)->ir->Prop}
theorem GU{h:ir}{o:Obj}{es:Array abF}(ho:h.get? a=some o)(hd:o.data= .dict es n)(hk:es.all (fun e=>match e.key with | .str _ _=>true|_=>false)=true):h.isNs a=true:=by
 unfold Heap.isNs;rw[ho];dsimp only;rw[hd];exact hk
theorem D5{A:ir}{C:bQ}(hs:∃ m,A.Ns ads m/\m (S "thirdparty.any")=none):aeC (cr prog w) A (opaqueClassAbove (.ref C)) none:=by
 obtain⟨m,hn,he⟩:=hs;have L:aeC (cr prog w) A (nsGet ads (S "thirdparty.any")) none:=fun _ Q E s k q=>wpAny_nsGet (hn.keeps k) (by rw[he];exact q)
 exact Looks.andThen (a:=false) (L.andThen .now) (by show aeC _ A (if(!false)=true then pure none else _) none;rw[if_pos (show(!false)=true from rfl)];exact .now)
theorem zr{x:aab×List lI×gK}{nm q:fw}{df pm:am}{ca f:bQ}(Y:dJ w s₁.heap)(hf:(kW w).lookup f=some ⟨.type "function",none,.func (fdOf x nm q df pm (.ref ca)),#[]⟩)(hc:(ca,q)∈codesL)(hb:x.2.1=body)
  (h1:(x.2.2.names.all fun y=>decide (y.2≠.cell))=true) (h2:x.2.2.kind= .function) (h3:x.2.2.isGenerator=false) (h4:x.2.2.isCoroutine=false):za (bB w s₁ mg mb) f (fdOf x nm q df pm (.ref ca)) body where
 obj:=⟨_,eE Y f _ hf,rfl,rfl⟩
 body:=by rw[<- hb];rfl
 code:=BD Y hc
 cells:=fun y m=>of_decide_eq_true (yg h1 y m)
 kind:=h2
 gen:=h3
 co:=h4
 glob:=rfl
 blt:=rfl
 kept:=u9 (B:=bB w s₁ mg mb) (eE Y f _ hf) rfl
theorem JO{x:aab×List lI×gK}{nm q:fw}{pm cd:am}{ps:List fw}(h0:x.1.args.map (·.arg)=ps)(h1:x.1.posonlyargs=[])(h2:x.1.kwonlyargs=[])(h3:x.1.vararg=none)(h4:x.1.kwarg=none)(nd:ps.Nodup)(hl:us.length=ps.length):adp s (fdOf x nm q .none pm cd) ⟨us,[]⟩ (ps.zip us):=by
 have:=rj (s:=s) (fd:=fdOf x nm q .none pm cd) (us:=us) (ds:=[]) h0 h1 h2 h3 h4 nd (by exact PC ‹_›) (by simp;exact UF ‹_›) (by simp) (by simp) (fun M A E Q k=>by
  unfold Za;exact aa (by unfold aew;exact ae (ae (k _ rfl))))
 simpa using this
theorem zt(G:abm qv ci R XP w ig mg mb s₁.heap)(Y:dJ w s₁.heap):jl (bB w s₁ mg mb) (kW w) 38 58 37 56 35 fdE fdS (s₁.heap.nsMap 58) (s₁.heap.nsMap 58) { name:=(S "SettingError"),bases:=[.ref 38],mro:=[.ref 59,.ref 38,.type "Exception",.type "BaseException",.type "object"],ns:=58,qualname:=(S "SettingError"),subclasses:=[] } where
 kin:=eE Y
 clsE:=⟨⟨_,_,_,_,_,_,_,_,_,_,_,_⟩,eE Y 59 _ rfl⟩
 nsE:=.of_isNs (GU (eE Y 58 _ rfl) rfl (by rfl'))
 iniE:=by
  unfold Heap.nsMap;rw[eE Y 58 _ rfl];rfl'
 kE:=by rfl'
 mroE:=rfl
 dctE:=rfl
 setE:=by rfl'
 msgE:=by rfl'
 rowE:=by rfl'
 iniS:=fun{A s pl Q E} st q=>by
  generalize((eE Y).keeps st:(kW w).In s.heap)=X;refine method_cls X (by rfl') ?_;refine cls_open (mc:=.type "type") (hook:=none) (r:=.val (.ref 35)) X (D5 (let⟨m,a,b⟩:=JL Y;⟨m,a.keeps st,b⟩)) (looks_typeIn X (by rfl')) (by rfl') (looks_hook X (by rfl')) (by rfl') (by rfl') ?_;refine ae ?_;show wpAny _ _ (handedOut (.ref 35)) _ _ _;exact handed_on (by rfl') (q _)
 swg:=nU Y G.T.g (by simp[clsL])
 exg:=gg G (by rfl')
 exb:=iL G (by rfl') (by rfl')
 defE:=⟨_,_,_,_,_,_,_,_,_,_,zr (x:=cg (S "SettingError") (S "__init__")) Y rfl (by simp[codesL]) (by rfl) (by rfl') (by rfl') (by rfl') (by rfl'),by rfl,fun env=>by rfl⟩
 defS:=⟨_,_,_,_,_,_,_,_,_,_,zr (x:=cg (S "SwitchError") (S "__init__")) Y rfl (by simp[codesL]) (by rfl) (by rfl') (by rfl') (by rfl') (by rfl'),by rfl,fun env=>by rfl⟩
 namE:=⟨by rfl',by rfl',by rfl',by rfl'⟩
 namS:=⟨by rfl',by rfl',by rfl'⟩
 bindE:=fun s a b c st=>by
  have:=rj (s:=s) (fd:=fdE) (us:=[a,b,c]) (ds:=[.int 0 237]) (ps:=[cD,dw,eu]) (by rfl') (by rfl') (by rfl') (by rfl') (by rfl') (by decide +kernel) (by simp) (by simp) (by simp) (by simp) (fun M A E Q k=>by
   show wpAny M A (Za (.ref 49)) Q E s;unfold Za;exact aa (abJ (st _ _ (eE Y 49 _ rfl)) (ae (k _ rfl))))
  exact this
 bindS:=fun s a b st=>JO (ps:=[cD,dw]) (us:=[a,b]) (by rfl') (by rfl') (by rfl') (by rfl') (by rfl') (by decide +kernel) rfl
theorem vq(Y:dJ w s₁.heap):qA (bB w s₁ mg mb) (kW w) { name:=(S "Settings"),bases:=[.type "object"],mro:=[.ref 326,.type "object"],ns:=325,qualname:=(S "Settings"),subclasses:=[] } 275 fdI where
 kin:=eE Y
 makes:=by rfl'
 kS:=by rfl'
 over:=by rfl'
 dct:=rfl
 ini:=by rfl'
 fnI:=by rfl'
 setS:=by rfl'
 takR:=by rfl'
 gaS:=by rfl'
 gaN:=by rfl'
 rowN:=by rfl'
 defI:=⟨_,_,_,_,zr (x:=cg (S "Settings") (S "__init__")) Y rfl (by simp[codesL]) (by rfl) (by rfl') (by rfl') (by rfl') (by rfl'),fun env=>by rfl⟩
 namI:=by rfl'
 bindI:=fun s a st=>JO (ps:=[cD]) (us:=[a]) (by rfl') (by rfl') (by rfl') (by rfl') (by rfl') (by decide +kernel) rfl
theorem qD(G:abm qv ci R XP w ig mg mb s₁.heap)(Y:dJ w s₁.heap):uN (bB w s₁ mg mb) where
 set:=LP
 ext:=LO
 rse:=Gx (b0 G Y) (zt G Y)
 err:=nU Y G.T.g (a:=59) (by simp[clsL])
 errk:=Gy (zt G Y)
end
end
theorem FnOk.up(h:FnOk B k fu F)(hk:k<=m):FnOk B m fu F:=by
 intro A envs P μ O s vs us Q E h1 h2 h3 h4 I RR H;exact h h1 h2 (by exact Si ‹_› ‹_›) (by exact Sj ‹_› ‹_›) I RR H
noncomputable def BE(F:Fn):Bool:=decide (F.scope.kind= .function)&&decide (F.scope.isGenerator=false)&&decide (F.scope.isCoroutine=false)&&decide (F.scope.names.map (·.1)).Nodup&&decide F.params.Nodup &&
 (F.params.all fun x=>F.scope.names.contains (x,.local)||F.scope.names.contains (x,.cell))&&F.scope.names.all fun x=>!(x.1==ac "__classdict__")
noncomputable def BF(x:aab):Bool:=x.posonlyargs.isEmpty&&x.kwonlyargs.isEmpty&&x.vararg.isNone&&x.kwarg.isNone
section
variable{ig s₁:aO}{mg mb:fw->Option am}{R:aez}{XP:(fw->Option am)->ir->Prop}
theorem JP{x:aab×List lI×gK}{d:List V}(ho:∃ o,B.H.get? a=some o/\o.data= .func fd)(hp:fd.params=x.1)(hb:fd.body= .stmts x.2.1)(hs:fd.scope=x.2.2)(hc:fd.closure=[])(hg:fd.globals=Yi)(hbl:fd.builtins=aau)
  (TJ:B.H.CodeRec fd.code fd.qualname) (hn:BE (tD x d)=true) (ha:BF x.1=true) (OY:ds.length<=1) (Do:ds.length<=(tD x d).params.length) (OZ:d.length=ds.length) (hR:Reps B B.H [] [] d ds)
  (hd:∀ (s:aO) (M:Model) (A:bY) (E:am->aO->Prop) (Q:Option (Array am)->aO->Prop),B.H.StaysIn s.heap->(∀ r,(r.getD #[]).toList=ds->Q r s)->wpAny M A (Za fd.defaults) Q E s):FnAt B a fd (tD x d):=by
 unfold BE at hn;simp only[gT,decide_eq_true_eq,ZF,acH,List.contains_iff_mem,ZA]at hn;refine ab fun _ gG=>?_;obtain⟨⟨⟨⟨⟨⟨n1,n2⟩,n3⟩,n4⟩,n5⟩,n6⟩,n7⟩:=hn;refine gG ?_;clear gG
 unfold BF at ha;simp only[gT,List.isEmpty_iff,Option.isNone_iff_eq_none]at ha;refine ab fun _ gG=>?_;obtain⟨⟨⟨a1,a2⟩,a3⟩,a4⟩:=ha;refine gG ?_;clear gG
 refine⟨ho,hs,hb,hc,hg,hbl,TJ,n1,n2,n3,n4,n5,n6,fun y m e=>(by rw[n7 y m]at e;cases e),fun s us st h1 h2=>⟨ds.drop (ds.length-((tD x d).params.length-us.length)),?_,?_⟩⟩
 ·refine rj (ps:=(tD x d).params) (by rw[hp];rfl) (by rw[hp];exact a1) (by rw[hp];exact a2) (by rw[hp];exact a3) (by rw[hp];exact a4) n5 h1 ?_ OY Do fun M A E Q k=>hd s M A E Q st k
  have:(tD x d).dflts.length=d.length:=rfl;exact Ss ‹_› ‹_› ‹_›
 ·have e:(tD x d).dflts=d:=rfl;rw[e,OZ];exact Reps.drop' _ hR
theorem zu(G:abm qv ci R XP w ig mg mb s₁.heap){m:String}(h:((recsOf qv).find? fun e=>e.name==S m).map (fun d=>(d.name,d.params,d.body,d.scope))=some (S m,fG m))(hn:BE (aZ m)=true)(ha:BF (fG m).1=true) :
  ∃ a fd,mg (S m)=some (.ref a)/\FnAt (bB w s₁ mg mb) a fd (aZ m)/\Kept (bB w s₁ mg mb) (.ref a):=by
 refine ab fun _ gG=>?_;obtain⟨d,hf,e⟩:=Option.map_eq_some_iff.mp h;refine gG ?_;clear gG
 refine ab fun _ gG=>?_;generalize((Ym e)).1=e1;generalize((Ym e)).2=e;refine gG ?_;clear gG
 refine ab fun _ gG=>?_;obtain⟨a,o,pm,cd,doc,h1,h2,h3,h4⟩:=G.T.fn d (List.mem_of_find?_eq_some hf);refine gG ?_;clear gG
 refine ab fun _ gG=>?_;generalize((Ym (show(d.params,(d.body,d.scope))=((fG m).1,(fG m).2)from e))).1=e2;generalize((Ym (show(d.params,(d.body,d.scope))=((fG m).1,(fG m).2)from e))).2=e;refine gG ?_;clear gG
 refine ab fun _ gG=>?_;generalize((Ym (show(d.body,d.scope)=((fG m).2.1,(fG m).2.2)from e))).1=e3;generalize((Ym (show(d.body,d.scope)=((fG m).2.1,(fG m).2.2)from e))).2=e4;refine gG ?_;clear gG
 refine⟨a,_,e1▸h1,JP (B:=bB w s₁ mg mb) (d:=[]) (ds:=[]) ⟨o,h2,h3⟩ e2 (by rw[<- e3];rfl) e4 rfl rfl rfl h4 hn ha (by simp) (by simp) rfl z0 fun s M A E Q st k=>?_,u9 (B:=bB w s₁ mg mb) h2 h3⟩;show wpAny M A (Za .none) Q E s;unfold Za;exact aa (by unfold aew;exact ae (ae (k _ rfl)))
noncomputable def Good(B:bw)(k:Nat)(x:fw×aG):Prop:=∃ a,B.mg x.1=some (.ref a)/\Kept B (.ref a)/\FnOk B k (.ref a) x.2
noncomputable def MGood(B:bw)(k:Nat)(x:fw×aG):Prop:=∃ f,Kept B (.ref f)/\FnOk B k (.ref f) x.2 /\
  ∀ {A:bY} {s:aO} {a d r:bQ} {hh:Int} {t:BY} {pl:Xm Bool} {Q:am×List am->aO->Prop} {E:am->aO->Prop},B.H.StaysIn s.heap->s.heap.get? a=some (Y2 B.cS d) ->
   s.heap.get? d=some (YM [⟨hh,.str (ac "rows") t,.ref r⟩] 1)->Q (.ref f,[.ref a]) s->wpAny (cr B.prog B.w) A (aaW (.ref a) x.1 pl) Q E s
theorem Good.up{x:fw×aG}(h:Good B k x)(hk:k<=m):Good B m x:=let⟨a,h1,h2,h3⟩:=h;⟨a,h1,h2,h3.up hk⟩
theorem MGood.up{x:fw×aG}(h:MGood B k x)(hk:k<=m):MGood B m x:=let⟨a,h1,h2,h3⟩:=h;⟨a,h1,h2.up hk,h3⟩
theorem JQ(G:abm qv ci R XP w ig mg mb s₁.heap)(Y:dJ w s₁.heap):∀ x v,gV x=some v->(∃ u,mg x=some u/\Rep (bB w s₁ mg mb) s₁.heap [] [] v u)\/(∃ t,v= .typ t/\mg x=none/\mb x=some (.type t)):=fun x v h=>by
 unfold gV at h;split at h
 ·cases h;exact .inl (JK Y G.T.g ‹_›)
 ·right
  split at h
  ·rename_i e;cases h;subst e;exact⟨_,rfl,gg G (by rfl'),iL G (by rfl') (by rfl')⟩
  ·split at h
   ·rename_i e;cases h;subst e;exact⟨_,rfl,gg G (by rfl'),iL G (by rfl') (by rfl')⟩
   ·split at h
    ·rename_i e;cases h;subst e;exact⟨_,rfl,gg G (by rfl'),iL G (by rfl') (by rfl')⟩
    ·split at h
     ·rename_i e;cases h;subst e;exact⟨_,rfl,gg G (by rfl'),iL G (by rfl') (by rfl')⟩
     ·cases h
theorem zv(h:eS g=true):g=S "len"\/g=S "isinstance"\/g=S "int"\/g=S "str"\/g=S "tuple"\/g=S "list"\/g=S "dict":=by
 unfold eS at h;simp only[acH,beq_iff_eq]at h;rcases h with(((((h|h)|h)|h)|h)|h)|h<;>simp[h]
theorem l6(G:abm qv ci R XP w ig mg mb s₁.heap)(Y:dJ w s₁.heap){fns ms:List (fw×aG)}(hf:∀ x∈fns,Good (bB w s₁ mg mb) k x)(hm:∀ x∈ms,MGood (bB w s₁ mg mb) k x)(hs:(fns.lookup (ac "super")).isNone=true):dn (bB w s₁ mg mb) k ⟨gV,fns,ms⟩ where
 glob:=JQ G Y
 fns:=fun f F h=>hf (f,F) (bZ h)
 blt:=fun g h _=>by
  rcases zv h with rfl|rfl|rfl|rfl|rfl|rfl|rfl<;>exact⟨_,rfl,gg G (by rfl'),iL G (by rfl') (by rfl')⟩
 meths:=fun m F h=>hm (m,F) (bZ h)
 nosup:=Option.isNone_iff_eq_none.mp hs
 rows:=fun{A s a d r hh t Q E} st h1 h2 q=>Jr (vq (s₁:=s₁) (mg:=mg) (mb:=mb) Y) st h1 h2 q
theorem bu(G:abm qv ci R XP w ig mg mb s₁.heap)(Y:dJ w s₁.heap){m:String}{fns ms:List (fw×aG)}(h:((recsOf qv).find? fun e=>e.name==S m).map (fun d=>(d.name,d.params,d.body,d.scope))=some (S m,fG m))(hn:BE (aZ m)=true)(ha:BF (fG m).1=true)
  (hf:∀ x∈fns,Good (bB w s₁ mg mb) k x) (hm:∀ x∈ms,MGood (bB w s₁ mg mb) k x) (hs:(fns.lookup (ac "super")).isNone=true):Good (bB w s₁ mg mb) (k+1) (S m,bh ⟨gV,fns,ms⟩ 60 (aZ m)):=by
 refine ab fun _ gG=>?_;obtain⟨a,fd,h1,h2,h3⟩:=zu G h hn ha;refine gG ?_;clear gG
 generalize(l6 G Y hf hm hs)=T;exact⟨a,h1,h3,yY (b0 G Y) h2 (k8 (b0 G Y) T (i5 G Y) (qD G Y) 60)⟩
theorem du(h:Good B k (x,F)):Good B k (x,cX F):=let⟨a,h1,h2,h3⟩:=h;⟨a,h1,h2,JJ h3⟩
theorem zw(h:Good B k (x,F)):Good B k (x,t8 F):=let⟨a,h1,h2,h3⟩:=h;⟨a,h1,h2,Mg h3⟩
theorem tV(G:abm qv ci R XP w ig mg mb s₁.heap)(Y:dJ w s₁.heap){m:fw}{d:List V}{f ca:bQ}{df:am}(hF:∀ {a fd},FnAt (bB w s₁ mg mb) a fd (tD (cg (S "Settings") m) d)->FnOk (bB w s₁ mg mb) k (.ref a) F)
  (hk:(kW w).lookup f=some ⟨.type "function",none,.func (fdOf (cg (S "Settings") m) m (S "Settings."++m) df (.str (S "switchloom.settings") 252) (.ref ca)),#[]⟩) (hc:(ca,S "Settings."++m)∈codesL) (hn:BE (tD (cg (S "Settings") m) d)=true) (ha:BF (cg (S "Settings") m).1=true)
  (OY:ds.length<=1) (Do:ds.length<=(tD (cg (S "Settings") m) d).params.length) (OZ:d.length=ds.length) (hR:Reps (bB w s₁ mg mb) s₁.heap [] [] d ds)
  (hd:∀ (s:aO) (M:Model) (A:bY) (E:am->aO->Prop) (Q:Option (Array am)->aO->Prop),s₁.heap.StaysIn s.heap->(∀ r,(r.getD #[]).toList=ds->Q r s)->wpAny M A (Za df) Q E s)
  (Wi:Zi (kW w) (.ref 326) m=some (some (.ref f))) (ht:typeIn (kW w) (.ref f)=some (.type "function")) (hne:g8≠m):MGood (bB w s₁ mg mb) k (m,F) :=
 ⟨f,u9 (B:=bB w s₁ mg mb) (eE Y f _ hk) rfl,hF (JP (B:=bB w s₁ mg mb) ⟨_,eE Y f _ hk,rfl⟩ rfl rfl rfl rfl rfl rfl (BD Y hc) hn ha OY Do OZ hR hd),fun{A s a d r hh t pl Q E} st h1 h2 q=>Js (vq (s₁:=s₁) (mg:=mg) (mb:=mb) Y) Wi ht hne st h1 h2 q⟩
theorem JR{A:bY}{Q:Option (Array am)->aO->Prop}(k:∀ r:Option (Array am),(r.getD #[]).toList=[]->Q r s):wpAny M A (Za .none) Q E s:=by
 unfold Za;exact aa (by unfold aew;exact ae (ae (k _ rfl)))
variable(G:abm qv ci R XP w ig mg mb s₁.heap)(Y:dJ w s₁.heap)
include G Y
theorem nk:Good (bB w s₁ mg mb) 1 (S "is_whole",hG):=du (bu G Y (m:="is_whole") (k:=0) (by rfl') (by rfl') (by rfl') nofun nofun (by rfl'))
theorem vr:Good (bB w s₁ mg mb) 1 (S "is_name",ni):=du (bu G Y (m:="is_name") (k:=0) (by rfl') (by rfl') (by rfl') nofun nofun (by rfl'))
theorem rn:Good (bB w s₁ mg mb) 1 (S "is_plain_text",hH):=du (bu G Y (m:="is_plain_text") (k:=0) (by rfl') (by rfl') (by rfl') nofun nofun (by rfl'))
theorem tF:Good (bB w s₁ mg mb) 1 (S "is_ascending",iC):=du (bu G Y (m:="is_ascending") (k:=0) (by rfl') (by rfl') (by rfl') nofun nofun (by rfl'))
theorem vt:Good (bB w s₁ mg mb) 1 (S "read_quoted",jp):=du (bu G Y (m:="read_quoted") (k:=0) (by rfl') (by rfl') (by rfl') nofun nofun (by rfl'))
theorem l7:Good (bB w s₁ mg mb) 1 (S "number_of",dL):=du (bu G Y (m:="number_of") (k:=0) (by rfl') (by rfl') (by rfl') nofun nofun (by rfl'))
theorem BG:Good (bB w s₁ mg mb) 1 (S "_law_pool",jw):=bu G Y (m:="_law_pool") (k:=0) (by rfl') (by rfl') (by rfl') nofun nofun (by rfl')
theorem gM:Good (bB w s₁ mg mb) 1 (S "_law_take",aM):=bu G Y (m:="_law_take") (k:=0) (by rfl') (by rfl') (by rfl') nofun nofun (by rfl')
theorem pt:Good (bB w s₁ mg mb) 1 (S "read_block_head",bS):=du (bu G Y (m:="read_block_head") (k:=0) (by rfl') (by rfl') (by rfl') nofun nofun (by rfl'))
theorem oM:Good (bB w s₁ mg mb) 2 (S "fits_index",jQ):=du (bu G Y (m:="fits_index") (k:=1) (by rfl') (by rfl') (by rfl') (be ⟨((vr G Y).up (by decide)),be ⟨((nk G Y).up (by decide)),nofun⟩⟩) nofun (by rfl'))
theorem qE:Good (bB w s₁ mg mb) 2 (S "fits_kind",dk):=du (bu G Y (m:="fits_kind") (k:=1) (by rfl') (by rfl') (by rfl') (be ⟨((nk G Y).up (by decide)),be ⟨((vr G Y).up (by decide)),be ⟨((rn G Y).up (by decide)),be ⟨((tF G Y).up (by decide)),nofun⟩⟩⟩⟩) nofun (by rfl'))
theorem wQ:Good (bB w s₁ mg mb) 2 (S "part_order",nj):=du (bu G Y (m:="part_order") (k:=1) (by rfl') (by rfl') (by rfl') (be ⟨((nk G Y).up (by decide)),nofun⟩) nofun (by rfl'))
theorem BH:Good (bB w s₁ mg mb) 2 (S "words_of",br):=du (bu G Y (m:="words_of") (k:=1) (by rfl') (by rfl') (by rfl') (be ⟨((vt G Y).up (by decide)),nofun⟩) nofun (by rfl'))
theorem wR:Good (bB w s₁ mg mb) 2 (S "numbers_of",jR):=du (bu G Y (m:="numbers_of") (k:=1) (by rfl') (by rfl') (by rfl') (be ⟨((l7 G Y).up (by decide)),nofun⟩) nofun (by rfl'))
theorem D6:Good (bB w s₁ mg mb) 2 (S "part_of",sK):=du (bu G Y (m:="part_of") (k:=1) (by rfl') (by rfl') (by rfl') (be ⟨((l7 G Y).up (by decide)),nofun⟩) nofun (by rfl'))
theorem dN:Good (bB w s₁ mg mb) 2 (S "_law_one",aw):=bu G Y (m:="_law_one") (k:=1) (by rfl') (by rfl') (by rfl') (be ⟨((gM G Y).up (by decide)),nofun⟩) nofun (by rfl')
theorem oN:Good (bB w s₁ mg mb) 3 (S "fits_shape",jS):=du (bu G Y (m:="fits_shape") (k:=2) (by rfl') (by rfl') (by rfl') (be ⟨((oM G Y).up (by decide)),nofun⟩) nofun (by rfl'))
theorem BI:Good (bB w s₁ mg mb) 3 (S "worth_of",c9):=du (bu G Y (m:="worth_of") (k:=2) (by rfl') (by rfl') (by rfl') (be ⟨((l7 G Y).up (by decide)),be ⟨((wR G Y).up (by decide)),nofun⟩⟩) nofun (by rfl'))
theorem D7:Good (bB w s₁ mg mb) 3 (S "path_of",iZ):=du (bu G Y (m:="path_of") (k:=2) (by rfl') (by rfl') (by rfl') (be ⟨((D6 G Y).up (by decide)),be ⟨((oM G Y).up (by decide)),nofun⟩⟩) nofun (by rfl'))
theorem vu:Good (bB w s₁ mg mb) 3 (S "_law_numbers",jq):=zw (bu G Y (m:="_law_numbers") (k:=2) (by rfl') (by rfl') (by rfl') (be ⟨((gM G Y).up (by decide)),be ⟨((dN G Y).up (by decide)),nofun⟩⟩) nofun (by rfl'))
theorem wS:Good (bB w s₁ mg mb) 3 (S "_law_quoted",jT):=zw (bu G Y (m:="_law_quoted") (k:=2) (by rfl') (by rfl') (by rfl') (be ⟨((dN G Y).up (by decide)),be ⟨((gM G Y).up (by decide)),nofun⟩⟩) nofun (by rfl'))
theorem oO:Good (bB w s₁ mg mb) 3 (S "_law_number",cP):=bu G Y (m:="_law_number") (k:=2) (by rfl') (by rfl') (by rfl') (be ⟨((dN G Y).up (by decide)),nofun⟩) nofun (by rfl')
theorem sM:Good (bB w s₁ mg mb) 3 (S "_law_word",dD):=bu G Y (m:="_law_word") (k:=2) (by rfl') (by rfl') (by rfl') (be ⟨((dN G Y).up (by decide)),nofun⟩) nofun (by rfl')
theorem BJ:Good (bB w s₁ mg mb) 3 (S "_law_line",jx):=bu G Y (m:="_law_line") (k:=2) (by rfl') (by rfl') (by rfl') (be ⟨((dN G Y).up (by decide)),nofun⟩) nofun (by rfl')
theorem zx:Good (bB w s₁ mg mb) 3 (S "_law_fault",kC):=bu G Y (m:="_law_fault") (k:=2) (by rfl') (by rfl') (by rfl') (be ⟨((dN G Y).up (by decide)),nofun⟩) nofun (by rfl')
theorem mq:Good (bB w s₁ mg mb) 4 (S "kind_of_path",cF):=du (bu G Y (m:="kind_of_path") (k:=3) (by rfl') (by rfl') (by rfl') (be ⟨((oN G Y).up (by decide)),nofun⟩) nofun (by rfl'))
theorem wT:Good (bB w s₁ mg mb) 4 (S "path_order",bN):=du (bu G Y (m:="path_order") (k:=3) (by rfl') (by rfl') (by rfl') (be ⟨((oN G Y).up (by decide)),be ⟨((wQ G Y).up (by decide)),nofun⟩⟩) nofun (by rfl'))
theorem zy:Good (bB w s₁ mg mb) 4 (S "_law_alone",cK):=bu G Y (m:="_law_alone") (k:=3) (by rfl') (by rfl') (by rfl') (be ⟨((gM G Y).up (by decide)),be ⟨((dN G Y).up (by decide)),be ⟨((sM G Y).up (by decide)),be ⟨((oO G Y).up (by decide)),nofun⟩⟩⟩⟩) nofun (by rfl')
theorem wU:Good (bB w s₁ mg mb) 4 (S "_law_within",bD):=bu G Y (m:="_law_within") (k:=3) (by rfl') (by rfl') (by rfl') (be ⟨((gM G Y).up (by decide)),be ⟨((dN G Y).up (by decide)),be ⟨((oO G Y).up (by decide)),be ⟨((vu G Y).up (by decide)),be ⟨((wS G Y).up (by decide)),be ⟨((sM G Y).up (by decide)),nofun⟩⟩⟩⟩⟩⟩) nofun (by rfl')
theorem BK(k:Nat):Good (bB w s₁ mg mb) k (S "Settings",g9) :=
 ⟨326,nU Y G.T.g (by simp[clsL]),GA (B:=bB w s₁ mg mb) (eE Y 326 _ rfl),zb (b0 G Y) (vq (s₁:=s₁) (mg:=mg) (mb:=mb) Y) k⟩
theorem Mi:MGood (bB w s₁ mg mb) 1 (S "get",zn) :=
 tV G Y (k:=1) (m:=S "get") (d:=[.none]) (ds:=[.none]) (f:=290) (ca:=289) (df:=(.ref 283)) (fun fa=>yY (b0 G Y) fa (k8 (b0 G Y) (l6 G Y (k:=0) (fns:=[]) (ms:=[]) nofun nofun (by rfl')) (i5 G Y) (qD G Y) 60)) (by rfl') (by decide +kernel) (by rfl') (by rfl') (by simp) (by decide +kernel) rfl (z1 zN) (fun s M A E Q st k=>by unfold Za;exact aa (abJ (st _ _ (eE Y 283 _ rfl)) (ae (k _ rfl)))) (by rfl') (by rfl') (by decide +kernel)
theorem Mj:MGood (bB w s₁ mg mb) 5 (S "put",vp) :=
 tV G Y (k:=5) (m:=S "put") (d:=[]) (ds:=[]) (f:=282) (ca:=281) (df:=.none) (fun fa=>yY (b0 G Y) fa (k8 (b0 G Y) (l6 G Y (k:=4) (fns:=T_put.fns) (ms:=[]) (be ⟨((qE G Y).up (by decide)),be ⟨((mq G Y).up (by decide)),nofun⟩⟩) nofun (by rfl')) (i5 G Y) (qD G Y) 60)) (by rfl') (by decide +kernel) (by rfl') (by rfl') (by simp) (by decide +kernel) rfl z0 (fun s M A E Q st k=>JR k) (by rfl') (by rfl') (by decide +kernel)
theorem GV:MGood (bB w s₁ mg mb) 6 (S "paths",qC) :=
 tV G Y (k:=6) (m:=S "paths") (d:=[]) (ds:=[]) (f:=304) (ca:=303) (df:=.none) (fun fa=>L7 (b0 G Y) fa (by rfl) (DR (b0 G Y) (l6 G Y (k:=4) (fns:=T_paths.fns) (ms:=[]) (be ⟨((wT G Y).up (by decide)),nofun⟩) nofun (by rfl')) (i5 G Y) (gg G (by rfl')) (iL G (by rfl') (by rfl')))) (by rfl') (by decide +kernel) (by rfl') (by rfl') (by simp) (by decide +kernel) rfl z0 (fun s M A E Q st k=>JR k) (by rfl') (by rfl') (by decide +kernel)
theorem JS:MGood (bB w s₁ mg mb) 7 (S "told",zo) :=
 tV G Y (k:=7) (m:=S "told") (d:=[]) (ds:=[]) (f:=323) (ca:=322) (df:=.none) (fun fa=>yY (b0 G Y) fa (k8 (b0 G Y) (l6 G Y (k:=6) (fns:=[]) (ms:=T_told.meths) nofun (be ⟨((GV G Y).up (by decide)),nofun⟩) (by rfl')) (i5 G Y) (qD G Y) 60)) (by rfl') (by decide +kernel) (by rfl') (by rfl') (by simp) (by decide +kernel) rfl z0 (fun s M A E Q st k=>JR k) (by rfl') (by rfl') (by decide +kernel)
theorem zA:Good (bB w s₁ mg mb) 5 (S "_law_built",iK):=zw (bu G Y (m:="_law_built") (k:=4) (by rfl') (by rfl') (by rfl') (be ⟨((gM G Y).up (by decide)),be ⟨((zy G Y).up (by decide)),be ⟨((wU G Y).up (by decide)),be ⟨((dN G Y).up (by decide)),be ⟨((BJ G Y).up (by decide)),nofun⟩⟩⟩⟩⟩) nofun (by rfl'))
theorem BL:Good (bB w s₁ mg mb) 6 (S "read_row",fH):=bu G Y (m:="read_row") (k:=5) (by rfl') (by rfl') (by rfl') (be ⟨((D7 G Y).up (by decide)),be ⟨((mq G Y).up (by decide)),be ⟨((BI G Y).up (by decide)),be ⟨((qE G Y).up (by decide)),nofun⟩⟩⟩⟩) (be ⟨((Mi G Y).up (by decide)),be ⟨((Mj G Y).up (by decide)),nofun⟩⟩) (by rfl')
theorem li:Good (bB w s₁ mg mb) 7 (S "read_settings",bH):=bu G Y (m:="read_settings") (k:=6) (by rfl') (by rfl') (by rfl') (be ⟨(BK G Y 6),be ⟨((BH G Y).up (by decide)),be ⟨((pt G Y).up (by decide)),be ⟨((BL G Y).up (by decide)),nofun⟩⟩⟩⟩) nofun (by rfl')
theorem D8:∃ a,mg (S "law")=some (.ref a)/\mX (bB w s₁ mg mb) dz (fun _ _ _=>True) 9 (.ref a) tU:=by
 refine ab fun _ gG=>?_;obtain⟨a,fd,h1,h2,h3⟩:=zu G (m:="law") (by rfl') (by rfl') (by rfl');refine gG ?_;clear gG
 refine ab fun _ gG=>?_;obtain⟨fa,XH,q1,q2,q3⟩:=zu G (m:="_law_faulty_row") (by rfl') (by rfl') (by rfl');refine gG ?_;clear gG
 generalize(l6 G Y (k:=7) (fns:=T_row.fns) (ms:=[]) (be ⟨((li G Y).up (by decide)),nofun⟩) nofun (by rfl'))=TR;generalize(Md (n:=60) (b0 G Y) q2 TR (i5 G Y) (nU Y G.T.g (a:=59) (by simp[clsL])) (zt G Y) (by rfl') (by rfl') (by rfl):mX (bB w s₁ mg mb) dz fk 8 (.ref fa) az)=FO;generalize(l6 G Y (k:=8) (fns:=T_law.fns) (ms:=T_law.meths) (be ⟨((li G Y).up (by decide)),be ⟨((BG G Y).up (by decide)),be ⟨((zA G Y).up (by decide)),be ⟨((dN G Y).up (by decide)),be ⟨((zx G Y).up (by decide)),nofun⟩⟩⟩⟩⟩) (be ⟨((JS G Y).up (by decide)),nofun⟩) (by rfl'))=TL;exact⟨a,h1,Mf (n:=60) (b0 G Y) h2 TL (i5 G Y) (k8 (b0 G Y) TL (i5 G Y) (qD G Y) 60) q1 q3 @FO (by rfl)⟩
end
section
variable{Rc:aez}
theorem fb{b:Bool}{P:Prop}(e:b=false)(h:b=true):P:=j4 (e.symm.trans h)
theorem has_int{x:WData}(h:ady Rc x .int=true):∃ i,x= .int i:=by
 cases x with
 | int i=>exact⟨i,rfl⟩
 | _=>exact fb rfl h
theorem has_list{x:WData}(h:ady Rc x (.list .int)=true):∃ xs,x= .list xs/\ad5 Rc xs .int=true:=by
 cases x with
 | list xs=>exact⟨xs,rfl,(ae5 _).symm.trans h⟩
 | _=>exact fb rfl h
theorem ints_of{xs:List WData} : ad5 Rc xs .int=true->∃ ns:List Int,xs=ns.map WData.int:=by
 induction xs with
 | nil=>exact fun _=>⟨[],rfl⟩
 | cons x xs ih =>
  intro h;obtain⟨h1,h2⟩:=(abI (x:=ady Rc x .int)).mp h;obtain⟨ns,e⟩:=ih h2;obtain⟨i,e'⟩:=has_int h1;exact⟨i::ns,by rw[e,e'];rfl⟩
theorem GW{h:ir}{cl:fw->Option bQ} : ∀ {vs:List am} {as:List bQ},ReadsAllW Rc cl h vs (ns.map WData.int) as->Reps B h μ X (ns.map V.int) vs:=by
 induction ns with
 | nil=>exact fun r=>(afd r).1
 | cons n ns ih =>
  intro vs as r;obtain⟨v,vs,_,_,rfl,_,r1,r2⟩:=aeX r;obtain⟨t,rfl,_⟩:=readsW_int_inv r1;exact⟨_,_,rfl,⟨_,rfl⟩,ih r2⟩
theorem GX{h:ir}{cl:fw->Option bQ}{vs:List am}{as:List bQ}(r:ReadsAllW Rc cl h vs [acN (ns.map WData.int)] as):Reps B h [] [] [.lst (ns.map .int)] vs:=by
 obtain⟨v,vs,_,_,rfl,_,r1,r2⟩:=aeX r;obtain rfl:=(afd r2).1;obtain⟨l,o,ti,n,_,rfl,h1,h2,h3,h4,_⟩:=readsW_list_open r1;exact⟨_,_,rfl,⟨l,ti,rfl,eP,⟨o,h1,h2,n,h3⟩,GW h4⟩,rfl⟩
end
theorem Mk(hc:agy [] (.and (.not (.lt (.lit (.int 63)) (.len (.arg 0)))) (.lit (.bool true))) { args:=[acN (ns.map .int)] }=true):ns.length<=63:=by
 by_cases h:(63:Int)<ns.length
 ·have e:PySem.W.less? (WData.int 63) (WData.int ns.length)=some true:=congrArg some (decide_eq_true h);simp[agy,WTm.value,e]at hc
 ·exact P7 ‹_›
theorem JT{args:List WData}(h:aey [] args [.list .int]=true):∃ ns:List Int,args=[acN (ns.map WData.int)]:=by
 obtain⟨d,r,rfl,Wj,Wk⟩:=hasAllW_cons h;obtain rfl:=hasAllW_nil Wk;obtain⟨xs,rfl,hit⟩:=has_list Wj;obtain⟨ns,rfl⟩:=ints_of hit;exact⟨ns,rfl⟩
theorem O0(plain:∀ ns:List Int,ns.length<=63->∃ ar,tU [.lst (ns.map .int)] []= .ok (.bool true,ar)):rwV.Holds:=by
 refine FH ?_;intro w ig s₁ mg mb G Y a o pm cd doc dV kV ho hd TJ hD Wl hg args rS as qr Xg hrd XI hlo;obtain⟨a',h1,FO⟩:=D8 G Y;have ea:a'=a:=by
  have:mg (S "law")=some (.ref a):=Wl;rw[this]at h1;exact(Value.ref.inj (si h1)).symm
 subst ea;generalize((pre_splitW qr)).1=Wm;generalize((pre_splitW qr)).2=hc;obtain⟨ns,rfl⟩:=JT (show aey [] args [.list .int]=true from Wm);obtain⟨ar,hp⟩:=plain ns (Mk hc);generalize(⟨fun _ _ e=>e,hg,rfl,fun _ m=>(nomatch m),fun _ m=>(nomatch m),Z2,fun _ m=>(nomatch m),rfl,fun _ _ _ e=>(nomatch e),fun _ m=>(nomatch m)⟩:Inv (bB w s₁ mg mb) [] [] [] [] s₁)=I;refine FO (A:=callerA) (envs:=[]) (P:=[]) (μ:=[]) (O:=[]) (vs:=[.lst (ns.map .int)]) rfl rfl (by decide) (by decide) I (GX hrd) ?_;rw[hp];intro ν s' f I' g' _ u hu;cases show u= .bool true from hu
 have gw:GoodW rwV.row.toRowW.claim (classAt ig.heap) (ExcName.means ig.heap) [acN (ns.map WData.int)] s₁ (.ok (.ret (.bool true))) s' :=
  ⟨.inl ⟨_,.bool true,[],rfl,fun _=>rfl,.bool true,postW_of (r:=rwV.row.toRowW) (X:=true) (by rfl') (by rfl') rfl,fun _=>⟨Z2,fun _ m=>(nomatch m)⟩⟩,fun b o e=>g'.kp b o e nofun nofun,I'.os,I'.gens⟩
 exact gw.toG
noncomputable def p0:YZ:=⟨0,0,0,0⟩
noncomputable def eN:Expr:=.Constant .none 0 p0
noncomputable def kD(b:List lI)(i:Nat):lI:=match b[i]? with|some s=>s|none=>.Pass p0
noncomputable def GY(b:List Expr)(i:Nat):Expr:=match b[i]? with|some s=>s|none=>eN
noncomputable def sV:lI->Expr×Expr×List lI×List lI
 | .If t b c _=>(t,eN,b,c)
 | .For t _ b _ _=>(eN,t,b,[])
 | .While t b _ _=>(t,eN,b,[])
 | .Return (some e) _=>(e,eN,[],[])
 | .Assign _ e _=>(e,eN,[],[])
 | .Expr e _=>(e,eN,[],[])
 | _=>(eN,eN,[],[])
noncomputable def kF(s:lI):Expr:=(sV s).1
noncomputable def vv(s:lI):Expr:=(sV s).1
noncomputable def vw(s:lI):Expr:=(sV s).2.1
noncomputable def fR(s:lI):List lI:=(sV s).2.2.1
noncomputable def D9(s:lI):List lI:=(sV s).2.2.2
noncomputable def eV:Expr->Expr×Expr×List Expr×Expr×List aaA×gK
 | .BinOp l _ r _=>(l,r,[],eN,[],⟨.function,[],false,false,[]⟩)
 | .Compare l _ rs _=>(l,eN,rs,eN,[],⟨.function,[],false,false,[]⟩)
 | .UnaryOp _ x _=>(x,eN,[],eN,[],⟨.function,[],false,false,[]⟩)
 | .Subscript o i _=>(o,i,[],eN,[],⟨.function,[],false,false,[]⟩)
 | .Attribute o _ _=>(o,eN,[],eN,[],⟨.function,[],false,false,[]⟩)
 | .Call f as _ _=>(f,eN,as,eN,[],⟨.function,[],false,false,[]⟩)
 | .IfExp t a _ _=>(t,a,[],eN,[],⟨.function,[],false,false,[]⟩)
 | .BoolOp _ es _=>(eN,eN,es,eN,[],⟨.function,[],false,false,[]⟩)
 | .Tuple es _ _=>(eN,eN,es,eN,[],⟨.function,[],false,false,[]⟩)
 | .List es _=>(eN,eN,es,eN,[],⟨.function,[],false,false,[]⟩)
 | .ListComp e gs s _=>(eN,eN,[],e,gs,s)
 | _=>(eN,eN,[],eN,[],⟨.function,[],false,false,[]⟩)
noncomputable def eL(e:Expr):Expr:=(eV e).1
noncomputable def eR(e:Expr):Expr:=(eV e).2.1
noncomputable def ro(e:Expr):List Expr:=(eV e).2.2.1
noncomputable def JU(e:Expr):Expr:=(eV e).2.2.2.1
noncomputable def Nt(e:Expr):aaA:=(eV e).2.2.2.2.1.headD ⟨eN,eN,[],0⟩
noncomputable def xP(e:Expr):Expr:=(Nt e).target
noncomputable def xQ(e:Expr):List Expr:=(Nt e).ifs
noncomputable def rz(e:Expr):gK:=(eV e).2.2.2.2.2
noncomputable def Ea(f:lI->af->U->b7)(r:List lI)(a:(Fl×af)×U):b7:=match a.1.1 with
 | .next=>ay f r a.1.2 a.2
 | _=>.ok a
noncomputable def mu(a:(Fl×af)×U):R (V×U):=match a.1.1 with
 | .ret v=>.ok (v,a.2)
 | .next=>.ok (.none,a.2)
 | _=>.stuck
noncomputable def Nu(t:Bool)(x y:R (V×U)):R (V×U):=match BoolOp.And,t with
 | .And,true=>x
 | .Or,false=>x
 | _,_=>y
noncomputable def TK(t:Bool)(x y:R (V×U)):R (V×U):=match BoolOp.Or,t with
 | .And,true=>x
 | .Or,false=>x
 | _,_=>y
theorem Uf(x y:R (V×U)):Nu true x y=x:=rfl
theorem Ug(x y:R (V×U)):Nu false x y=y:=rfl
theorem Wn(x y:R (V×U)):TK true x y=y:=rfl
theorem Wo(x y:R (V×U)):TK false x y=x:=rfl
theorem Wp(x:R α)(f:α->R β)(g:β->R γ):(x.bind f).bind g=x.bind fun a=>(f a).bind g:=by cases x<;>rfl
theorem no(a:α)(f:α->R β):(R.ok a).bind f=f a:=rfl
theorem Wq(r:Int)(f:α->R β):(R.exc r:R α).bind f= .exc r:=rfl
theorem JV(a:α):ah (some a)= .ok a:=rfl
theorem Pz(f:lI->af->U->b7)(r:List lI)(ρ:af)(O:U):Ea f r ((.next,ρ),O)=ay f r ρ O:=rfl
theorem TM(f:lI->af->U->b7)(r:List lI)(v:V)(ρ:af)(O:U):Ea f r ((.ret v,ρ),O)= .ok ((.ret v,ρ),O):=rfl
theorem PA(f:lI->af->U->b7)(r:List lI)(ρ:af)(O:U):Ea f r ((.cont,ρ),O)= .ok ((.cont,ρ),O):=rfl
theorem PB(v:V)(ρ:af)(O:U):mu ((.ret v,ρ),O)= .ok (v,O):=rfl
theorem O1(ρ:af)(O:U):mu ((.next,ρ),O)= .ok (.none,O):=rfl
theorem Uh(v:V)(O:U):tst (.ok (v,O))=(ah v.truth).bind fun b=>.ok (b,O):=rfl
theorem Nv(b:Bool):V.truth (.bool b)=some b:=rfl
section
set_option genInjectivity false
inductive It where
 | t (b:Bool)
 | b (b:Bool)
 | v (x:V)
 | k (O:U)
 | c (v:V) (O:U)
 | x (row:Int)
 | l (vs:List V) (O:U)
 | s (fl:Fl) (ρ:af) (O:U)
noncomputable abbrev W(α:Type):=List It->(α->List It->Prop)->(Int->Prop)->Prop
noncomputable def Is{α:Type}(x:R α)(K:α->Prop)(X:Int->Prop):Prop:=match x with
 | .ok a=>K a
 | .exc row=>X row
 | .stuck=>False
noncomputable def Snd{α:Type}(w:W α)(x:R α):Prop:=∀ s K X,w s K X->Is x (fun a=>∃ s',K a s') X
@[irreducible] noncomputable def W.pure{α:Type}(a:α):W α:=fun s K _=>K a s
@[irreducible] noncomputable def W.stuck{α:Type} : W α:=fun _ _ _=>False
@[irreducible] noncomputable def W.raise{α:Type}(row:Int):W α:=fun _ _ X=>X row
@[irreducible] noncomputable def W.bind{α β:Type}(w:W α)(f:α->W β):W β:=fun s K X=>w s (fun a s'=>f a s' K X) X
@[irreducible] noncomputable def W.opt{α:Type}(x:Option α):W α:=fun s K _=>match x with
 | some a=>K a s
 | none=>False
@[irreducible] noncomputable def W.ask{α:Type}(g:It->Option α)(x:R α):W α:=fun s K X=>match s with
 | []=>False
 | i::s'=>match i with
  | .x row=>x= .exc row/\X row
  | i=>match g i with
   | some a=>x= .ok a/\K a s'
   | none=>False
@[irreducible] noncomputable def W.askO{α:Type}(g:It->Option α)(x:Option α):W α:=fun s K _=>match s with
 | []=>False
 | i::s'=>match g i with
  | some a=>x=some a/\K a s'
  | none=>False
@[irreducible] noncomputable def W.tst{α:Type}(b:Bool)(w1 w2:W α):W α:=fun s K X=>match s with
 | .t c::s'=>b=c/\(match c with
  | true=>w1 s' K X
  | false=>w2 s' K X)
 | _=>False
theorem Snd.pure{a:α} : Snd (W.pure a) (.ok a):=fun s _ _ h=>by unfold W.pure at h;exact⟨s,h⟩
theorem Snd.stuck{x:R α} : Snd W.stuck x:=fun _ _ _ h=>by unfold W.stuck at h;exact h.elim
theorem Snd.bind{w:W α}{x:R α}{f:α->W β}{g:α->R β}(h:Snd w x)(k:∀ a,Snd (f a) (g a)):Snd (w.bind f) (x.bind g):=fun s K X e=>by
 unfold W.bind at e;have:=h s _ X e;cases x with
 | ok a=>obtain⟨s',e'⟩:=this;exact k a s' K X e'
 | exc row=>exact this
 | stuck=>exact this
theorem Snd.raise:Snd (W.raise row:W α) (.exc row):=fun _ _ _ h=>by unfold W.raise at h;exact h
theorem Snd.opt{x:Option α} : Snd (W.opt x) (ah x):=fun s K X h=>by
 unfold W.opt at h;cases x with
 | none=>exact h
 | some a=>exact⟨s,h⟩
theorem Snd.ask{g:It->Option α}{x:R α} : Snd (W.ask g x) x:=fun s K X h=>by
 unfold W.ask at h;rcases s with _|⟨i,s'⟩
 ·exact h.elim
 have key:∀ a,x= .ok a/\K a s'->Is x (fun a=>∃ s',K a s') X:=fun a h=>by rw[h.1];exact⟨s',h.2⟩
 cases i with
 | x row=>rw[h.1];exact h.2
 | _ =>
  dsimp only at h;split at h
  ·exact key _ h
  ·exact h.elim
theorem Snd.askO{g:It->Option α}{x:Option α} : Snd (W.askO g x) (ah x):=fun s K X h=>by
 unfold W.askO at h;rcases s with _|⟨i,s'⟩
 ·exact h.elim
 dsimp only at h;split at h
 ·rw[h.1];exact⟨s',h.2⟩
 ·exact h.elim
theorem Snd.tst{b:Bool}{w1 w2:W α}{x:R α}(h1:b=true->Snd w1 x)(h2:b=false->Snd w2 x):Snd (W.tst b w1 w2) x:=fun s K X h=>by
 unfold W.tst at h;rcases s with _|⟨i,s'⟩
 ·exact h.elim
 cases i with
 | t c =>
  generalize((h)).1=e;generalize((h)).2=h;cases c
  ·exact h2 e s' K X h
  ·exact h1 e s' K X h
 | _=>exact h.elim
theorem Snd.ite{c:Prop}[Decidable c]{w:W α}{x y:R α}(h:Snd w x):Snd (if c then w else W.stuck) (if c then x else y):=by
 by_cases q:c
 ·rw[if_pos q,if_pos q];exact h
 ·rw[if_neg q];exact Snd.stuck
noncomputable def Ml:It->Option Bool
 | .b b=>some b
 | _=>none
noncomputable def GZ:It->Option V
 | .v x=>some x
 | _=>none
noncomputable def O2:It->Option U
 | .k O=>some O
 | _=>none
noncomputable def O3:It->Option (V×U)
 | .c v O=>some (v,O)
 | _=>none
noncomputable def Mm:It->Option (List V×U)
 | .l vs O=>some (vs,O)
 | _=>none
noncomputable def TN:It->Option ((Fl×af)×U)
 | .s fl ρ O=>some ((fl,ρ),O)
 | _=>none
noncomputable def TP:acd->Bool
 | .Add=>true
 | .Sub=>true
 | _=>false
noncomputable def JW(a:V):Bool:=(dO a).isSome
@[irreducible] noncomputable def W.prim{α:Type}(b:Bool)(g:It->Option α)(x:Option α):W α:=bif b then W.opt x else W.askO g x
theorem Snd.prim{b:Bool}{g:It->Option α}{x:Option α} : Snd (W.prim b g x) (ah x):=by
 unfold W.prim;cases b
 ·exact Snd.askO
 ·exact Snd.opt
noncomputable def TQ:V->Bool
 | .ref _=>true
 | _=>false
noncomputable def W.chk{α:Type}(r b:Bool)(w:W α):W α:=bif r then W.tst b w W.stuck else(if b=true then w else W.stuck)
theorem Snd.chk{r b:Bool}{w:W α}{x:R α}(h:Snd w x):Snd (W.chk r b w) (if b=true then x else .stuck):=by
 cases r
 ·exact Snd.ite h
 ·exact Snd.tst (fun q=>by rw[q];exact h) fun _=>Snd.stuck
noncomputable def dG(f:Expr->U->W (V×U)):List Expr->U->W (List V×U)
 | [],O=>W.pure ([],O)
 | e::es,O=>(f e O).bind fun a=>(dG f es a.2).bind fun r=>W.pure (a.1::r.1,r.2)
noncomputable def qF(f:Expr->U->W (V×U))(op:BoolOp):List Expr->U->W (V×U)
 | [],_=>W.stuck
 | e::es,O=>match es with
  | []=>f e O
  | _::_=>(f e O).bind fun a=>(W.opt a.1.truth).bind fun t=>match op with
   | .And=>W.tst t (qF f op es a.2) (W.pure (a.1,a.2))
   | .Or=>W.tst t (W.pure (a.1,a.2)) (qF f op es a.2)
noncomputable def rA(f:Expr->U->W (V×U))(left:V):List acR->List Expr->U->W (V×U)
 | [],_,_=>W.stuck
 | op::cA,es,O=>match es with
  | []=>W.stuck
  | e::es=>match cA with
   | []=>match es with
    | []=>(f e O).bind fun a=>(W.prim (JW left) Ml (av op left a.1 a.2)).bind fun b=>W.pure (.bool b,a.2)
    | _::_=>W.stuck
   | op2::cA=>match es with
    | []=>W.stuck
    | e2::es=>(f e O).bind fun a=>(W.prim (JW left) Ml (av op left a.1 a.2)).bind fun b=>W.tst b (rA f a.1 (op2::cA) (e2::es) a.2) (W.pure (.bool false,a.2))
section
variable{f:Expr->U->W (V×U)}{g:Expr->U->R (V×U)}(h:∀ e O,Snd (f e O) (g e O))
include h
theorem gi:∀ (es:List Expr) (O:U),Snd (dG f es O) (a9 g es O):=fun es=>by
 induction es with
 | nil=>exact fun _=>Snd.pure
 | cons e es ih=>exact fun O=>Snd.bind (h e O) fun a=>Snd.bind (ih a.2) fun r=>Snd.pure
theorem JX:∀ (es:List Expr) (O:U),Snd (qF f op es O) (jt g op es O):=fun es=>by
 induction es with
 | nil=>exact fun _=>Snd.stuck
 | cons e es ih =>
  intro O;rcases es with _|⟨e2,es⟩
  ·exact h e O
  ·show Snd (W.bind (f e O) _) (R.bind (g e O) _);refine Snd.bind (h e O) fun a=>?_;show Snd (W.bind (W.opt a.1.truth) _) (R.bind (ah a.1.truth) _);refine Snd.bind Snd.opt fun t=>?_;cases op
   ·exact Snd.tst (fun q=>by subst q;exact ih a.2) fun q=>by subst q;exact Snd.pure
   ·exact Snd.tst (fun q=>by subst q;exact Snd.pure) fun q=>by subst q;exact ih a.2
theorem G0:∀ (cA:List acR) (left:V) (es:List Expr) (O:U),Snd (rA f left cA es O) (fW g left cA es O):=fun cA=>by
 induction cA with
 | nil=>exact fun _ _ _=>Snd.stuck
 | cons op cA ih =>
  intro left es O;rcases es with _|⟨e,_|⟨e2,es⟩⟩
  ·exact Snd.stuck
  ·rcases cA with _|⟨op2,cA⟩
   ·show Snd (W.bind (f e O) _) (R.bind (g e O) _);refine Snd.bind (h e O) fun a=>?_;show Snd (W.bind (W.prim (JW left) Ml (av op left a.1 a.2)) _) (R.bind (ah (av op left a.1 a.2)) _);exact Snd.bind Snd.prim fun b=>Snd.pure
   ·exact Snd.stuck
  ·rcases cA with _|⟨op2,cA⟩
   ·exact Snd.stuck
   ·show Snd (W.bind (f e O) _) (R.bind (g e O) _);refine Snd.bind (h e O) fun a=>?_;show Snd (W.bind (W.prim (JW left) Ml (av op left a.1 a.2)) _) (R.bind (ah (av op left a.1 a.2)) _);refine Snd.bind Snd.prim fun b=>Snd.tst (fun q=>?_) fun q=>?_
    ·subst q;exact ih a.1 (e2::es) a.2
    ·subst q;exact Snd.pure
end
noncomputable def qG(f:Expr->U->W (V×U))(pP:fw->Bool)(kK:Bool)(e:Expr)(O:U)(x:Option (fw×List Expr)):W (List V×U):=match x with
 | some a =>
  if a.1=ac "range"/\pP a.1=true then if bW a.2=true then(dG f a.2 O).bind fun a=>W.ask Mm (iF a.1 a.2)else W.stuck
  else if a.1=ac "enumerate"/\pP a.1=true then if(bW a.2&&kK)=true then(dG f a.2 O).bind fun a=>W.ask Mm (yj a.1 a.2)else W.stuck
  else if a.1=ac "zip"/\pP a.1=true then if(bW a.2&&kK)=true then(dG f a.2 O).bind fun a=>W.ask Mm (M5 a.1 a.2)else W.stuck
  else(f e O).bind fun a=>(W.opt (qV a.1)).bind fun l=>W.pure (l,a.2)
 | none=>(f e O).bind fun a=>(W.opt (qV a.1)).bind fun l=>W.pure (l,a.2)
theorem qH{c:Prop}[Decidable c]{w w':W α}{y y':R α}(a:Snd w y)(b:Snd w' y'):Snd (if c then w else w') (if c then y else y'):=by
 by_cases q:c
 ·rw[if_pos q,if_pos q];exact a
 ·rw[if_neg q,if_neg q];exact b
theorem vz{f:Expr->U->W (V×U)}{g:Expr->U->R (V×U)}(h:∀ e O,Snd (f e O) (g e O)){pP:fw->Bool}{kK:Bool}{e:Expr}{x:Option (fw×List Expr)} : Snd (qG f pP kK e O x) (pO g pP kK e O x):=by
 cases x with
 | none=>exact Snd.bind (h e O) fun a=>Snd.bind Snd.opt fun l=>Snd.pure
 | some a=>exact qH (Snd.ite (Snd.bind (gi h _ _) fun a=>Snd.ask)) (qH (Snd.ite (Snd.bind (gi h _ _) fun a=>Snd.ask)) (qH (Snd.ite (Snd.bind (gi h _ _) fun a=>Snd.ask)) (Snd.bind (h e O) fun a=>Snd.bind Snd.opt fun l=>Snd.pure)))
noncomputable def rB(f:Expr->U->W (V×U)):Option Expr->U->W (V×U)
 | none,O=>W.pure (.none,O)
 | some e,O=>f e O
theorem xR{f:Expr->U->W (V×U)}{g:Expr->U->R (V×U)}(h:∀ e O,Snd (f e O) (g e O))(e:Option Expr)(O:U):Snd (rB f e O) (kL g e O):=by
 cases e with
 | none=>exact Snd.pure
 | some e=>exact h e O
noncomputable def BM(T:bJ)(sc:gK)(ρ:af)(f:Expr->U->W (V×U))(args:List Expr)(pos:YZ)(O:U)(x:Option fw)(y:Option (Expr×fw×YZ)):W (V×U):=match x with
 | some g=>if(bd sc ρ g&&bW args)=true then match T.fns.lookup g with
   | some F=>(dG f args O).bind fun a=>W.ask O3 (F a.1 a.2)
   | none=>if eS g=true then(dG f args O).bind fun a=>(W.askO GZ (gI g a.1 a.2)).bind fun v=>W.pure (v,a.2)else W.stuck
   else W.stuck
 | none=>match y with
  | some x=>if(bW args&&(x.2.2.endLine==pos.line))=true then
    (f x.1 O).bind fun a=>W.chk (TQ a.1) (jD T a.1 x.2.1 a.2) ((dG f args a.2).bind fun b=>W.ask O3 (jg T x.2.1 a.1 b.1 b.2))
    else W.stuck
  | none=>W.stuck
noncomputable def eF(T:bJ):Nat->gK->Expr->af->U->W (V×U)
 | 0,_,_,_,_=>W.stuck
 | n+1,sc,e,ρ,O=>match e with
  | .Constant c _ _=>(W.opt (yi c)).bind fun v=>W.pure (v,O)
  | .Name x _=>(W.opt (tH T sc x ρ)).bind fun v=>W.pure (v,O)
  | .BoolOp op es _=>qF (fun e O=>eF T n sc e ρ O) op es O
  | .BinOp l op r _=>(eF T n sc l ρ O).bind fun a=>(eF T n sc r ρ a.2).bind fun b=>(W.prim (JW a.1&&TP op) GZ (b9 op a.1 b.1)).bind fun v=>W.pure (v,b.2)
  | .UnaryOp op x _=>(eF T n sc x ρ O).bind fun a=>(W.opt (NH op a.1)).bind fun v=>W.pure (v,a.2)
  | .IfExp t a b _=>(eF T n sc t ρ O).bind fun c=>(W.opt c.1.truth).bind fun t=>W.tst t (eF T n sc a ρ c.2) (eF T n sc b ρ c.2)
  | .Compare l cA rs _=>if aat cA rs=true then W.stuck else(eF T n sc l ρ O).bind fun a=>rA (fun e O=>eF T n sc e ρ O) a.1 cA rs a.2
  | .Tuple es _ _=>(dG (fun e O=>eF T n sc e ρ O) es O).bind fun a=>if a.1.length<=ai then W.pure (.tup a.1,a.2)else W.stuck
  | .List es _=>(dG (fun e O=>eF T n sc e ρ O) es O).bind fun a=>if a.1.length<=ai then W.pure (.lst a.1,a.2)else W.stuck
  | .Subscript o i _=>match ju i with
   | some x=>(eF T n sc o ρ O).bind fun a=>(rB (fun e O=>eF T n sc e ρ O) x.1 a.2).bind fun b =>
    (rB (fun e O=>eF T n sc e ρ O) x.2 b.2).bind fun c=>W.askO GZ ((aI b.1).bind fun i=>(aI c.1).bind fun j=>bg a.1 i j) |>.bind fun v=>W.pure (v,c.2)
   | none=>(eF T n sc o ρ O).bind fun a=>(eF T n sc i ρ a.2).bind fun b=>(W.askO GZ (bC a.1 b.1 b.2)).bind fun v=>W.pure (v,b.2)
  | .Attribute o x _=>(eF T n sc o ρ O).bind fun a=>match ahu a.1 with
   | some k=>if x=ac "rows" then W.pure (.ref k,a.2)else W.stuck
   | none=>W.stuck
  | .Call f args pN pos=>match pN with
   | []=>BM T sc ρ (fun e O=>eF T n sc e ρ O) args pos O (ik f) (HI f)
   | _::_=>W.stuck
  | .ListComp elt gens scope _=>match mG gens with
   | some x=>if(cM x.1&&lM scope)=true then(W.opt (io scope sc ρ)).bind fun fO=>(qG (fun e O=>eF T n sc e ρ O) (bd sc ρ) (eB x.1) x.2.1 O (lL x.2.1)).bind fun a =>
    (W.ask Mm (if a.1.length<=ai then dY (ev T n) (bK scope sc) elt x.1 x.2.2 fO a.1 a.2 else .stuck)).bind fun r=>W.pure (.lst r.1,r.2)
    else W.stuck
   | none=>W.stuck
  | .Dict ks vs _=>match mH ks vs with
   | some x=>(eF T n sc x.1 ρ O).bind fun a=>(eF T n sc x.2 ρ a.2).bind fun b=>(W.opt (fg a.1)).bind fun k=>W.pure (.dct [k] [b.1],b.2)
   | none=>W.stuck
  | _=>W.stuck
theorem Eb{wt:W (V×U)}{xt:R (V×U)}{w1 w2:U->W α}{x1 x2:U->R α}(h:Snd wt xt)(h1:∀ O,Snd (w1 O) (x1 O))(h2:∀ O,Snd (w2 O) (x2 O)) :
  Snd (wt.bind fun c=>(W.opt c.1.truth).bind fun t=>W.tst t (w1 c.2) (w2 c.2)) ((tst xt).bind fun c=>match c.1 with|true=>x1 c.2|false=>x2 c.2):=by
 unfold tst;rw[R.bind_assoc];refine Snd.bind h fun c=>?_;rw[R.bind_assoc];exact Snd.bind Snd.opt fun t=>Snd.tst (fun q=>by subst q;exact h1 c.2) fun q=>by subst q;exact h2 c.2
theorem sP{x:Option α}{f:α->Option β}{k:β->R γ} : (ah (x.bind f)).bind k=(ah x).bind fun i=>(ah (f i)).bind k:=by cases x<;>rfl
theorem G1{a:V}{b c:V×U} : Snd ((W.askO GZ ((aI b.1).bind fun i=>(aI c.1).bind fun j=>bg a i j)).bind fun v=>W.pure (v,c.2)) ((ah (aI b.1)).bind fun i=>(ah (aI c.1)).bind fun j=>(ah (bg a i j)).bind fun v=>R.ok (v,c.2)):=by
 rw[show((ah (aI b.1)).bind fun i=>(ah (aI c.1)).bind fun j=>(ah (bg a i j)).bind fun v=>R.ok (v,c.2))=(ah ((aI b.1).bind fun i=>(aI c.1).bind fun j=>bg a i j)).bind fun v=>R.ok (v,c.2)from by
  rw[sP];simp only[sP]]
 exact Snd.bind Snd.askO fun v=>Snd.pure
theorem O4{f:Expr->U->W (V×U)}{f':Expr->U->R (V×U)}(h:∀ e O,Snd (f e O) (f' e O)):Snd (match T.fns.lookup g with
    | some F=>(dG f args O).bind fun a=>W.ask O3 (F a.1 a.2)
    | none=>if eS g=true then(dG f args O).bind fun a=>(W.askO GZ (gI g a.1 a.2)).bind fun v=>W.pure (v,a.2)else W.stuck)
   (match T.fns.lookup g with
    | some F=>(a9 f' args O).bind fun a=>F a.1 a.2
    | none=>if eS g=true then(a9 f' args O).bind fun a=>(ah (gI g a.1 a.2)).bind fun v=>.ok (v,a.2)else .stuck):=by
 cases T.fns.lookup g with
 | some F=>exact Snd.bind (gi h _ _) fun a=>Snd.ask
 | none=>exact Snd.ite (Snd.bind (gi h _ _) fun a=>Snd.bind Snd.askO fun v=>Snd.pure)
theorem G2{sc:gK}{f:Expr->U->W (V×U)}{f':Expr->U->R (V×U)}(h:∀ e O,Snd (f e O) (f' e O)){pos:YZ}(x:Option fw)(y:Option (Expr×fw×YZ)) :
  Snd (BM T sc ρ f args pos O x y) (yk T sc ρ f' args pos O x y):=by
 rcases x with _|g
 ·rcases y with _|y
  ·exact Snd.stuck
  ·exact Snd.ite (Snd.bind (h _ _) fun a=>Snd.chk (Snd.bind (gi h _ _) fun b=>Snd.ask))
 ·exact Snd.ite (O4 h)
theorem fT:∀ (n:Nat) (sc:gK) (e:Expr) (ρ:af) (O:U),Snd (eF T n sc e ρ O) (ev T n sc e ρ O):=fun n=>by
 induction n with
 | zero=>exact fun _ _ _ _=>Snd.stuck
 | succ n ih =>
  intro sc e ρ O;have h:∀ e O,Snd (eF T n sc e ρ O) (ev T n sc e ρ O):=fun e O=>ih sc e ρ O
  induction e using ge with
  | Constant c _ _=>exact Snd.bind Snd.opt fun v=>Snd.pure
  | Name x _=>exact Snd.bind Snd.opt fun v=>Snd.pure
  | BoolOp op es _=>exact JX h es O
  | BinOp l op r _=>exact Snd.bind (h _ _) fun a=>Snd.bind (h _ _) fun b=>Snd.bind Snd.prim fun v=>Snd.pure
  | UnaryOp op x _=>exact Snd.bind (h _ _) fun a=>Snd.bind Snd.opt fun v=>Snd.pure
  | IfExp t a b _=>exact Eb (h _ _) (h _) (h _)
  | Compare l cA rs _ =>
   show Snd (if aat cA rs=true then W.stuck else _) (if aat cA rs=true then R.stuck else _);by_cases q:aat cA rs=true
   ·rw[if_pos q,if_pos q];exact Snd.stuck
   ·rw[if_neg q,if_neg q];exact Snd.bind (h _ _) fun a=>G0 h _ _ _ _
  | Tuple es _ _=>exact Snd.bind (gi h _ _) fun a=>Snd.ite Snd.pure
  | List es _=>exact Snd.bind (gi h _ _) fun a=>Snd.ite Snd.pure
  | Subscript o i _ =>
   show Snd (match ju i with|some x=>_|none=>_) (match ju i with|some x=>_|none=>_);rcases ju i with _|x
   ·exact Snd.bind (h _ _) fun a=>Snd.bind (h _ _) fun b=>Snd.bind Snd.askO fun v=>Snd.pure
   ·exact Snd.bind (h _ _) fun a=>Snd.bind (xR h _ _) fun b=>Snd.bind (xR h _ _) fun c=>G1
  | Attribute o x _ =>
   refine Snd.bind (h _ _) fun a=>?_;rcases ahu a.1 with _|k
   ·exact Snd.stuck
   ·exact Snd.ite Snd.pure
  | Call f args pN pos =>
   rcases pN with _|_
   ·exact G2 h (ik f) (HI f)
   ·exact Snd.stuck
  | ListComp elt gens scope _ =>
   show Snd (match mG gens with|some x=>_|none=>_) (match mG gens with|some x=>_|none=>_);rcases mG gens with _|x
   ·exact Snd.stuck
   ·refine Snd.ite (Snd.bind Snd.opt fun fO=>?_);rw[R.bind_assoc];exact Snd.bind (vz h) fun a=>Snd.bind Snd.ask fun r=>Snd.pure
  | Dict ks vs _ =>
   show Snd (match mH ks vs with|some x=>_|none=>_) (match mH ks vs with|some x=>_|none=>_);rcases mH ks vs with _|x
   ·exact Snd.stuck
   ·exact Snd.bind (h _ _) fun a=>Snd.bind (h _ _) fun b=>Snd.bind Snd.opt fun k=>Snd.pure
  | _=>exact Snd.stuck
noncomputable def qI(T:bJ):Nat->gK->Expr->af->U->W (V×U)
 | 0,_,_,_,_=>W.stuck
 | n+1,sc,e,ρ,O=>match e with
  | .List es _=>(dG (fun e O=>eF T n sc e ρ O) es O).bind fun a=>if a.1.length<=ai/\V.cleans a.1=true then W.pure (.ref a.2.length,a.2++[.list a.1])else W.stuck
  | .Dict ks vs _=>match ks,vs with
   | [],[]=>W.pure (.ref O.length,O++[.dict [] []])
   | _,_=>W.stuck
  | .Tuple es _ _=>(dG (fun e O=>qI T n sc e ρ O) es O).bind fun a=>if a.1.length<=ai then W.pure (.tup a.1,a.2)else W.stuck
  | e=>eF T n sc e ρ O
theorem BN:∀ (n:Nat) (sc:gK) (e:Expr) (ρ:af) (O:U),Snd (qI T n sc e ρ O) (bT T n sc e ρ O):=fun n=>by
 induction n with
 | zero=>exact fun _ _ _ _=>Snd.stuck
 | succ n ih =>
  intro sc e ρ O;induction e using ge with
  | List es _=>exact Snd.bind (gi (fun e O=>fT n sc e ρ O) _ _) fun a=>Snd.ite Snd.pure
  | Tuple es _ _=>exact Snd.bind (gi (fun e O=>ih sc e ρ O) _ _) fun a=>Snd.ite Snd.pure
  | Dict ks vs _=>rcases ks with _|_<;>rcases vs with _|_<;>first|exact Snd.pure|exact Snd.stuck
  | _=>exact fT n sc _ ρ O
noncomputable abbrev sQ:=W ((Fl×af)×U)
noncomputable def lj(f:lI->af->U->sQ):List lI->af->U->sQ
 | [],ρ,O=>W.pure ((.next,ρ),O)
 | s::r,ρ,O=>(f s ρ O).bind fun a=>match a.1.1 with
  | .next=>lj f r a.1.2 a.2
  | _=>W.pure a
theorem nV{f:lI->af->U->sQ}{g:lI->af->U->b7}(h:∀ s ρ O,Snd (f s ρ O) (g s ρ O)):∀ (ss:List lI) (ρ:af) (O:U),Snd (lj f ss ρ O) (ay g ss ρ O):=fun ss=>by
 induction ss with
 | nil=>exact fun _ _=>Snd.pure
 | cons s r ih =>
  intro ρ O;refine Snd.bind (h s ρ O) fun a=>?_;rcases a with⟨⟨_|_|_|_,_⟩,_⟩<;>first|exact ih _ _|exact Snd.pure
noncomputable def pu(T:bJ)(n:Nat)(sc:gK)(t e:Expr)(x:Option (Expr×Expr))(ρ:af)(O:U):sQ:=match x with
 | some a=>(eF T n sc e ρ O).bind fun v=>(eF T n sc a.1 ρ v.2).bind fun o=>(eF T n sc a.2 ρ o.2).bind fun b=>(W.askO O2 (cW o.1 b.1 v.1 b.2)).bind fun ar=>W.pure ((.next,ρ),ar)
 | none=>if(cM t&&EP t e)=true then(qI T n sc e ρ O).bind fun a=>(W.opt (bx (cL sc) t a.1 ρ)).bind fun aU=>W.pure ((.next,aU),a.2)else W.stuck
noncomputable def vA(T:bJ)(n:Nat)(sc:gK)(f:Expr)(args:List Expr)(q:YZ)(ρ:af)(O:U):sQ:=(eF T n sc (.Call f args [] q) ρ O).bind fun a=>match a.1 with
 | .none=>W.pure ((.next,ρ),a.2)
 | _=>W.stuck
noncomputable def vB(T:bJ)(n:Nat)(sc:gK)(f:Expr)(args:List Expr)(q:YZ)(x:Option (Expr×fw×YZ×Expr))(ρ:af)(O:U):sQ:=match x with
 | none=>vA T n sc f args q ρ O
 | some a =>
   if a.2.1=ac "append" then if(bW [a.2.2.2]&&(a.2.2.1.endLine==q.line))=true then(eF T n sc a.1 ρ O).bind fun b=>W.chk true (bX b.1 b.2) ((eF T n sc a.2.2.2 ρ b.2).bind fun v =>
     (W.askO O2 (kx b.1 v.1 v.2)).bind fun ar=>W.pure ((.next,ρ),ar))
    else W.stuck
   else if a.2.1=ac "extend" then if(kM sc ρ a.2.2.2&&(a.2.2.1.endLine==q.line))=true then(eF T n sc a.1 ρ O).bind fun b=>W.chk true (bX b.1 b.2) ((qG (fun e O=>eF T n sc e ρ O) (bd sc ρ) false a.2.2.2 b.2 (lL a.2.2.2)).bind fun v =>
     (W.askO O2 (gW b.1 v.1 v.2)).bind fun ar=>W.pure ((.next,ρ),ar))
    else W.stuck
   else vA T n sc f args q ρ O
noncomputable def xS(T:bJ)(n:Nat)(sc:gK)(x:Option (fw×Expr×Expr))(ρ:af)(O:U):sQ:=match x with
 | some q=>if(q.1==ac "SettingError"&&bd sc ρ q.1&&bW [q.2.1,q.2.2])=true then(eF T n sc q.2.1 ρ O).bind fun a=>(eF T n sc q.2.2 ρ a.2).bind fun b=>(W.opt (j9 a.1)).bind fun _=>(W.opt (dO b.1)).bind fun row=>W.raise row
   else W.stuck
 | none=>W.stuck
noncomputable def JY(T:bJ):Nat->gK->lI->af->U->sQ
 | 0,_,_,_,_=>W.stuck
 | n+1,sc,s,ρ,O=>match s with
  | .Return v _=>match v with
   | some e=>(qI T n sc e ρ O).bind fun a=>W.pure ((.ret a.1,ρ),a.2)
   | none=>W.stuck
  | .Continue _=>W.pure ((.cont,ρ),O)
  | .If t a b _=>(eF T n sc t ρ O).bind fun c=>(W.opt c.1.truth).bind fun t=>W.tst t (lj (JY T n sc) a ρ c.2) (lj (JY T n sc) b ρ c.2)
  | .Assign ts e _=>match fX ts with
   | some t=>pu T n sc t e (pR t) ρ O
   | none=>W.stuck
  | .Expr e _=>match im e with
   | some a=>vB T n sc a.1 a.2.1 a.2.2 (methP a.1 a.2.1) ρ O
   | none=>W.stuck
  | .For t it body t7 _=>match t7 with
   | []=>if cM t=true then(qG (fun e O=>eF T n sc e ρ O) (bd sc ρ) (eB t) it O (lL it)).bind fun a=>W.ask TN (oq sc t (ay (ex T n sc) body) a.1 ρ a.2)else W.stuck
   | _::_=>W.stuck
  | .While t body t7 _=>match t7 with
   | []=>W.ask TN (pQ (fun ρ O=>ev T n sc t ρ O) (ay (ex T n sc) body) lN ρ O)
   | _::_=>W.stuck
  | .Raise e c _=>xS T n sc (pS e c) ρ O
  | _=>W.stuck
section
variable{sc:gK}
theorem Ec{e:Expr}{x:Option (Expr×Expr)} : Snd (pu T n sc t e x ρ O) (kN T n sc t e x ρ O):=by
 cases x with
 | some a=>exact Snd.bind (fT _ _ _ _ _) fun v=>Snd.bind (fT _ _ _ _ _) fun o=>Snd.bind (fT _ _ _ _ _) fun b=>Snd.bind Snd.askO fun ar=>Snd.pure
 | none=>exact Snd.ite (Snd.bind (BN _ _ _ _ _) fun a=>Snd.bind Snd.opt fun aU=>Snd.pure)
theorem BQ{f:Expr}{q:YZ} : Snd (vA T n sc f args q ρ O) (ym T n sc f args q ρ O):=by
 refine Snd.bind (fT _ _ _ _ _) fun a=>?_;rcases a with⟨a,τ⟩
 cases a<;>first|exact Snd.pure|exact Snd.stuck
theorem JZ{f:Expr}{q:YZ}{x:Option (Expr×fw×YZ×Expr)} : Snd (vB T n sc f args q x ρ O) (tI T n sc f args q x ρ O):=by
 cases x with
 | none=>exact BQ
 | some a=>exact qH (Snd.ite (Snd.bind (fT _ _ _ _ _) fun b=>Snd.chk (Snd.bind (fT _ _ _ _ _) fun v=>Snd.bind Snd.askO fun ar=>Snd.pure))) (qH (Snd.ite (Snd.bind (fT _ _ _ _ _) fun b=>Snd.chk (Snd.bind (vz fun e O=>fT n sc e ρ O) fun v=>Snd.bind Snd.askO fun ar=>Snd.pure))) BQ)
theorem G3{x:Option (fw×Expr×Expr)} : Snd (xS T n sc x ρ O) (t6 T n sc x ρ O):=by
 cases x with
 | none=>exact Snd.stuck
 | some q =>
  exact Snd.ite (Snd.bind (fT _ _ _ _ _) fun a=>Snd.bind (fT _ _ _ _ _) fun b=>Snd.bind Snd.opt fun _=>Snd.bind Snd.opt fun _=>Snd.raise)
end
theorem J0:∀ (n:Nat) (sc:gK) (s:lI) (ρ:af) (O:U),Snd (JY T n sc s ρ O) (ex T n sc s ρ O):=fun n=>by
 induction n with
 | zero=>exact fun _ _ _ _=>Snd.stuck
 | succ n ih =>
  intro sc s ρ O;induction s using afi with
  | Return v _ =>
   rcases v with _|e
   ·exact Snd.stuck
   ·exact Snd.bind (BN _ _ _ _ _) fun a=>Snd.pure
  | Continue _=>exact Snd.pure
  | If t a b _=>exact Eb (fT _ _ _ _ _) (fun O=>nV (ih sc) a ρ O) fun O=>nV (ih sc) b ρ O
  | Assign ts e _ =>
   show Snd (match fX ts with|some t=>pu T n sc t e (pR t) ρ O|none=>W.stuck) (match fX ts with|some t=>kN T n sc t e (pR t) ρ O|none=>R.stuck);cases fX ts with
   | some t=>exact Ec
   | none=>exact Snd.stuck
  | Expr e _ =>
   show Snd (match im e with|some a=>vB T n sc a.1 a.2.1 a.2.2 (methP a.1 a.2.1) ρ O|none=>W.stuck) (yn T n sc (im e) ρ O);cases im e with
   | some t=>exact JZ
   | none=>exact Snd.stuck
  | For t it body t7 _ =>
   rcases t7 with _|_
   ·exact Snd.ite (Snd.bind (vz fun e O=>fT n sc e ρ O) fun a=>Snd.ask)
   ·exact Snd.stuck
  | While t body t7 _ =>
   rcases t7 with _|_
   ·exact Snd.ask
   ·exact Snd.stuck
  | Raise e c _=>exact G3
  | _=>exact Snd.stuck
noncomputable def Nw(T:bJ)(n:Nat)(F:Fn)(vs:List V)(O:U):W (V×U) :=
 if vs.length<=F.params.length/\(vs++F.dflts.drop (F.dflts.length-(F.params.length-vs.length))).length=F.params.length then
  (lj (JY T n F.scope) F.body (dh F.scope.names (F.params.zip (vs++F.dflts.drop (F.dflts.length-(F.params.length-vs.length))))) O).bind fun a=>match a.1.1 with
   | .ret v=>W.pure (v,a.2)
   | .next=>W.pure (.none,a.2)
   | _=>W.stuck
 else W.stuck
theorem ws_run{F:Fn} : Snd (Nw T n F vs O) (bh T n F vs O):=by
 refine Snd.ite (Snd.bind (nV (J0 n F.scope) _ _ _) fun a=>?_);rcases a with⟨⟨_|_|_|_,_⟩,_⟩<;>first|exact Snd.stuck|exact Snd.pure
noncomputable abbrev Got{α:Type}(w:W α)(s:List It)(r:R α):Prop:=w s (fun a _=>.ok a=r) (fun row=>.exc row=r)
theorem Snd.got{w:W α}{x r:R α}(h:Snd w x)(s:List It)(e:Got w s r):x=r:=by
 have:=h s _ _ e;cases x with
 | ok a=>obtain⟨_,e'⟩:=this;exact e'
 | exc row=>exact this
 | stuck=>exact this.elim
noncomputable def cO{x:R (V×U)}{v:V}{O:U}(_:x= .ok (v,O)):It:=.c v O
noncomputable def xO{x:R (V×U)}{row:Int}(_:x= .exc row):It:=.x row
noncomputable def vO{x:Option V}{v:V}(_:x=some v):It:=.v v
noncomputable def kO{x:Option U}{O:U}(_:x=some O):It:=.k O
noncomputable def bO{x:Option Bool}{b:Bool}(_:x=some b):It:=.b b
noncomputable def lO{x:R (List V×U)}{vs:List V}{O:U}(_:x= .ok (vs,O)):It:=.l vs O
noncomputable def sO{x:b7}{fl:Fl}{ρ:af}{O:U}(_:x= .ok ((fl,ρ),O)):It:=.s fl ρ O
noncomputable def yO{x:b7}{row:Int}(_:x= .exc row):It:=.x row
theorem dT{p:Prop}[Decidable p](h:p):decide p=true:=decide_eq_true h
theorem dF{p:Prop}[Decidable p](h:¬p):decide p=false:=decide_eq_false h
theorem nT{p:Prop}[Decidable p](h:¬p):(!decide p)=true:=by rw[dF h];rfl
theorem nF{p:Prop}[Decidable p](h:p):(!decide p)=false:=by rw[dT h];rfl
theorem A{a b:Prop}(x:a)(y:b):a/\b:=⟨x,y⟩
noncomputable abbrev tt:true=true:=rfl
noncomputable abbrev ff:false=false:=rfl
theorem aX{F:Fn}{r:R (V×U)}{C:Prop}(s:List It)(e:C=Got (Nw T n F vs O) s r)(hC:r=r->C):bh T n F vs O=r:=ws_run.got s (e▸hC rfl)
theorem au{sc:gK}{ss:List lI}{r:b7}{C:Prop}(s:List It)(e:C=Got (lj (JY T n sc) ss ρ O) s r)(hC:r=r->C):ay (ex T n sc) ss ρ O=r:=(nV (J0 n sc) ss ρ O).got s (e▸hC rfl)
theorem rC{sc:gK}{x:Expr}{r:R (V×U)}{C:Prop}(s:List It)(e:C=Got (eF T n sc x ρ O) s r)(hC:r=r->C):ev T n sc x ρ O=r:=(fT n sc x ρ O).got s (e▸hC rfl)
theorem iM{sc:gK}{x:Expr}{b:Bool}{C:Prop}(s:List It)
  (e:C=Got ((eF T n sc x ρ O).bind fun c=>(W.opt c.1.truth).bind fun t=>W.tst t (W.pure (true,c.2)) (W.pure (false,c.2))) s (R.ok (b,τ):R (Bool×U))) (hC:(R.ok (b,τ):R (Bool×U))= .ok (b,τ)->C):tst (ev T n sc x ρ O)= .ok (b,τ):=by
 have:=Eb (fT (T:=T) n sc x ρ O) (x1:=fun O=>.ok (true,O)) (x2:=fun O=>.ok (false,O)) (fun O=>Snd.pure) fun O=>Snd.pure
 have h:=this.got s (e▸hC rfl);cases hr:tst (ev T n sc x ρ O)with
 | ok a=>rw[hr]at h;rcases a with⟨_|_,_⟩<;>exact h
 | exc row=>rw[hr]at h;exact h
 | stuck=>rw[hr]at h;exact h
noncomputable def Ed(T:bJ)(n:Nat)(F:Fn)(st:lI)(m:Nat)(ρ:af)(O:U):b7:=pQ (fun ρ O=>ev T n F.scope (kF st) ρ O) (ay (ex T n F.scope) (fR st)) m ρ O
noncomputable def wV(T:bJ)(n:Nat)(F:Fn)(st:lI)(vs:List V)(ρ:af)(O:U):b7:=oq F.scope (vw st) (ay (ex T n F.scope) (fR st)) vs ρ O
section
variable{F:Fn}{st:lI}{bj:af}{r:b7}
theorem rD(ht:tst (ev T n F.scope (kF st) ρ O)= .ok (true,O))(hb:ay (ex T n F.scope) (fR st) ρ O= .ok ((.next,aU),ar))(h:Ed T n F st m aU ar=r):Ed T n F st (m+1) ρ O=r:=by
 show((tst (ev T n F.scope (kF st) ρ O)).bind _)=_;rw[ht];show((ay (ex T n F.scope) (fR st) ρ O).bind _)=_;rw[hb];exact h
theorem tW(ht:tst (ev T n F.scope (kF st) ρ O)= .ok (false,O)):Ed T n F st (m+1) ρ O= .ok ((.next,ρ),O):=by
 show((tst (ev T n F.scope (kF st) ρ O)).bind _)=_;rw[ht];rfl
theorem Mn(ht:tst (ev T n F.scope (kF st) ρ O)= .ok (true,O))(hb:ay (ex T n F.scope) (fR st) ρ O= .ok ((.ret v,aU),ar)):Ed T n F st (m+1) ρ O= .ok ((.ret v,aU),ar):=by
 show((tst (ev T n F.scope (kF st) ρ O)).bind _)=_;rw[ht];show((ay (ex T n F.scope) (fR st) ρ O).bind _)=_;rw[hb];rfl
theorem rE(hp:bx (cL F.scope) (vw st) v ρ=some bj)(hb:ay (ex T n F.scope) (fR st) bj O= .ok ((.next,aU),ar))(h:wV T n F st vs aU ar=r):wV T n F st (v::vs) ρ O=r:=by
 show((ah (bx (cL F.scope) (vw st) v ρ)).bind _)=_;rw[hp];show((ay (ex T n F.scope) (fR st) bj O).bind _)=_;rw[hb];exact h
theorem vC(hp:bx (cL F.scope) (vw st) v ρ=some bj)(hb:ay (ex T n F.scope) (fR st) bj O= .ok ((.cont,aU),ar))(h:wV T n F st vs aU ar=r):wV T n F st (v::vs) ρ O=r:=by
 show((ah (bx (cL F.scope) (vw st) v ρ)).bind _)=_;rw[hp];show((ay (ex T n F.scope) (fR st) bj O).bind _)=_;rw[hb];exact h
theorem Mo(hp:bx (cL F.scope) (vw st) v ρ=some bj)(hb:ay (ex T n F.scope) (fR st) bj O= .exc row):wV T n F st (v::vs) ρ O= .exc row:=by
 show((ah (bx (cL F.scope) (vw st) v ρ)).bind _)=_;rw[hp];show((ay (ex T n F.scope) (fR st) bj O).bind _)=_;rw[hb];rfl
end
noncomputable def mC(T:bJ)(n:Nat)(F:Fn)(e:Expr)(ρ:af)(vs:List V)(O:U):R (List V×U):=dY (ev T n) (bK (rz e) F.scope) (JU e) (xP e) (xQ e) ρ vs O
section
variable{F:Fn}{e:Expr}{bj:af}{w:V}{r:R (List V×U)}
theorem ki(hz:vs.length<=ai)(h:mC T n F e ρ vs O=r):(if vs.length<=ai then mC T n F e ρ vs O else .stuck)=r:=(if_pos hz).trans h
theorem BR(hb:bx (gU (bK (rz e) F.scope)) (xP e) v ρ=some bj)(ht:iT (ev T n) (bK (rz e) F.scope) (xQ e) bj O= .ok (false,O))(h:mC T n F e bj vs O=r):mC T n F e ρ (v::vs) O=r:=by
 show((ah (bx (gU (bK (rz e) F.scope)) (xP e) v ρ)).bind _)=_;rw[hb];show((iT (ev T n) (bK (rz e) F.scope) (xQ e) bj O).bind _)=_;rw[ht];exact h
theorem rF(hb:bx (gU (bK (rz e) F.scope)) (xP e) v ρ=some bj)(ht:iT (ev T n) (bK (rz e) F.scope) (xQ e) bj O= .ok (true,O))(he:ev T n (bK (rz e) F.scope) (JU e) bj O= .ok (w,ar))(h:mC T n F e bj vs ar= .ok (ws,τ)):mC T n F e ρ (v::vs) O= .ok (w::ws,τ):=by
 show((ah (bx (gU (bK (rz e) F.scope)) (xP e) v ρ)).bind _)=_;rw[hb];show((iT (ev T n) (bK (rz e) F.scope) (xQ e) bj O).bind _)=_;rw[ht];show((ev T n (bK (rz e) F.scope) (JU e) bj O).bind fun a=>(mC T n F e bj vs a.2).bind _)=_;rw[he];show((mC T n F e bj vs ar).bind _)=_;rw[h];rfl
theorem BS(st:Option V->af)(hb:∀ v o,bx (gU (bK (rz e) F.scope)) (xP e) v (st o)=some (st (some v))):∀ {vs:List V} {o:Option V},(∀ v∈vs,iT (ev T n) (bK (rz e) F.scope) (xQ e) (st (some v)) O= .ok (false,O))->mC T n F e (st o) vs O= .ok ([],O):=fun{vs}=>by
 induction vs with
 | nil=>exact fun _=>rfl
 | cons v vs ih=>exact fun h=>BR (hb v _) (h v aW) (ih fun v m=>h v (bG _ m))
end
theorem mt{m:fw}{s:List Nat}(h:cV (.str s) m vs O=some v):jg T m (.str s) vs O= .ok (v,O):=by
 show(ah (cV (.str s) m vs O)).bind _=_;rw[h];rfl
theorem BU(l:List α):l=[]\/∃ ms z,l=ms++[z]:=by
 rcases abr l with h|⟨ms,z,h⟩
 ·exact .inl h
 ·exact .inr ⟨ms,z,h.trans abv⟩
end
theorem Ui(x:Nat):b9 .Add (.int (x:Int)) (.int 1)=some (.int ((x+1:Nat):Int)):=rfl
theorem Uj(x:Nat):b9 .Add (.int (x:Int)) (.int 2)=some (.int ((x+2:Nat):Int)):=rfl
theorem Wr(x y:Int):b9 .Sub (.int x) (.int y)=some (.int (x-y)):=rfl
theorem Xh(x y:Int):av .Lt (.int x) (.int y) O=some (decide (x<y)):=rfl
theorem Xi(x y:Int):av .LtE (.int x) (.int y) O=some (decide (x<=y)):=rfl
theorem Xj(x y:Int):av .Gt (.int x) (.int y) O=some (decide (x>y)):=rfl
theorem Xk(x y:Int):av .GtE (.int x) (.int y) O=some (decide (x>=y)):=rfl
theorem O5(x y:Int):av .Eq (.int x) (.int y) O=some (decide (x=y)):=by
 show(if iI (.int x)=true/\iI (.int y)=true then some (Yz (.int x) (.int y))else none)=_;rw[if_pos ⟨by rfl',by rfl'⟩];rfl
noncomputable def gj(l:List Nat):Prop:=∀ c∈l,c<128
theorem Fm{l:List Nat}(h:gj l):(aB l).cps.all (· < 0x110000)=true:=by
 rw[Array.all_eq_true_iff_forall_mem];intro c hc;have:=h c (by simpa using hc);simp;exact lC ‹_<128› rfl
theorem sS{l:List Nat}(h:gj l):iI (.str (aB l))=true:=by
 generalize((show _=(aB l).cps.all (· < 0x110000)by rfl).trans (Fm h):(PyData.str (aB l)).canLay0=true)=e;unfold iI;rw[e];rfl'
theorem BV(x y:List Nat):Yz (.str (aB x)) (.str (aB y))=decide (x=y):=by
 show(aB x==aB y)=_;by_cases h:x=y
 ·subst h;simp
 ·have:¬aB x=aB y:=fun z=>h (pI z)
  simp[h,this]
theorem BW{x y:List Nat}(hx:gj x)(hy:gj y):fM (.str x) (.str y)=some (decide (x=y)):=by
 show(if iI (.str (aB x))=true/\iI (.str (aB y))=true then some (Yz (.str (aB x)) (.str (aB y)))else none)=_;rw[if_pos ⟨sS hx,sS hy⟩,BV]
theorem J1{x y:List Nat}(hx:gj x)(hy:gj y):av .Eq (.str x) (.str y) O=some (decide (x=y)):=BW hx hy
theorem Ws(x y:Int):av .NotEq (.int x) (.int y) O=some (!decide (x=y)):=by
 show(av .Eq (.int x) (.int y) O).map (fun x=>!x)=_;rw[O5];rfl
theorem nq(l:List Nat)(h:l.length<=ai):mi (.str l) O=some (.int l.length):=if_pos h
theorem J2(l:List V)(h:l.length<=ai):mi (.tup l) O=some (.int l.length):=if_pos h
theorem ll(l:List V)(h:l.length<=ai):mi (.lst l) O=some (.int l.length):=if_pos h
theorem zE{l:List α}{a:α}(h:l[i]?=some a)(hz:l.length<=ai):mx l (i:Int)=some a:=by
 have hi:i<l.length:=(iQ h).1;have hc:ai=100000:=rfl;unfold mx;rw[if_pos ⟨ZS (by decide) (cu i),sq hi hz⟩];have:ZO (i:Int) l.length=some i:=by
  unfold ZO;have h1:¬(i:Int)<0:=nz;have h2:(0:Int)<=i:=by exact RL
  have h3:(i:Int)<l.length:=by exact RU ‹_›
  simp[h1,h2,h3]
 rw[this];exact h
theorem nW{l:List α}{a:α}(hz:(l++[a]).length<=ai):mx (l++[a]) (-1)=some a:=by
 generalize(rfl:ai=100000)=hc;unfold mx;rw[if_pos ⟨by decide,by decide⟩];have:ZO (-1) (l++[a]).length=some l.length:=by
  have e:(l++[a]).length=l.length+1:=by simp
  rw[e];unfold ZO;have h1:(-1:Int)<0:=by decide
  have h2:(-1:Int)+((l.length+1:Nat):Int)=l.length:=by exact MM
  have h3:(0:Int)<=l.length:=by exact r9
  have h4:(l.length:Int)<((l.length+1:Nat):Int):=by exact UC
  simp only[h1,if_true,h2];simp[h3];assumption
 rw[this];simp
theorem d6{l:List Nat}(h:l[i]?=some c)(hz:l.length<=ai):bC (.str l) (.int i) O=some (.str [c]):=by
 delta bC dO;dsimp only;rw[cH,zE h hz];rfl
theorem gN{c:V}(h:l[i]?=some c)(hz:l.length<=ai):bC (.tup l) (.int i) O=some c:=by delta bC dO;dsimp only;rw[cH,zE h hz]
theorem lm{c:V}(h:l[i]?=some c)(hz:l.length<=ai):bC (.lst l) (.int i) O=some c:=by delta bC dO;dsimp only;rw[cH,zE h hz]
theorem eH(h:k<=n):cf n (k:Int)=k:=by
 unfold cf;rw[if_neg (Int.not_lt.mpr (cu k)),acP (aE h),aa6 (cu k)];rfl
theorem sT(n:Nat):cf (n+1) (-1)=n:=by
 unfold cf;rw[if_pos (by decide),show -1+((n+1:Nat):Int)=(n:Int)from(Int.add_comm _ _).trans (Int.add_neg_cancel_right (n:Int) 1),acP (aE (Y9 n)),aa6 (cu n)];rfl
theorem J3(i:Int)(h:-(2 ^ 62)<i/\i<2 ^ 62):aI (.int i)=some (some i):=if_pos h
theorem iD:aI .none=some none:=rfl
theorem BX{l:List Nat}(hz:l.length<=ai)(hi:i<=l.length)(hj:j<=l.length):bg (.str l) (some i) (some j)=some (.str ((l.drop i).take (j-i))):=by
 delta bg;dsimp only;rw[if_pos hz];delta cut;dsimp only;rw[eH hi,eH hj]
theorem jA(k:Nat)(h:k<=ai+ai):aI (.int (k:Int))=some (some (k:Int)):=J3 _ (by have hc:ai=100000:=rfl;exact Sx ‹_› ‹_›)
theorem rG(h:O[k]?=some (.list l))(hz:l.length<=ai)(hc:V.clean v=true):kx (.ref k) v O=some (O.set k (.list (l++[v]))):=by
 simp only[kx,h];rw[if_pos ⟨hz,hc⟩];rfl
theorem Ee(h:O[k]?=some (.list l)):bX (.ref k) O=true:=by delta bX;dsimp only;rw[h]
theorem tX(h:acc.length<=ai)(hc:V.clean v=true):kx (.ref 0) v (Cell.list acc::O)=some (Cell.list (acc++[v])::O):=rG (k:=0) (O:=Cell.list acc::O) rfl h hc
theorem bz(h:cX F vs []= .ok (v,τ)):cX F vs O= .ok (v,O):=by
 unfold cX at h ⊢;split at h
 ·rename_i hc;rw[if_pos hc];cases hr:F vs []with
  | exc row=>rw[hr]at h;cases h
  | stuck=>rw[hr]at h;cases h
  | ok b =>
   rw[hr]at h;simp only[no]at h ⊢;cases hf:ot 0 b.2 b.1 with
   | none=>rw[hf]at h;cases h
   | some u =>
    rw[hf]at h;simp only[JV,no]at h ⊢;split at h
    ·rename_i hu;rw[if_pos hu];cases h;rfl
    ·cases h
 ·cases h
theorem Fo{s:List Nat} : cV (.str s) (S "join") [v] O=(match(cv v O).bind eZ with
    | some q=>if cT q+q.length*s.length<=ai/\q.length<=ai then some (.str (an s q))else none
    | none=>none):=by rfl'
theorem i6{u:V}(hc:V.cleans vs=true)(h:F vs []= .ok (v,τ))(hf:ot 0 τ v=some u)(hu:u.clean=true):cX F vs O= .ok (u,O):=by
 unfold cX;rw[if_pos hc,h,no];dsimp only;rw[hf,JV,no,if_pos hu]
theorem vD{a b:Int}(h:a<2 ^ 31/\-(2 ^ 31)<a/\b<2 ^ 31/\-(2 ^ 31)<b)(e:bc a (b-a).toNat=l):iF [.int a,.int b] O= .ok (l,O):=by
 have e1:kJ [.int a,.int b]=nN (.int a,.int b):=rfl;have e2:nN (.int a,.int b)=some l:=by
  unfold nN dO;simp -implicitDefEqProofs only[cH,if_pos h,e]
 unfold iF;rw[e1,e2];rfl
theorem vE{d:Nat}(h:d<1000):iF [.int (d:Nat)] O= .ok (bc 0 d,O):=by
 have e2:(dO (.int (d:Nat))).bind (fun hi=>if hi<2 ^ 31/\-(2 ^ 31)<hi then some (bc 0 hi.toNat)else none)=some (bc 0 d):=by
  have e:dO (.int (d:Nat))=some (d:Int):=rfl;rw[e,cH,if_pos ⟨YR (Int.ofNat_lt.mpr h) (by decide),r5⟩,Z8]
 have e1:kJ [.int (d:Nat)]=some (bc 0 d):=e2;unfold iF;rw[e1];rfl
noncomputable def vF(c:Nat):List Nat:=if c=34 then[92,34]else if c=92 then[92,92]else[c]
noncomputable def cy(t:List Nat):List Nat:=t.flatMap vF
noncomputable abbrev rH(t:List Nat):List V:=t.map fun c=>V.str [c]
theorem xT(c:Nat)(t:List Nat):cy (c::t)=vF c++cy t:=rfl
theorem xU{a b:List α}{c:α} : (a++c::b).drop (a.length+1)=b:=by simp
theorem eO:(pre++c::suf)[pre.length]?=some c:=by simp
theorem nY{d:Nat} : (pre++c::d::suf)[pre.length+1]?=some d:=by
 rw[eM (by exact r8)];simp
theorem BZ(h:c<128):gj [c]:=fun x m=>by rw[a8 m];exact h
theorem Fp:av .NotIn (.str [92]) (.tup [(.str [92]),(.str [34])]) O=some false/\av .NotIn (.str [34]) (.tup [(.str [92]),(.str [34])]) O=some false:=⟨by rfl',by rfl'⟩
theorem xV:av .NotIn (.str []) (.tup [(.str []),(.str [32]),(.str [33])]) O=some false/\av .NotIn (.str [32]) (.tup [(.str []),(.str [32]),(.str [33])]) O=some false:=⟨by rfl',by rfl'⟩
theorem nr{a:Nat}(ha:a<128)(hb:b<128):av .Eq (.str [a]) (.str [b]) O=some (decide (a=b)):=(J1 (BZ ha) (BZ hb)).trans (congrArg some (decide_eq_decide.mpr ⟨fun h=>(abu h).1,fun h=>by rw[h]⟩))
theorem Wt{a:Nat}(ha:a<128)(hb:b<128):av .NotEq (.str [a]) (.str [b]) O=some (!decide (a=b)):=congrArg (acE fun x=>!x) (nr (O:=O) ha hb)
noncomputable abbrev Mp(t:List Nat)(p:Nat)(row:Int):af:=[(S "text",some (.str t)),(S "at",some (.int (p:Nat))),(S "row",some (.int row)),(S "found",some (.ref 0))]
noncomputable abbrev G4(m:Nat)(t:List Nat)(p:Nat)(row:Int)(acc:List V):b7:=Ed hM 59 (aZ "read_quoted") (kD (aZ "read_quoted").body 1) m (Mp t p row) [.list acc]
section
variable{r:b7}
theorem Mq:(pre.length:Int)<((pre++c::suf).length:Int):=by simp;exact R8
theorem vG{b:Bool}(hb:(!decide (c=34))=b)(hz:(pre++c::suf).length<=ai)(hc:c<128):tst (ev hM 59 (aZ "read_quoted").scope (kF (kD (aZ "read_quoted").body 1)) (Mp (pre++c::suf) pre.length row) [.list acc])= .ok (b,[.list acc]):=by
 generalize(nq (O:=[.list acc]) _ hz)=l;generalize(d6 (O:=[.list acc]) (eO (pre:=pre) (suf:=suf) (c:=c)) hz)=i;generalize(Wt (O:=[.list acc]) hc (show 34<128 by decide))=e;generalize(dT (Mq (pre:=pre) (suf:=suf) (c:=c)))=m;cases b
 ·exact iM [vO l,.t true,vO i,bO e,.t false] (by rfl') fun z=>A l (A m (A i (A e (A hb z))))
 ·exact iM [vO l,.t true,vO i,bO e,.t true] (by rfl') fun z=>A l (A m (A i (A e (A hb z))))
theorem J4(h1:c≠34)(h2:c≠92)(hc:c<128)(hz:(pre++c::suf).length<=ai)(hl:acc.length<=ai)(h:G4 n (pre++c::suf) (pre.length+1) row (acc++[.str [c]])=r):G4 (n+1) (pre++c::suf) pre.length row acc=r:=by
 generalize(d6 (O:=[.list acc]) (eO (pre:=pre) (suf:=suf) (c:=c)) hz)=i;generalize(nr (O:=[.list acc]) hc (show 92<128 by decide))=e;generalize(tX (O:=[]) hl (show V.clean (.str [c])=true from rfl))=a;exact rD (vG (nT h1) hz hc) (au [vO i,bO e,.t false,.t true,vO i,kO a] (by rfl') fun z=>A i (A e (A (dF h2) (A tt (A i (A a z)))))) h
theorem Mr(h1:c=34\/c=92)(hz:(pre++92::c::suf).length<=ai)(hl:acc.length<=ai)(h:G4 n (pre++92::c::suf) (pre.length+1+1) row (acc++[.str [c]])=r):G4 (n+1) (pre++92::c::suf) pre.length row acc=r:=by
 generalize(hz)=wD;simp only[bv,cx]at wD;generalize(rfl:ai=100000)=wA;generalize(d6 (O:=[.list acc]) (eO (pre:=pre) (suf:=c::suf) (c:=92)) hz)=i;generalize(nr (O:=[.list acc]) (show 92<128 by decide) (show 92<128 by decide))=e;generalize(d6 (O:=[.list acc]) (nY (pre:=pre) (suf:=suf) (c:=92) (d:=c)) hz)=hi;have hs:((aI (.int ((pre.length+1:Nat):Int))).bind fun i=>(aI (.int ((pre.length+1+1:Nat):Int))).bind fun j=>bg (.str (pre++92::c::suf)) i j)=some (.str [c]):=by
  rw[jA (pre.length+1) (Nat.le_of_succ_le (sk wD)),jA (pre.length+1+1) (sk wD),cH,cH,BX hz (by simp) (by simp;exact lP (abp 2 _) _),show(pre++92::c::suf).drop (pre.length+1)=c::suf from xU,YT];rfl
 generalize(tX (O:=[]) hl (show V.clean (.str [c])=true from rfl))=a;have hin:av .NotIn (.str [c]) (.tup [(.str [92]),(.str [34])]) [.list acc]=some false:=by
  rcases h1 with rfl|rfl
  ·exact Fp.2
  ·exact Fp.1
 exact rD (vG rfl hz (by decide)) (au [vO i,bO e,.t true,vO hs,bO hin,.t false,.t true,vO hi,kO a] (by rfl') fun z=>A i (A e (A tt (A hs (A hin (A ff (A tt (A hi (A a z))))))))) h
end
theorem J5:∀ (t:List Nat) (n:Nat) (pre:List Nat) (acc:List V),t.length<n->gj (pre++(cy t++34::suf))->(pre++(cy t++34::suf)).length<=ai->acc.length+t.length<=ai ->
  G4 n (pre++(cy t++34::suf)) pre.length row acc= .ok ((.next,Mp (pre++(cy t++34::suf)) (pre++cy t).length row),[.list (acc++rH t)]):=fun t=>by
 induction t with
 | nil =>
  intro n pre acc h ha hz hl;obtain⟨n,rfl⟩:∃ m,n=m+1:=⟨n-1,(ab1 (YW h)).symm⟩
  rw[show pre++cy []=pre from bP pre,show acc++rH []=acc from bP acc];exact tW (vG (suf:=suf) rfl hz (by decide))
 | cons c t ih =>
  intro n pre acc hn ha hz hl;obtain⟨n,rfl⟩:∃ m,n=m+1:=⟨n-1,(ab1 (YW (aef hn))).symm⟩
  rw[cx]at hl;have ih:∀ x:List Nat,vF c=x->G4 n (pre++(x++(cy t++34::suf))) (pre.length+x.length) row (acc++[.str [c]])= .ok ((.next,Mp (pre++(x++(cy t++34::suf))) (pre++(x++cy t)).length row),[.list (acc++rH (c::t))]):=fun x hx=>by
   have e:pre++(cy (c::t)++34::suf)=(pre++x)++(cy t++34::suf):=by rw[xT,hx];simp
   rw[e]at ha hz;have:=ih n (pre++x) (acc++[.str [c]]) (Z6 hn) ha hz (by rw[bv];exact bL (Yh (by simp;exact PF)) hl);rw[bv]at this;simp only[cJ]at this ⊢;exact this
  rw[xT,cJ]at hz ha ⊢;by_cases h1:c=34\/c=92
  ·have hx:vF c=[92,c]:=by rcases h1 with rfl|rfl<;>rfl
   rw[hx]at hz ⊢;exact Mr h1 hz (by exact Fx ‹_›) (ih _ hx)
  ·have hx:vF c=[c]:=by unfold vF;rw[if_neg fun z=>h1 (.inl z),if_neg fun z=>h1 (.inr z)]
   rw[hx]at hz ha ⊢;exact J4 (fun z=>h1 (.inl z)) (fun z=>h1 (.inr z)) (ha c (by simp)) hz (by exact Fx ‹_›) (ih _ hx)
theorem xW:∀ t:List Nat,eZ (rH t)=some (t.map fun c=>[c])
 | []=>rfl
 | c::t=>by show(eZ (rH t)).map (fun r=>[c]::r)=_;rw[xW t];rfl
theorem xX:∀ t:List Nat,an [] (t.map fun c=>[c])=t
 | []=>rfl
 | [c]=>rfl
 | c::d::t=>by
  show[c]++[]++an [] ((d::t).map fun c=>[c])=_;rw[xX (d::t)];rfl
theorem B0:∀ t:List Nat,cT (t.map fun c=>[c])=t.length
 | []=>rfl
 | c::t=>by show 1+cT (t.map fun c=>[c])=_;rw[B0 t];simp;exact Ur
theorem J6{t:List Nat}(h:t.length<=ai):cV (.str []) (S "join") [.ref 0] (Cell.list (rH t)::O)=some (.str t):=by
 have hz:cT (t.map fun c=>[c])+(t.map fun c=>[c]).length*0<=ai/\(t.map fun c=>[c]).length<=ai:=by rw[B0];simp[h]
 have e:(cv (.ref 0) (Cell.list (rH t)::O)).bind eZ=some (t.map fun c=>[c]):=xW t;rw[Fo,e];show(if cT (t.map fun c=>[c])+(t.map fun c=>[c]).length*0<=ai/\(t.map fun c=>[c]).length<=ai then some (V.str (an [] (t.map fun c=>[c])))else none)=_;rw[if_pos hz,xX]
theorem TS{t:List Nat}(hs:suf=[]\/∃ r,suf=32::r)(hz:(pre++(cy t++34::suf)).length<=ai):∃ x,((aI (.int (((pre++cy t).length+1:Nat):Int))).bind fun i=>(aI (.int (((pre++cy t).length+2:Nat):Int))).bind fun j=>bg (.str (pre++(cy t++34::suf))) i j)=some (.str x)/\av .NotIn (.str x) (.tup [(.str []),(.str [32]),(.str [33])]) O=some false:=by
 generalize(rfl:ai=100000)=wA;have e:pre++(cy t++34::suf)=(pre++cy t)++34::suf:=by simp
 rw[e]at hz ⊢;generalize pre++cy t=p at hz ⊢;have hl:(p++34::suf).length=p.length+1+suf.length:=by rw[bv,cx];exact r6
 generalize(xU:(p++34::suf).drop (p.length+1)=suf)=hd;generalize(eH (by exact QZ ‹_›):cf (p++34::suf).length ((p.length+1:Nat):Int)=p.length+1)=c1;refine⟨suf.take 1,?_,?_⟩
 ·rw[jA (p.length+1) (by exact RB ‹_› ‹_›),jA (p.length+2) (by exact RC ‹_› ‹_›),cH,cH];unfold bg;simp only;rw[if_pos hz];unfold cut;simp only;rw[c1,hd];rcases hs with rfl|⟨r,rfl⟩
  ·simp
  ·rw[eH (by rw[hl,cx];exact Qi),show p.length+2-(p.length+1)=1 by exact Uy]
 ·rcases hs with rfl|⟨r,rfl⟩
  ·exact xV.1
  ·exact xV.2
theorem tG{t:List Nat}(hs:suf=[]\/∃ r,suf=32::r)(ha:gj (pre++(cy t++34::suf)))(hz:(pre++(cy t++34::suf)).length<=ai)(hl:t.length<4096) :
  jp [.str (pre++(cy t++34::suf)),.int pre.length,.int row] O= .ok (.tup [.str t,.int ((pre++cy t).length+1:Nat)],O):=by
 have wA:ai=100000:=rfl;have h1:=J5 (row:=row) (suf:=suf) t lN pre [] hl ha hz (by rw[dv];exact QQ ‹_› ‹_›);have hne:¬(((pre++cy t).length:Nat):Int)=((pre++(cy t++34::suf)).length:Int):=fun h=>by have h:=acA h;simp at h
 obtain⟨x,hc,hin⟩:=TS (O:=[.list (rH t)]) hs hz;have l:=nq (O:=[.list (rH t)]) _ hz;have j:=J6 (O:=[]) (show t.length<=ai from lD hl rfl);have jm:jg hM (S "join") (.str []) [.ref 0] [.list (rH t)]= .ok (.str t,[.list (rH t)]):=by
  show(ah (cV (.str []) (S "join") [.ref 0] [.list (rH t)])).bind _=_;rw[j];rfl
 exact i6 (v:=.tup [.str t,.int ((pre++cy t).length+1:Nat)]) (τ:=[.list (rH t)]) rfl
  (aX [sO h1,vO l,.t false,vO hc,bO hin,.t false,cO jm] (by rfl') fun z=>A h1 (A l (A (dF hne) (A hc (A hin (A ff (A jm z))))))) (by rfl) (by rfl)
noncomputable abbrev J7(text:List Nat)(row:Int)(i:Nat)(o1 o2 o3:Option V):af:=[(S "text",some (.str text)),(S "row",some (.int row)),(S "found",some (.ref 0)),(S "at",some (.int (i:Nat))),(S "sign",o1),(S "word",o2),(S "begin",o3)]
noncomputable abbrev O6:lI:=kD (aZ "words_of").body 1
noncomputable abbrev Wu:lI:=kD (D9 (kD (D9 (kD (D9 (kD (fR O6) 1)) 0)) 0)) 1
noncomputable abbrev Wv(m:Nat)(text:List Nat)(row:Int)(i:Nat)(o1 o2 o3:Option V)(acc:List V):b7:=Ed kh 59 (aZ "words_of") O6 m (J7 text row i o1 o2 o3) [.list acc]
noncomputable def Ww(b:Bool):Fl:=bif b then .next else .ret (.ref 0)
noncomputable def Ends(n:Nat)(row:Int)(text:List Nat)(i:Nat)(acc ws:List V):Prop :=
 ∀ o1 o2 o3,∃ b a p1 p2 p3,Wv n text row i o1 o2 o3 acc= .ok ((Ww b,J7 text row a p1 p2 p3),[.list (acc++ws)])
section
variable{text:List Nat}
theorem rI(h:text[i]?=some c):((i:Int)<(text.length:Int)):=Int.ofNat_lt.mpr (iQ h).1
theorem Ms(ha:gj text)(h:text[i]?=some c):c<128:=ha c (fU h)
theorem qJ{b:Bool}(hz:text.length<=ai)(h:decide ((i:Int)<(text.length:Int))=b):tst (ev kh 59 (aZ "words_of").scope (kF O6) (J7 text row i o1 o2 o3) [.list acc])= .ok (b,[.list acc]):=by
 generalize(nq (O:=[.list acc]) _ hz)=l;cases b
 ·exact iM [vO l,.t false] (by rfl') fun z=>A l (A h z)
 ·exact iM [vO l,.t true] (by rfl') fun z=>A l (A h z)
theorem G5(hz:text.length<=ai)(hi:i=text.length):Ends (n+1) row text i acc []:=fun o1 o2 o3=>⟨true,i,o1,o2,o3,by
 rw[bP];exact tW (qJ hz (dF (by rw[hi];exact adj _)))⟩
theorem B1(ha:gj text)(hz:text.length<=ai)(h:text[i]?=some 32)(k:Ends n row text (i+1) acc ws):Ends (n+1) row text i acc ws:=fun o1 o2 o3=>by
 refine ab fun _ gG=>?_;obtain⟨b,a,p1,p2,p3,k⟩:=k (some (.str [32])) o2 o3;refine gG ?_;clear gG
 generalize(d6 (O:=[.list acc]) h hz)=i';generalize(nr (O:=[.list acc]) (show 32<128 by decide) (show 32<128 by decide))=e;exact⟨b,a,p1,p2,p3,rD (qJ hz (dT (rI h))) (au [vO i',bO e,.t true] (by rfl') fun z=>A i' (A e (A tt z))) k⟩
theorem zF(ha:gj text)(hz:text.length<=ai)(h:text[i]?=some 33):Ends (n+1) row text i acc []:=fun o1 o2 o3=>by
 generalize(d6 (O:=[.list acc]) h hz)=i';generalize(nr (O:=[.list acc]) (show 33<128 by decide) (show 32<128 by decide))=e;generalize(nr (O:=[.list acc]) (show 33<128 by decide) (show 33<128 by decide))=e2;rw[<- bP acc];exact⟨false,i,some (.str [33]),o2,o3,by rw[bP,bP];exact Mn (qJ hz (dT (rI h))) (au [vO i',bO e,.t false,bO e2,.t true] (by rfl') fun z=>A i' (A e (A ff (A e2 (A tt z)))))⟩
theorem J8(h1:c≠32)(h2:c≠34):av .NotIn (.str [c]) (.str [32,34]) O=some true:=by
 show some (!((c==32&&true)||((c==34&&true)||false)))=_;rw[beq_eq_false_iff_ne.mpr h1,beq_eq_false_iff_ne.mpr h2];rfl
theorem Ef:av .NotIn (.str [32]) (.str [32,34]) O=some false:=by rfl'
noncomputable def zG(c:Nat):Prop:=c≠32/\c≠34
theorem Eg(hz:text.length<=ai)(hs:suf=[]\/∃ r,suf=32::r):∀ (w:List Nat) (n:Nat) (pre:List Nat),w.length<n->(∀ c∈w,zG c)->text=pre++(w++suf) ->
  Ed kh 55 (aZ "words_of") Wu n (J7 text row pre.length o1 o2 (some (.int (j:Nat)))) O= .ok ((.next,J7 text row (pre++w).length o1 o2 (some (.int (j:Nat)))),O):=fun w=>by
 generalize(nq (O:=O) _ hz)=l;induction w with
 | nil =>
  intro n pre hn _ ht;obtain⟨n,rfl⟩:∃ m,n=m+1:=⟨n-1,(ab1 (YW hn)).symm⟩
  rw[bP];refine ab fun _ gG=>?_;rcases hs with rfl|⟨r,rfl⟩<;>refine gG ?_<;>clear gG
  ·have hlt:¬((pre.length:Int)<(text.length:Int)):=by rw[ht,bP,bP];exact adj _
   exact tW (iM [vO l,.t false,.t false] (by rfl') fun z=>A l (A (dF hlt) (A (dF hlt) z)))
  ·have h:text[pre.length]?=some 32:=by rw[ht];exact eO
   generalize(d6 (O:=O) h hz)=i';generalize(Ef (O:=O))=e;exact tW (iM [vO l,.t true,vO i',bO e,.t false] (by rfl') fun z=>A l (A (dT (rI h)) (A i' (A e (A ff z)))))
 | cons c w ih =>
  intro n pre hn hp ht;obtain⟨n,rfl⟩:∃ m,n=m+1:=⟨n-1,(ab1 (YW (aef hn))).symm⟩
  have h:text[pre.length]?=some c:=by rw[ht];exact eO
  generalize(hp c aW)=hc;generalize(ih n (pre++[c]) (Z6 hn) (fun x m=>hp x (bG _ m)) (by rw[ht,cJ];rfl))=ih;rw[bv,cJ]at ih;generalize(d6 (O:=O) h hz)=i';generalize(J8 (O:=O) hc.1 hc.2)=e;exact rD (iM [vO l,.t true,vO i',bO e,.t true] (by rfl') fun z=>A l (A (dT (rI h)) (A i' (A e (A tt z))))) (au [] (by rfl') fun z=>z) ih
theorem Eh{w:List Nat}(ha:gj text)(hz:text.length<=ai)(hs:suf=[]\/∃ r,suf=32::r)(hne:w≠[])(hp:∀ c∈w,zG c)(h33:∀ r,w≠33::r)(hw:w.length<4096)(ht:text=pre++(w++suf))(hl:acc.length<=ai)
  (k:Ends n row text (pre++w).length (acc++[.tup [.str w,.bool false]]) ws):Ends (n+1) row text pre.length acc (.tup [.str w,.bool false]::ws):=fun o1 o2 o3=>by
 refine ab fun _ gG=>?_;obtain⟨c,w',rfl⟩:=aaH hne;refine gG ?_;clear gG
 have h:text[pre.length]?=some c:=by rw[ht];exact eO
 generalize(hp c aW)=hc;generalize(Ms ha h)=LY;generalize(fun e=>h33 w' (by rw[e]):c≠33)=Wx;refine ab fun _ gG=>?_;obtain⟨b,a,p1,p2,p3,k⟩:=k (some (.str [c])) o2 (some (.int (pre.length:Nat)));refine gG ?_;clear gG
 rw[cJ]at k;have ck:text.length=pre.length+(c::w').length+suf.length:=by rw[ht,bv,bv,ab2]
 generalize(rfl:ai=100000)=wA;have OM:((aI (.int ((pre.length:Nat):Int))).bind fun i=>(aI (.int (((pre++c::w').length:Nat):Int))).bind fun j=>bg (.str text) i j)=some (.str (c::w')):=by
  rw[jA pre.length (bL (ef _ _) (sm hz ck)),jA (pre++c::w').length (by rw[bv];exact sm hz ck),cH,cH,BX hz (by exact Sa ‹_›) (by rw[bv];exact Se ‹_›),ht,aeO,bv,YT,List.take_left]
 generalize(Eg (row:=row) (o1:=some (.str [c])) (o2:=o2) (j:=pre.length) (O:=[.list acc]) hz hs (c::w') lN pre hw hp ht)=wl;generalize(d6 (O:=[.list acc]) h hz)=i';generalize(nr (O:=[.list acc]) LY (show 32<128 by decide))=lu;generalize(nr (O:=[.list acc]) LY (show 33<128 by decide))=J9;generalize(nr (O:=[.list acc]) LY (show 34<128 by decide))=Ka;generalize(tX (O:=[]) hl (show V.clean (.tup [.str (c::w'),.bool false])=true from rfl))=a';exact⟨b,a,p1,p2,p3,rD (qJ hz (dT (rI h))) (au [vO i',bO lu,.t false,bO J9,.t false,bO Ka,.t false,sO wl,.t true,vO OM,kO a'] (by rfl') fun z=>A i' (A lu (A (dF hc.1) (A J9 (A (dF Wx) (A Ka (A (dF hc.2) (A wl (A tt (A OM (A a' z))))))))))) k⟩
theorem B2{t:List Nat}(ha:gj text)(hz:text.length<=ai)(hs:suf=[]\/∃ r,suf=32::r)(hw:t.length<4096)(ht:text=pre++(34::(cy t++34::suf)))(hl:acc.length<=ai)
  (k:Ends n row text (pre++(34::(cy t++[34]))).length (acc++[.tup [.str t,.bool true]]) ws):Ends (n+1) row text pre.length acc (.tup [.str t,.bool true]::ws):=fun o1 o2 o3=>by
 have h:text[pre.length]?=some 34:=by rw[ht];exact eO
 refine ab fun _ gG=>?_;obtain⟨b,a,p1,p2,p3,k⟩:=k (some (.str [34])) (some (.str t)) o3;refine gG ?_;clear gG
 rw[cJ]at k;have Ei:text=(pre++[34])++(cy t++34::suf):=by rw[ht,cJ];rfl
 generalize(tG (pre:=pre++[34]) (suf:=suf) (t:=t) (row:=row) (O:=[.list acc]) hs (by rw[<- Ei];exact ha) (by rw[<- Ei];exact hz) hw)=rq;have el:(pre++[34]++cy t).length+1=(pre++(34::(cy t++[34]))).length:=by
  simp only[bv,cx,dv];exact Rh
 rw[<- Ei,el,bv]at rq;generalize(d6 (O:=[.list acc]) h hz)=i';generalize(nr (O:=[.list acc]) (show 34<128 by decide) (show 32<128 by decide))=lu;generalize(nr (O:=[.list acc]) (show 34<128 by decide) (show 33<128 by decide))=J9;generalize(nr (O:=[.list acc]) (show 34<128 by decide) (show 34<128 by decide))=Ka;generalize(tX (O:=[]) hl (show V.clean (.tup [.str t,.bool true])=true from rfl))=a';exact⟨b,a,p1,p2,p3,rD (qJ hz (dT (rI h))) (au [vO i',bO lu,.t false,bO J9,.t false,bO Ka,.t true,cO rq,.t true,kO a'] (by rfl') fun z=>A i' (A lu (A ff (A J9 (A ff (A Ka (A tt (A rq (A tt (A a' z)))))))))) k⟩
theorem zH(hc:V.cleans ws=true)(k:Ends lN row text 0 [] ws):br [.str text,.int row] O= .ok (.lst ws,O):=by
 refine ab fun _ gG=>?_;obtain⟨b,a,p1,p2,p3,k⟩:=k none none none;refine gG ?_;clear gG
 refine i6 (v:=.ref 0) (τ:=[.list ws]) rfl ?_ rfl hc;cases b
 ·exact aX [sO k] (by rfl') fun z=>A k z
 ·exact aX [sO k] (by rfl') fun z=>A k z
end
noncomputable def nu(row:Int)(text:List Nat)(i:Nat)(acc ws:List V):Prop:=∀ n,text.length<n+i->Ends n row text i acc ws
noncomputable def pz(raw:List Nat)(out:V):Prop:=(out= .tup [.str raw,.bool false]/\raw≠[]/\(∀ c∈raw,zG c)/\(∀ r,raw≠33::r)/\raw.length<4096)\/∃ t,raw=34::(cy t++[34])/\out= .tup [.str t,.bool true]/\t.length<4096
section
variable{text:List Nat}
theorem gO(ha:gj text)(hz:text.length<=ai)(h:text[i]?=some 32)(k:nu row text (i+1) acc ws):nu row text i acc ws:=fun n hn=>by
 generalize((iQ h).1)=hi;cases n with
 | zero=>exact(su (YG hi) hn).elim
 | succ n=>exact B1 ha hz h (k n (by exact Rg ‹_›))
theorem Fq(hz:text.length<=ai)(hi:i=text.length):nu row text i acc []:=fun n hn=>by
 cases n with
 | zero=>exact(su (Yh hi) hn).elim
 | succ n=>exact G5 hz hi
theorem vH(ha:gj text)(hz:text.length<=ai)(h:text[i]?=some 33):nu row text i acc []:=fun n hn=>by
 generalize((iQ h).1)=hi;cases n with
 | zero=>exact(su (YG hi) hn).elim
 | succ n=>exact zF ha hz h
theorem Fs(ha:gj text)(hz:text.length<=ai)(hs:suf=[]\/∃ r,suf=32::r)(ht:text=pre++(raw++suf))(hl:acc.length<=ai)(tk:pz raw out)
  (k:nu row text (pre++raw).length (acc++[out]) ws):nu row text pre.length acc (out::ws):=fun n hn=>by
 have hne:raw≠[]:=by
  rcases tk with⟨_,h,_⟩|⟨t,rfl,_⟩
  ·exact h
  ·simp
 have hp:0<raw.length:=List.length_pos_iff.mpr hne;have Wy:pre.length<=text.length:=by rw[ht];simp
 cases n with
 | zero=>exact(su Wy hn).elim
 | succ n =>
  have k:=k n (by rw[bv];exact Sl ‹_› ‹_›);rcases tk with⟨rfl,_,h2,h3,h4⟩|⟨t,rfl,rfl,h2⟩
  ·exact Eh ha hz hs hne h2 h3 h4 ht hl k
  ·exact B2 ha hz hs h2 (by rw[ht];simp only[aem,cJ,abi]) hl k
noncomputable def fo:List (List Nat):=[[],[32],[32,33,32,114,101,109,97,114,107],[32,32,33]]
theorem B3(ha:gj text)(hz:text.length<=ai)(ht:text=pre++tl)(hm:tl∈fo):nu row text pre.length acc []:=by
 simp only[fo,j3,eP,or_false]at hm;rcases hm with rfl|rfl|rfl|rfl
 ·exact Fq hz (by rw[ht,bP])
 ·exact gO ha hz (by rw[ht];exact eO) (Fq hz (by rw[ht];simp))
 ·exact gO ha hz (by rw[ht];exact eO) (vH ha hz (by rw[ht];exact nY))
 ·refine gO ha hz (by rw[ht];exact eO) (gO ha hz (by rw[ht];exact nY) (vH ha hz ?_));rw[ht,eM (by exact Us)];have:pre.length+1+1-pre.length=2:=by exact Ux
  rw[this];rfl
theorem Mt{x:List Nat} : an sep [x]=x:=rfl
theorem Mu{x y:List Nat}{r:List (List Nat)} : an sep (x::y::r)=x++sep++an sep (y::r):=rfl
theorem Ej(hm:tl∈fo):tl=[]\/∃ r,tl=32::r:=by
 simp only[fo,j3,eP,or_false]at hm;rcases hm with rfl|rfl|rfl|rfl<;>simp
theorem B4{sep tl:List Nat}(hO:sep=[32]\/sep=[32,32])(hm:tl∈fo)(ha:gj text)(hz:text.length<=ai):∀ (ts:List (List Nat×V)) (pre:List Nat) (acc:List V),(∀ x∈ts,pz x.1 x.2)->acc.length+ts.length<=ai->text=pre++(an sep (ts.map (·.1))++tl)->nu row text pre.length acc (ts.map (·.2))
 | [],pre,acc,_,_,ht=>B3 ha hz ht hm
 | [x],pre,acc,hx,hl,ht=>by
  simp only[cx,dv]at hl;exact Fs ha hz (Ej hm) ht (by exact Fx ‹_›) (hx x aW) (B3 ha hz (by rw[ht];simp[Mt]) hm)
 | x::y::ts,pre,acc,hx,hl,ht=>by
  simp only[cx]at hl;have ht:text=pre++(x.1++(sep++(an sep ((y::ts).map (·.1))++tl))):=by rw[ht];simp[Mu]
  refine Fs ha hz ?_ ht (by exact Fx ‹_›) (hx x aW) ?_
  ·rcases hO with rfl|rfl<;>simp
  ·generalize(B4 hO hm ha hz (y::ts) (pre++x.1++sep) (acc++[x.2]) (fun z m=>hx z (bG _ m)) (by simp;exact MW ‹_›) (by rw[ht];simp))=ih;generalize(fun _ h=>h:∀ s,text[(pre++x.1).length]?=some 32\/s->text[(pre++x.1).length]?=some 32\/s)=g;rcases hO with rfl|rfl
   ·refine gO ha hz (by rw[ht,<- cJ];exact eO) ?_;rw[bv]at ih;exact ih
   ·refine gO ha hz (by rw[ht,<- cJ];exact eO) (gO ha hz (by rw[ht,<- cJ];exact nY) ?_);rw[bv]at ih;exact ih
theorem nw{pfx:List Nat}{ts:List (List Nat×V)}(hO:sep=[32]\/sep=[32,32])(hm:tl∈fo)(hp:pfx=[]\/pfx=[32])(hx:∀ x∈ts,pz x.1 x.2)(hc:V.cleans (ts.map (·.2))=true)
  (ha:gj (pfx++(an sep (ts.map (·.1))++tl))) (hz:(pfx++(an sep (ts.map (·.1))++tl)).length<4096) (hl:ts.length<=100):br [.str (pfx++(an sep (ts.map (·.1))++tl)),.int row] O= .ok (.lst (ts.map (·.2)),O):=by
 have wD:(pfx++(an sep (ts.map (·.1))++tl)).length<=ai:=by have:ai=100000:=rfl;exact Uo ‹_› ‹_›
 generalize(B4 (row:=row) hO hm ha wD ts pfx [] hx (by have:ai=100000:=rfl;simp;exact Un ‹_› ‹_›) rfl)=k;refine zH hc ?_;have ht:lN=4096:=rfl;rcases hp with rfl|rfl
 ·exact k lN (by rw[ht];assumption)
 ·exact gO ha wD (by rfl) k lN (by rw[ht];assumption)
end
theorem zJ{l:List Nat}(h:l∈[[],[33,32,110,111,116,104,105,110,103],[32,32,32],[32,32,33,32,34,32,115,116,97,121,115,32,111,112,101,110]]):br [.str l,.int row] O= .ok (.lst [],O):=by
 simp only[j3,eP,or_false]at h;rcases h with rfl|rfl|rfl|rfl<;>exact bz (τ:=[]) (by rfl')
noncomputable def dp(k:Nat)(O:U):Prop:=∃ a b:Int,O[k]?=some (.list [.int a,.int b])/\0<=b/\b<2147483647
noncomputable def Stp(k:Nat)(O ar:U):Prop:=dp k ar/\ar.length=O.length/\∀ i,i≠k->ar[i]?=O[i]?
section
variable{Nx:U}
theorem Stp.trans(x:Stp k O ar)(y:Stp k ar Nx):Stp k O Nx:=⟨y.1,y.2.1.trans x.2.1,fun i h=>(y.2.2 i h).trans (x.2.2 i h)⟩
theorem Stp.refl(x:dp k O):Stp k O O:=⟨x,rfl,fun _ _=>rfl⟩
theorem Ek{a b:Int}(h:O[k]?=some (.list [.int a,.int b])):bC (.ref k) (.int 0) O=some (.int a):=by
 delta bC;dsimp only;rw[h];rfl
theorem vI{a b:Int}(h:O[k]?=some (.list [.int a,.int b])):bC (.ref k) (.int 1) O=some (.int b):=by
 delta bC;dsimp only;rw[h];rfl
theorem G6{a b x:Int}(h:O[k]?=some (.list [.int a,.int b])):cW (.ref k) (.int 0) (.int x) O=some (O.set k (.list [.int x,.int b])):=by
 delta cW;dsimp only;rw[if_pos (show V.clean (.int x)=true from rfl),h];rfl
theorem G7{a b x:Int}(h:O[k]?=some (.list [.int a,.int b])):cW (.ref k) (.int 1) (.int x) O=some (O.set k (.list [.int a,.int x])):=by
 delta cW;dsimp only;rw[if_pos (show V.clean (.int x)=true from rfl),h];rfl
theorem rJ{x y:Int}(h:0<y/\y<2 ^ 64):b9 .Mod (.int x) (.int y)=some (.int (x.fmod y)):=if_pos h
theorem Kb{x y:Int}(h:0<y/\y<2 ^ 29):b9 .FloorDiv (.int x) (.int y)=some (.int (x.fdiv y)):=if_pos h
theorem El{x y:Int}(h:-(2 ^ 64)<x/\x<2 ^ 64):b9 .Mult (.int x) (.int y)=some (.int (x*y)):=if_pos h
theorem jV{x y:Int}(h:0<y):0<=x.fmod y/\x.fmod y<y:=⟨Int.fmod_nonneg_of_pos x h,Int.fmod_lt_of_pos x h⟩
theorem B5{a b:Int}(h:k<O.length)(h1:0<=b)(h2:b<2147483647):Stp k O (O.set k (.list [.int a,.int b])) :=
 ⟨⟨a,b,by simp[h],h1,h2⟩,by simp,fun i hi=>by rw[abH (Ne.symm hi)]⟩
theorem nx{top:Int}(hs:dp k O)(ht:0<top)(Ei:top<2 ^ 29):∃ (d:Nat) (ar:U),aM [.ref k,.int top] O= .ok (.int d,ar)/\Stp k O ar/\(d:Int)<top:=by
 obtain⟨a,b,h,h1,h2⟩:=hs;generalize((iQ h).1:k<O.length)=hk;generalize(⟨ht,by exact RQ ‹_›⟩:0<top/\top<2 ^ 64)=TU;generalize(⟨ht,Ei⟩:0<top/\top<2 ^ 29)=Wz;generalize(fun x=>@jV x top ht)=fm;unfold aM;generalize(Ek h)=i0;by_cases ha:a>0
 ·generalize((fm a)).1=f1;generalize((fm a)).2=f2;refine⟨(a.fmod top).toNat,O.set k (.list [.int (a.fdiv top),.int b]),?_,B5 hk h1 h2,(Zh f1).symm▸f2⟩;rw[Zh f1];generalize(rJ (x:=a) TU)=m;generalize(Kb (x:=a) Wz)=d;generalize(G6 (x:=a.fdiv top) h)=p;exact aX [vO i0,.t true,vO i0,vO m,vO i0,vO d,kO p] (by rfl') fun z=>A i0 (A (dT ha) (A i0 (A m (A i0 (A d (A p z))))))
 ·generalize(⟨by exact PE ‹_›,by exact PG ‹_›⟩:-(2 ^ 64)<b/\b<2 ^ 64)=hb;generalize((@jV (b*39373+7) 2147483647 (by decide))).1=g1;generalize((@jV (b*39373+7) 2147483647 (by decide))).2=g2;generalize(El (y:=39373) hb)=u;generalize(rJ (x:=b*39373+7) (y:=2147483647) ⟨by decide,by decide⟩)=v;generalize(b*39373+7).fmod 2147483647=b' at g1 g2 v;generalize(⟨by exact PE ‹_›,by exact PG ‹_›⟩:-(2 ^ 64)<b'/\b'<2 ^ 64)=hx;generalize((fm (((b'*b').fmod 2147483629).fdiv 32))).1=f1;generalize((fm (((b'*b').fmod 2147483629).fdiv 32))).2=f2;generalize(abb hk:(O.set k (Cell.list [.int a,.int b']))[k]?=some (.list [.int a,.int b']))=h';refine⟨((((b'*b').fmod 2147483629).fdiv 32).fmod top).toNat,O.set k (.list [.int a,.int b']),?_,B5 hk g1 g2,(Zh f1).symm▸f2⟩;rw[Zh f1];generalize(vI h)=i1;generalize(vI h')=Mv;generalize(G7 (x:=b') h)=p;generalize(El (y:=b') hx)=x;generalize(rJ (x:=b'*b') (y:=2147483629) ⟨by decide,by decide⟩)=y;generalize(Kb (x:=(b'*b').fmod 2147483629) (y:=32) ⟨by decide,by decide⟩)=d;generalize(rJ (x:=((b'*b').fmod 2147483629).fdiv 32) TU)=m;exact aX [vO i0,.t false,vO i1,vO u,vO v,kO p,vO Mv,vO Mv,vO x,vO y,vO d,vO m] (by rfl') fun z=>A i0 (A (dF ha) (A i1 (A u (A v (A p (A Mv (A Mv (A x (A y (A d (A m z)))))))))))
theorem gu(hs:dp k O)(hn:l≠[])(hl:l.length<=ai):∃ (v:V) (ar:U),aw [.ref k,.lst l] O= .ok (v,ar)/\Stp k O ar/\v∈l:=by
 generalize(List.length_pos_iff.mpr hn)=hp;have hc:ai=100000:=rfl;refine ab fun _ gG=>?_;obtain⟨d,ar,h1,h2,h3⟩:=nx (top:=l.length) hs (by exact RM ‹_›) (by exact Sc ‹_› ‹_›);refine gG ?_;clear gG
 have hd:d<l.length:=by exact PH ‹_›
 refine⟨l[d],ar,?_,h2,aa1 hd⟩;unfold aw;generalize(ll (O:=O) l hl)=l';generalize(lm (O:=ar) (fL hd) hl)=i;exact aX [vO l',cO h1,vO i] (by rfl') fun z=>A l' (A h1 (A i z))
end
structure cG where
 path:List Atom
 kind:V
 key:V
noncomputable def ak:Atom->List Nat
 | .int i=>aH i
 | .str l=>l
noncomputable abbrev wd(l:List Nat):V:=.tup [.str l,.bool false]
noncomputable def pathsL:List cG:=[
 ⟨[.str [104,111,115,116]],.tup [.str [110,97,109,101]],.tup [.int 0,.lst [],.int 0,.tup [.int 1,.int 0,.str [104,111,115,116]]]⟩,⟨[.str [98,114,105,100,103,101],.str [112,114,105,111,114,105,116,121]],.tup [.str [110,117,109,98,101,114],.int 0,.int 61440,.int 4096],.tup [.int 1,.lst [],.int 1,.tup [.int 1,.int 0,.str [112,114,105,111,114,105,116,121]]]⟩,⟨[.str [115,112,97,110,110,105,110,103],.str [109,111,100,101]],.tup [.str [119,111,114,100],.tup [.str [111,102,102],.str [111,108,100],.str [114,97,112,105,100],.str [109,115,116]]],.tup [.int 2,.lst [],.int 2,.tup [.int 1,.int 0,.str [109,111,100,101]]]⟩,⟨[.str [116,97,98,108,101],.str [97,103,101]],.tup [.str [110,117,109,98,101,114],.int 10,.int 1000000,.int 1],.tup [.int 10,.lst [],.int 10,.tup [.int 1,.int 0,.str [97,103,101]]]⟩,⟨[.str [108,108,100,112],.str [111,110]],.tup [.str [116,114,117,116,104]],.tup [.int 40,.lst [],.int 40,.tup [.int 1,.int 0,.str [111,110]]]⟩,⟨[.str [112,111,114,116],.int 1,.str [117,112]],.tup [.str [116,114,117,116,104]],.tup [.int 16,.lst [.tup [.int 0,.int 1,.str []]],.int 16,.tup [.int 1,.int 0,.str [117,112]]]⟩,⟨[.str [112,111,114,116],.int 1,.str [110,97,116,105,118,101]],.tup [.str [110,117,109,98,101,114],.int 0,.int 4094,.int 1],.tup [.int 16,.lst [.tup [.int 0,.int 1,.str []]],.int 19,.tup [.int 1,.int 0,.str [110,97,116,105,118,101]]]⟩,⟨[.str [112,111,114,116],.int 1,.str [116,97,103,103,101,100]],.tup [.str [110,117,109,98,101,114,115],.int 1,.int 4094],.tup [.int 16,.lst [.tup [.int 0,.int 1,.str []]],.int 20,.tup [.int 1,.int 0,.str [116,97,103,103,101,100]]]⟩,⟨[.str [112,111,114,116],.int 1,.str [110,97,109,101]],.tup [.str [116,101,120,116]],.tup [.int 16,.lst [.tup [.int 0,.int 1,.str []]],.int 18,.tup [.int 1,.int 0,.str [110,97,109,101]]]⟩,⟨[.str [118,108,97,110],.int 1,.str [107,105,110,100]],.tup [.str [119,111,114,100],.tup [.str [112,108,97,105,110],.str [112,114,105,109,97,114,121],.str [105,115,111,108,97,116,101,100],.str [99,111,109,109,117,110,105,116,121]]],.tup [.int 12,.lst [.tup [.int 0,.int 1,.str []]],.int 12,.tup [.int 1,.int 0,.str [107,105,110,100]]]⟩,⟨[.str [118,108,97,110],.int 1,.str [110,97,109,101]],.tup [.str [116,101,120,116]],.tup [.int 12,.lst [.tup [.int 0,.int 1,.str []]],.int 13,.tup [.int 1,.int 0,.str [110,97,109,101]]]⟩,⟨[.str [108,105,115,116],.str [105,110],.int 1],.tup [.str [116,101,120,116]],.tup [.int 35,.lst [.tup [.int 1,.int 0,.str [105,110]]],.int 35,.tup [.int 0,.int 1,.str []]]⟩,⟨[.str [108,105,115,116],.str [49,48],.int 1],.tup [.str [116,101,120,116]],.tup [.int 35,.lst [.tup [.int 1,.int 0,.str [49,48]]],.int 35,.tup [.int 0,.int 1,.str []]]⟩,⟨[.str [112,111,114,116],.int 2,.str [117,112]],.tup [.str [116,114,117,116,104]],.tup [.int 16,.lst [.tup [.int 0,.int 2,.str []]],.int 16,.tup [.int 1,.int 0,.str [117,112]]]⟩,⟨[.str [112,111,114,116],.int 2,.str [110,97,116,105,118,101]],.tup [.str [110,117,109,98,101,114],.int 0,.int 4094,.int 1],.tup [.int 16,.lst [.tup [.int 0,.int 2,.str []]],.int 19,.tup [.int 1,.int 0,.str [110,97,116,105,118,101]]]⟩,⟨[.str [112,111,114,116],.int 2,.str [116,97,103,103,101,100]],.tup [.str [110,117,109,98,101,114,115],.int 1,.int 4094],.tup [.int 16,.lst [.tup [.int 0,.int 2,.str []]],.int 20,.tup [.int 1,.int 0,.str [116,97,103,103,101,100]]]⟩,⟨[.str [112,111,114,116],.int 2,.str [110,97,109,101]],.tup [.str [116,101,120,116]],.tup [.int 16,.lst [.tup [.int 0,.int 2,.str []]],.int 18,.tup [.int 1,.int 0,.str [110,97,109,101]]]⟩,⟨[.str [118,108,97,110],.int 2,.str [107,105,110,100]],.tup [.str [119,111,114,100],.tup [.str [112,108,97,105,110],.str [112,114,105,109,97,114,121],.str [105,115,111,108,97,116,101,100],.str [99,111,109,109,117,110,105,116,121]]],.tup [.int 12,.lst [.tup [.int 0,.int 2,.str []]],.int 12,.tup [.int 1,.int 0,.str [107,105,110,100]]]⟩,⟨[.str [118,108,97,110],.int 2,.str [110,97,109,101]],.tup [.str [116,101,120,116]],.tup [.int 12,.lst [.tup [.int 0,.int 2,.str []]],.int 13,.tup [.int 1,.int 0,.str [110,97,109,101]]]⟩,⟨[.str [108,105,115,116],.str [105,110],.int 2],.tup [.str [116,101,120,116]],.tup [.int 35,.lst [.tup [.int 1,.int 0,.str [105,110]]],.int 35,.tup [.int 0,.int 2,.str []]]⟩,⟨[.str [108,105,115,116],.str [49,48],.int 2],.tup [.str [116,101,120,116]],.tup [.int 35,.lst [.tup [.int 1,.int 0,.str [49,48]]],.int 35,.tup [.int 0,.int 2,.str []]]⟩,⟨[.str [112,111,114,116],.int 512,.str [117,112]],.tup [.str [116,114,117,116,104]],.tup [.int 16,.lst [.tup [.int 0,.int 512,.str []]],.int 16,.tup [.int 1,.int 0,.str [117,112]]]⟩,⟨[.str [112,111,114,116],.int 512,.str [110,97,116,105,118,101]],.tup [.str [110,117,109,98,101,114],.int 0,.int 4094,.int 1],.tup [.int 16,.lst [.tup [.int 0,.int 512,.str []]],.int 19,.tup [.int 1,.int 0,.str [110,97,116,105,118,101]]]⟩,⟨[.str [112,111,114,116],.int 512,.str [116,97,103,103,101,100]],.tup [.str [110,117,109,98,101,114,115],.int 1,.int 4094],.tup [.int 16,.lst [.tup [.int 0,.int 512,.str []]],.int 20,.tup [.int 1,.int 0,.str [116,97,103,103,101,100]]]⟩,⟨[.str [112,111,114,116],.int 512,.str [110,97,109,101]],.tup [.str [116,101,120,116]],.tup [.int 16,.lst [.tup [.int 0,.int 512,.str []]],.int 18,.tup [.int 1,.int 0,.str [110,97,109,101]]]⟩,⟨[.str [118,108,97,110],.int 512,.str [107,105,110,100]],.tup [.str [119,111,114,100],.tup [.str [112,108,97,105,110],.str [112,114,105,109,97,114,121],.str [105,115,111,108,97,116,101,100],.str [99,111,109,109,117,110,105,116,121]]],.tup [.int 12,.lst [.tup [.int 0,.int 512,.str []]],.int 12,.tup [.int 1,.int 0,.str [107,105,110,100]]]⟩,⟨[.str [118,108,97,110],.int 512,.str [110,97,109,101]],.tup [.str [116,101,120,116]],.tup [.int 12,.lst [.tup [.int 0,.int 512,.str []]],.int 13,.tup [.int 1,.int 0,.str [110,97,109,101]]]⟩,⟨[.str [108,105,115,116],.str [105,110],.int 512],.tup [.str [116,101,120,116]],.tup [.int 35,.lst [.tup [.int 1,.int 0,.str [105,110]]],.int 35,.tup [.int 0,.int 512,.str []]]⟩,⟨[.str [108,105,115,116],.str [49,48],.int 512],.tup [.str [116,101,120,116]],.tup [.int 35,.lst [.tup [.int 1,.int 0,.str [49,48]]],.int 35,.tup [.int 0,.int 512,.str []]]⟩]
theorem l8{P:cG->Prop}(h0:P ⟨[.str [104,111,115,116]],.tup [.str [110,97,109,101]],.tup [.int 0,.lst [],.int 0,.tup [.int 1,.int 0,.str [104,111,115,116]]]⟩)(h1:P ⟨[.str [98,114,105,100,103,101],.str [112,114,105,111,114,105,116,121]],.tup [.str [110,117,109,98,101,114],.int 0,.int 61440,.int 4096],.tup [.int 1,.lst [],.int 1,.tup [.int 1,.int 0,.str [112,114,105,111,114,105,116,121]]]⟩)(h2:P ⟨[.str [115,112,97,110,110,105,110,103],.str [109,111,100,101]],.tup [.str [119,111,114,100],.tup [.str [111,102,102],.str [111,108,100],.str [114,97,112,105,100],.str [109,115,116]]],.tup [.int 2,.lst [],.int 2,.tup [.int 1,.int 0,.str [109,111,100,101]]]⟩)(h3:P ⟨[.str [116,97,98,108,101],.str [97,103,101]],.tup [.str [110,117,109,98,101,114],.int 10,.int 1000000,.int 1],.tup [.int 10,.lst [],.int 10,.tup [.int 1,.int 0,.str [97,103,101]]]⟩)(h4:P ⟨[.str [108,108,100,112],.str [111,110]],.tup [.str [116,114,117,116,104]],.tup [.int 40,.lst [],.int 40,.tup [.int 1,.int 0,.str [111,110]]]⟩)(h5:P ⟨[.str [112,111,114,116],.int 1,.str [117,112]],.tup [.str [116,114,117,116,104]],.tup [.int 16,.lst [.tup [.int 0,.int 1,.str []]],.int 16,.tup [.int 1,.int 0,.str [117,112]]]⟩)(h6:P ⟨[.str [112,111,114,116],.int 1,.str [110,97,116,105,118,101]],.tup [.str [110,117,109,98,101,114],.int 0,.int 4094,.int 1],.tup [.int 16,.lst [.tup [.int 0,.int 1,.str []]],.int 19,.tup [.int 1,.int 0,.str [110,97,116,105,118,101]]]⟩)(h7:P ⟨[.str [112,111,114,116],.int 1,.str [116,97,103,103,101,100]],.tup [.str [110,117,109,98,101,114,115],.int 1,.int 4094],.tup [.int 16,.lst [.tup [.int 0,.int 1,.str []]],.int 20,.tup [.int 1,.int 0,.str [116,97,103,103,101,100]]]⟩)(h8:P ⟨[.str [112,111,114,116],.int 1,.str [110,97,109,101]],.tup [.str [116,101,120,116]],.tup [.int 16,.lst [.tup [.int 0,.int 1,.str []]],.int 18,.tup [.int 1,.int 0,.str [110,97,109,101]]]⟩)(h9:P ⟨[.str [118,108,97,110],.int 1,.str [107,105,110,100]],.tup [.str [119,111,114,100],.tup [.str [112,108,97,105,110],.str [112,114,105,109,97,114,121],.str [105,115,111,108,97,116,101,100],.str [99,111,109,109,117,110,105,116,121]]],.tup [.int 12,.lst [.tup [.int 0,.int 1,.str []]],.int 12,.tup [.int 1,.int 0,.str [107,105,110,100]]]⟩)(SX:P ⟨[.str [118,108,97,110],.int 1,.str [110,97,109,101]],.tup [.str [116,101,120,116]],.tup [.int 12,.lst [.tup [.int 0,.int 1,.str []]],.int 13,.tup [.int 1,.int 0,.str [110,97,109,101]]]⟩)(XJ:P ⟨[.str [108,105,115,116],.str [105,110],.int 1],.tup [.str [116,101,120,116]],.tup [.int 35,.lst [.tup [.int 1,.int 0,.str [105,110]]],.int 35,.tup [.int 0,.int 1,.str []]]⟩)(XK:P ⟨[.str [108,105,115,116],.str [49,48],.int 1],.tup [.str [116,101,120,116]],.tup [.int 35,.lst [.tup [.int 1,.int 0,.str [49,48]]],.int 35,.tup [.int 0,.int 1,.str []]]⟩)(XM:P ⟨[.str [112,111,114,116],.int 2,.str [117,112]],.tup [.str [116,114,117,116,104]],.tup [.int 16,.lst [.tup [.int 0,.int 2,.str []]],.int 16,.tup [.int 1,.int 0,.str [117,112]]]⟩)(XN:P ⟨[.str [112,111,114,116],.int 2,.str [110,97,116,105,118,101]],.tup [.str [110,117,109,98,101,114],.int 0,.int 4094,.int 1],.tup [.int 16,.lst [.tup [.int 0,.int 2,.str []]],.int 19,.tup [.int 1,.int 0,.str [110,97,116,105,118,101]]]⟩)(XO:P ⟨[.str [112,111,114,116],.int 2,.str [116,97,103,103,101,100]],.tup [.str [110,117,109,98,101,114,115],.int 1,.int 4094],.tup [.int 16,.lst [.tup [.int 0,.int 2,.str []]],.int 20,.tup [.int 1,.int 0,.str [116,97,103,103,101,100]]]⟩)(XQ:P ⟨[.str [112,111,114,116],.int 2,.str [110,97,109,101]],.tup [.str [116,101,120,116]],.tup [.int 16,.lst [.tup [.int 0,.int 2,.str []]],.int 18,.tup [.int 1,.int 0,.str [110,97,109,101]]]⟩)(XR:P ⟨[.str [118,108,97,110],.int 2,.str [107,105,110,100]],.tup [.str [119,111,114,100],.tup [.str [112,108,97,105,110],.str [112,114,105,109,97,114,121],.str [105,115,111,108,97,116,101,100],.str [99,111,109,109,117,110,105,116,121]]],.tup [.int 12,.lst [.tup [.int 0,.int 2,.str []]],.int 12,.tup [.int 1,.int 0,.str [107,105,110,100]]]⟩)(XS:P ⟨[.str [118,108,97,110],.int 2,.str [110,97,109,101]],.tup [.str [116,101,120,116]],.tup [.int 12,.lst [.tup [.int 0,.int 2,.str []]],.int 13,.tup [.int 1,.int 0,.str [110,97,109,101]]]⟩)(XT:P ⟨[.str [108,105,115,116],.str [105,110],.int 2],.tup [.str [116,101,120,116]],.tup [.int 35,.lst [.tup [.int 1,.int 0,.str [105,110]]],.int 35,.tup [.int 0,.int 2,.str []]]⟩)(XU:P ⟨[.str [108,105,115,116],.str [49,48],.int 2],.tup [.str [116,101,120,116]],.tup [.int 35,.lst [.tup [.int 1,.int 0,.str [49,48]]],.int 35,.tup [.int 0,.int 2,.str []]]⟩)(XV:P ⟨[.str [112,111,114,116],.int 512,.str [117,112]],.tup [.str [116,114,117,116,104]],.tup [.int 16,.lst [.tup [.int 0,.int 512,.str []]],.int 16,.tup [.int 1,.int 0,.str [117,112]]]⟩)(XW:P ⟨[.str [112,111,114,116],.int 512,.str [110,97,116,105,118,101]],.tup [.str [110,117,109,98,101,114],.int 0,.int 4094,.int 1],.tup [.int 16,.lst [.tup [.int 0,.int 512,.str []]],.int 19,.tup [.int 1,.int 0,.str [110,97,116,105,118,101]]]⟩)(wy:P ⟨[.str [112,111,114,116],.int 512,.str [116,97,103,103,101,100]],.tup [.str [110,117,109,98,101,114,115],.int 1,.int 4094],.tup [.int 16,.lst [.tup [.int 0,.int 512,.str []]],.int 20,.tup [.int 1,.int 0,.str [116,97,103,103,101,100]]]⟩)(XX:P ⟨[.str [112,111,114,116],.int 512,.str [110,97,109,101]],.tup [.str [116,101,120,116]],.tup [.int 16,.lst [.tup [.int 0,.int 512,.str []]],.int 18,.tup [.int 1,.int 0,.str [110,97,109,101]]]⟩)(XY:P ⟨[.str [118,108,97,110],.int 512,.str [107,105,110,100]],.tup [.str [119,111,114,100],.tup [.str [112,108,97,105,110],.str [112,114,105,109,97,114,121],.str [105,115,111,108,97,116,101,100],.str [99,111,109,109,117,110,105,116,121]]],.tup [.int 12,.lst [.tup [.int 0,.int 512,.str []]],.int 12,.tup [.int 1,.int 0,.str [107,105,110,100]]]⟩)(XZ:P ⟨[.str [118,108,97,110],.int 512,.str [110,97,109,101]],.tup [.str [116,101,120,116]],.tup [.int 12,.lst [.tup [.int 0,.int 512,.str []]],.int 13,.tup [.int 1,.int 0,.str [110,97,109,101]]]⟩)(X0:P ⟨[.str [108,105,115,116],.str [105,110],.int 512],.tup [.str [116,101,120,116]],.tup [.int 35,.lst [.tup [.int 1,.int 0,.str [105,110]]],.int 35,.tup [.int 0,.int 512,.str []]]⟩)(X1:P ⟨[.str [108,105,115,116],.str [49,48],.int 512],.tup [.str [116,101,120,116]],.tup [.int 35,.lst [.tup [.int 1,.int 0,.str [49,48]]],.int 35,.tup [.int 0,.int 512,.str []]]⟩):∀ x∈pathsL,P x:=fun x m=>by
 unfold pathsL at m;simp only[j3,eP,or_false]at m;rcases m with rfl|rfl|rfl|rfl|rfl|rfl|rfl|rfl|rfl|rfl|rfl|rfl|rfl|rfl|rfl|rfl|rfl|rfl|rfl|rfl|rfl|rfl|rfl|rfl|rfl|rfl|rfl|rfl|rfl<;>assumption
theorem B6(row:Int):∀ x∈pathsL,iZ [.lst (x.path.map fun a=>wd (ak a)),.int row] []= .ok (aC x.path,[]) :=
 l8 (by rfl') (by rfl') (by rfl') (by rfl') (by rfl') (by rfl') (by rfl') (by rfl') (by rfl') (by rfl') (by rfl') (by rfl') (by rfl') (by rfl') (by rfl') (by rfl') (by rfl') (by rfl') (by rfl') (by rfl') (by rfl') (by rfl') (by rfl') (by rfl') (by rfl') (by rfl') (by rfl') (by rfl') (by rfl')
theorem sU:∀ x∈pathsL,cF [aC x.path] []= .ok (x.kind,[]) :=
 l8 (by rfl') (by rfl') (by rfl') (by rfl') (by rfl') (by rfl') (by rfl') (by rfl') (by rfl') (by rfl') (by rfl') (by rfl') (by rfl') (by rfl') (by rfl') (by rfl') (by rfl') (by rfl') (by rfl') (by rfl') (by rfl') (by rfl') (by rfl') (by rfl') (by rfl') (by rfl') (by rfl') (by rfl') (by rfl')
theorem Em:∀ x∈pathsL,bN [aC x.path] []= .ok (x.key,[]) :=
 l8 (by rfl') (by rfl') (by rfl') (by rfl') (by rfl') (by rfl') (by rfl') (by rfl') (by rfl') (by rfl') (by rfl') (by rfl') (by rfl') (by rfl') (by rfl') (by rfl') (by rfl') (by rfl') (by rfl') (by rfl') (by rfl') (by rfl') (by rfl') (by rfl') (by rfl') (by rfl') (by rfl') (by rfl') (by rfl')
theorem Kc:(pathsL.all fun x=>vb x.key&&pathsL.all fun y=>(LW x.key y.key).isSome)=true:=by rfl'
noncomputable def jW(c:Nat):Prop:=32<=c/\c<=126
theorem Ft{a:Nat} : av .LtE (.str [a]) (.str [b]) O=some (decide (a<=b)):=by
 show some (pL [a] [b])=_;simp only[pL];by_cases h:a<b
 ·rw[if_pos h];simp;exact UE ‹_›
 ·rw[if_neg h];by_cases h2:a=b
  ·rw[if_pos h2];simp;exact PC ‹_›
  ·rw[if_neg h2];simp;exact PI ‹_› ‹_›
noncomputable abbrev WA:Expr:=eL (vv (kD (aZ "is_plain_text").body 1))
theorem B7{t:List Nat}(h:∀ c∈t,jW c):mC lh 56 (aZ "is_plain_text") WA [(S ".0",none),(S "sign",none)] (t.map fun c=>.str [c]) O= .ok ([],O) :=
 BS (fun o=>[(S ".0",none),(S "sign",o)]) (fun v o=>by rfl') fun v m=>by
  obtain⟨c,hc,rfl⟩:=iP m;generalize(h c hc)=hc;generalize(Ft (O:=O) (a:=32) (b:=c))=e1;generalize(Ft (O:=O) (a:=c) (b:=126))=e2;exact iM [bO e1,.t true,bO e2,.t false] (by rfl') fun z=>A e1 (A (dT hc.1) (A e2 (A (nF hc.2) z)))
theorem i7(l:List V):av .Eq (.lst l) (.lst []) O=some l.isEmpty:=rfl
theorem Kd(t:List Nat):fx (.str t) "str"=some true:=by rfl'
theorem G8{t:List Nat}(h:∀ c∈t,jW c)(hl:t.length<=120):hH [.str t] O= .ok (.bool true,O):=by
 generalize(bL hl (by decide):t.length<=ai)=hz;have i:gI (S "isinstance") [.str t,.typ "str"] []=some (.bool true):=by rfl'
 generalize(nq (O:=[]) _ hz)=l;generalize(fun z=>absurd (Int.ofNat_lt.mp z) (Nat.not_lt.mpr hl):¬(((t.length:Nat):Int)>120))=hg;generalize(ki (by rw[bR];exact hz) (B7 (O:=[]) h))=c;generalize(rfl:av .Eq (.lst []) (.lst []) ([]:U)=some true)=e;exact i6 (v:=.bool true) (τ:=[]) rfl (aX [vO i,.t false,vO l,.t false,lO c,bO e] (by rfl') fun z=>A i (A ff (A l (A (dF hg) (A c (A e z)))))) rfl rfl
theorem kw{a b:List Nat}(r:Bool)(h:av .Eq (.str a) (.str b) O=some r):av .Eq (.str a) (.str b) O=some r:=h
theorem En{t:List Nat}(h:∀ c∈t,jW c)(hl:t.length<=120):dk [.tup [.str [116,101,120,116]],.str t] O= .ok (.bool true,O):=by
 have i:bC (.tup [.str [116,101,120,116]]) (.int 0) ([]:U)=some (.str [116,101,120,116]):=by rfl'
 have f:∀ w∈[[116,114,117,116,104],[110,117,109,98,101,114],[119,111,114,100],[110,97,109,101]],av .Eq (.str [116,101,120,116]) (.str w) ([]:U)=some false:=by
  simp only[aam,eP,false_implies,implies_true,and_true];exact⟨by rfl',by rfl',by rfl',by rfl'⟩
 have e:av .Eq (.str [116,101,120,116]) (.str [116,101,120,116]) ([]:U)=some true:=by rfl'
 generalize(G8 (O:=[]) h hl)=p;simp only[aam,eP,false_implies,implies_true,and_true]at f;generalize((f)).1=f1;generalize(((f)).2).1=f2;generalize((((f)).2).2).1=f3;generalize((((f)).2).2).2=f4;exact i6 (v:=.bool true) (τ:=[]) rfl (aX [vO i,bO f1,.t false,vO i,bO f2,.t false,vO i,bO f3,.t false,vO i,bO f4,.t false,vO i,bO e,.t true,cO p] (by rfl') fun z=>A i (A f1 (A ff (A i (A f2 (A ff (A i (A f3 (A ff (A i (A f4 (A ff (A i (A e (A tt (A p z)))))))))))))))) rfl rfl
noncomputable def tY(ns:List Int):Prop:=∀ (i:Nat) (a b:Int),ns[i]?=some a->ns[i+1]?=some b->a<b
noncomputable abbrev TV:Expr:=eL (vv (kD (aZ "is_ascending").body 0))
noncomputable abbrev O7(ns:List Int)(o:Option V):af:=[(S ".0",none),(S "at",o),(S "worth",some (.tup (ns.map .int)))]
theorem xY{O:U}{ns:List Int}(hr:tY ns)(hz:ns.length<=ai):∀ (n i:Nat) (o:Option V),i+1+n<=ns.length->mC jo 56 (aZ "is_ascending") TV (O7 ns o) (bc ((i+1:Nat):Int) n) O= .ok ([],O)
 | 0,i,o,_=>rfl
 | n+1,i,o,h=>by
  have h1:i+1<ns.length:=by exact Q9 ‹_›
  have hb:ns[i+1]?=some ns[i+1]:=fL h1;have ha:ns[i]?=some ns[i]:=fL (Nat.lt_of_succ_lt h1);have hm:(ns.map V.int).length<=ai:=by rw[bR];exact hz
  have i1:bC (.tup (ns.map V.int)) (.int ((i+1:Nat):Int)) O=some (.int ns[i+1]):=gN (by rw[Yt,hb];rfl) hm;have i2:bC (.tup (ns.map V.int)) (.int (((i+1:Nat):Int)-1)) O=some (.int ns[i]):=by
   rw[show((i+1:Nat):Int)-1=(i:Int)from acf (i:Int) 1];exact gN (by rw[Yt,ha];rfl) hm
  exact BR (bj:=O7 ns (some (.int ((i+1:Nat):Int)))) (by rfl') (iM [vO i1,vO i2,.t false] (by rfl') fun z=>A i1 (A i2 (A (dF (Int.not_le.mpr (hr i _ _ ha hb))) z))) (xY hr hz n (i+1) _ (by exact HF ‹_›))
theorem cY:∀ (n:Nat) (lo:Int),(bc lo n).length=n
 | 0,_=>rfl
 | n+1,lo=>by show(bc (lo+1) n).length+1=_;rw[cY n]
theorem Ke(hr:tY ns)(hz:ns.length<=1000):iC [.tup (ns.map .int)] O= .ok (.bool true,O):=by
 have hc:ai=100000:=rfl;have hm:(ns.map V.int).length<=ai:=by rw[bR];exact r3 ‹_› ‹_›
 have hcl:∀ l:List Int,V.cleans (l.map V.int)=true:=fun l=>by
  induction l with
  | nil=>rfl
  | cons a l ih=>exact ih
 have O8:mC jo 56 (aZ "is_ascending") TV (O7 ns none) (bc ((0+1:Nat):Int) (ns.length-1)) []= .ok ([],[]):=by
  rcases ns with _|⟨a,ns⟩
  ·rfl
  ·exact xY hr (bL hz (by decide)) _ 0 none (by rw[cx];exact P6)
 generalize(J2 (O:=[]) (ns.map V.int) hm)=l;have k:iF [.int 1,.int ((ns.map V.int).length:Nat)] []= .ok (bc ((0+1:Nat):Int) (ns.length-1),[]):=by
  rw[bR];exact vD ⟨by decide,by decide,Zp (aE hz) (by decide),r5⟩ (by congr 1;exact aa0 ns.length 1)
 have c:=ki (by rw[cY];exact bL (aak _ _) (lA hz rfl)) O8;generalize(rfl:av .Eq (.lst []) (.lst []) ([]:U)=some true)=e;exact i6 (v:=.bool true) (τ:=[]) (by show(V.cleans (ns.map V.int)&&true)=true;rw[hcl];rfl) (aX [vO l,lO k,lO c,bO e] (by rfl') fun z=>A l (A k (A c (A e z)))) rfl rfl
theorem Eo(i:Int):hG [.int i] O= .ok (.bool true,O):=bz (τ:=[]) (by rfl')
noncomputable abbrev WB:Expr:=eL (GY (ro (kF (kD (aZ "fits_kind").body 5))) 1)
theorem Ep(ns:List Int):mC qB 56 (aZ "fits_kind") WB [(S ".0",none),(S "one",none)] (ns.map .int) O= .ok ([],O) :=
 BS (fun o=>[(S ".0",none),(S "one",o)]) (fun v o=>by rfl') fun v m=>by
  obtain⟨n,hn,rfl⟩:=iP m;generalize(Eo (O:=O) n)=w;exact iM [cO w,.t false] (by rfl') fun z=>A w (A ff z)
theorem nE:∀ ns:List Int,V.toPys (ns.map .int)=some (ns.map PyData.int)
 | []=>rfl
 | n::ns=>by
  show((V.toPys (ns.map V.int)).map fun ds=>PyData.int n::ds)=_;rw[nE ns];rfl
theorem lv:∀ ns:List Int,Zr (ns.map .int)=true/\aa5 (ns.map .int)=0
 | []=>⟨rfl,rfl⟩
 | n::ns=>by
  generalize((lv ns)).1=a;generalize((lv ns)).2=b;refine⟨?_,?_⟩
  ·show(YX (.int n)&&Zr (ns.map .int))=true;rw[a];simp[YX]
  ·show max (ZT (.int n)) (aa5 (ns.map .int))=0;rw[b];simp[ZT]
theorem shaped_ints(ns:List Int):iI (.tuple (ns.map .int))=true:=by
 generalize((lv ns)).1=a;generalize((lv ns)).2=b;unfold iI;simp[YX,ZT,a,b]
theorem xZ(ns ms:List Int):fM (.tup (ns.map .int)) (.tup (ms.map .int))=some (Yz (.tuple (ns.map .int)) (.tuple (ms.map .int))):=by
 show((V.toPys (ns.map V.int)).map aeN).bind (fun da=>((V.toPys (ms.map V.int)).map aeN).bind fun db=>if iI da=true/\iI db=true then some (Yz da db)else none)=_;rw[nE,nE];simp only[ZM,cH];rw[if_pos ⟨shaped_ints ns,shaped_ints ms⟩]
theorem B8(ns:List Int):av .Eq (.tup (ns.map .int)) (.tup []) O=some ns.isEmpty:=by
 have:=xZ ns [];rw[afo]at this;show fM _ _=_;rw[this];cases ns<;>simp[Yz,aeB]
theorem Er(ns:List Int):fM (.tup (ns.map .int)) (.tup (ns.map .int))=some true:=by
 rw[xZ,SeqAt.eqv_refl _ ?_];exact(show YX (.tuple (ns.map .int))=true by simp[YX,(lv ns).1])
theorem dH(l:List Int):V.cleans (l.map V.int)=true:=by
 induction l with
 | nil=>rfl
 | cons a l ih=>exact ih
theorem wW{lo hi:Int}(hr:tY ns)(hz:ns.length<=1000)(hb:∀ n∈ns,lo<=n/\n<=hi):dk [.tup [.str [110,117,109,98,101,114,115],.int lo,.int hi],.tup (ns.map .int)] O= .ok (.bool true,O):=by
 have hc:ai=100000:=rfl;have hm:((ns.map V.int).length<=ai)↔True:=iff_true_intro (by rw[bR];exact r3 ‹_› ‹_›);have kd:bC (.tup [.str [110,117,109,98,101,114,115],.int lo,.int hi]) (.int 0) ([]:U)=some (.str [110,117,109,98,101,114,115]):=by rfl'
 have k1:bC (.tup [.str [110,117,109,98,101,114,115],.int lo,.int hi]) (.int 1) ([]:U)=some (.int lo):=by rfl'
 have k2:bC (.tup [.str [110,117,109,98,101,114,115],.int lo,.int hi]) (.int 2) ([]:U)=some (.int hi):=by rfl'
 have f:∀ w∈[[116,114,117,116,104],[110,117,109,98,101,114],[119,111,114,100],[110,97,109,101],[116,101,120,116]],av .Eq (.str [110,117,109,98,101,114,115]) (.str w) ([]:U)=some false:=by
  simp only[aam,eP,false_implies,implies_true,and_true];exact⟨by rfl',by rfl',by rfl',by rfl',by rfl'⟩
 simp only[aam,eP,false_implies,implies_true,and_true]at f;generalize((f)).1=f1;generalize(((f)).2).1=f2;generalize((((f)).2).2).1=f3;generalize(((((f)).2).2).2).1=f4;generalize(((((f)).2).2).2).2=f5;have ii:gI (S "isinstance") [.tup (ns.map .int),.typ "tuple"] []=some (.bool true):=by rfl'
 have c:=ki (by rw[bR];exact r3 ‹_› ‹_›) (Ep (O:=[]) ns);generalize(rfl:av .NotEq (.lst []) (.lst []) ([]:U)=some false)=e;generalize(Ke (O:=[]) hr hz)=a;have en:=B8 (O:=[]) ns;refine i6 (v:=.bool true) (τ:=[]) (by show(_&&(V.cleans (ns.map V.int)&&true))=true;rw[dH];rfl) ?_ rfl rfl;rcases abr ns with rfl|⟨ms,z,rfl⟩
 ·exact aX [vO kd,bO f1,.t false,vO kd,bO f2,.t false,vO kd,bO f3,.t false,vO kd,bO f4,.t false,vO kd,bO f5,.t false,vO ii,.t false,lO c,bO e,.t false,cO a,.t true,bO en,.t true] (by rfl') fun z=>A kd (A f1 (A ff (A kd (A f2 (A ff (A kd (A f3 (A ff (A kd (A f4 (A ff (A kd (A f5 (A ff (A ii (A ff (A c (A e (A ff (A a (A tt (A en (A tt z)))))))))))))))))))))))
 ·rw[abv]at *;have z2:=(hb z (aq _ aW)).2;have hl:bC (.tup ((ms++[z]).map V.int)) (.int (-1)) ([]:U)=some (.int z):=by
   show mx ((ms++[z]).map V.int) (-1)=_;rw[mf];exact nW (by simp only[bv,bR,cx,dv]at hz ⊢;exact r3 ‹_› ‹_›)
  obtain⟨a0,ha⟩:∃ a,(ms++[z])[0]?=some a:=by cases ms<;>exact⟨_,rfl⟩
  generalize((hb a0 (fU ha)).1)=a1;generalize(gN (i:=0) (by rw[Yt,ha];rfl) (of_iff_true hm):bC (.tup ((ms++[z]).map V.int)) (.int 0) ([]:U)=some (.int a0))=h0;rw[show(ms++[z]).isEmpty=false from by cases ms<;>rfl]at en;exact aX [vO kd,bO f1,.t false,vO kd,bO f2,.t false,vO kd,bO f3,.t false,vO kd,bO f4,.t false,vO kd,bO f5,.t false,vO ii,.t false,lO c,bO e,.t false,cO a,.t true,bO en,.t false,vO k1,vO h0,.t true,vO hl,vO k2] (by rfl') fun _=>A kd (A f1 (A ff (A kd (A f2 (A ff (A kd (A f3 (A ff (A kd (A f4 (A ff (A kd (A f5 (A ff (A ii (A ff (A c (A e (A ff (A a (A tt (A en (A ff (A k1 (A h0 (A (dT a1) (A hl (A k2 (congrArg (fun b=>(R.ok (V.bool b,[]):R (V×U))) (dT z2))))))))))))))))))))))))))))))
section
set_option tactic.hygienic true
noncomputable def nZ(lo:Int):Nat->List Int
 | 0=>[]
 | n+1=>lo::nZ (lo+1) n
theorem hU:∀ (n:Nat) (lo:Int),bc lo n=(nZ lo n).map .int
 | 0,_=>rfl
 | n+1,lo=>by show V.int lo::bc (lo+1) n=_;rw[hU n];rfl
theorem i8:∀ (n:Nat) (lo:Int),(nZ lo n).length=n
 | 0,_=>rfl
 | n+1,lo=>by show(nZ (lo+1) n).length+1=_;rw[i8 n]
theorem gQ:∀ (n:Nat) (lo:Int) (i:Nat) (a:Int),(nZ lo n)[i]?=some a->a=lo+i/\i<n
 | 0,lo,i,a,h=>nn h
 | n+1,lo,0,a,h=>by have h:lo=a:=si h;exact Ro ‹_›
 | n+1,lo,i+1,a,h=>by
  have:=gQ n (lo+1) i a h;exact RI ‹_›
structure Pc where
 lo:Nat
 hi:Nat
 one:Bool
noncomputable def dQ(p:Pc):List Nat:=if p.one=true/\p.lo=p.hi then aH p.lo else aH p.lo++45::aH p.hi
noncomputable def gk(p:Pc):List Int:=nZ p.lo (p.hi+1-p.lo)
noncomputable def b6(ps:List Pc):List Int:=ps.flatMap gk
noncomputable def d7(ps:List Pc):List Nat:=if ps=[]then[110,111,110,101]else an [44] (ps.map dQ)
noncomputable def gC:Nat->List Pc->Prop
 | _,[]=>True
 | last,p::ps=>last<p.lo/\p.lo<=p.hi/\p.hi<=p.lo+5/\p.hi<64/\gC p.hi ps
noncomputable def Mw(row:Int)(n:Nat):Bool:=(match dL [.str (aH n),.int row] []with
  | .ok (.int m,[])=>decide (m=n)
  | _=>false)&&!(aH n).isEmpty&&(aH n).all fN&&decide ((aH n).length<=2)
theorem Mx{r:R (V×U)} (h:(match r with
  | .ok (.int m,[])=>decide (m=n)
  | _=>false)=true):r= .ok (.int n,[]):=by
 induction r using R.casesOn with
 | ok a =>
  obtain⟨v,c⟩:=a;induction v using V.casesOn with
  | int m=>induction c using cz with
   | nil=>rw[of_decide_eq_true h]
   | cons=>exact j4 h
  | _=>exact j4 h
 | _=>exact j4 h
theorem G9(row:Int):((YE 64).all fun n=>Mw row n)=true:=by rfl'
theorem hV(row:Int)(h:n<64):dL [.str (aH n),.int row] []= .ok (.int n,[])/\aH n≠[]/\(∀ c∈aH n,fN c=true)/\(aH n).length<=2:=by
 have:=yg (G9 row) n (List.mem_range.mpr h);generalize(bM this).2=h4;generalize(bM (bM this).1).2=h3;generalize(bM (bM (bM this).1).1).2=h2;exact⟨Mx (bM (bM (bM this).1).1).1,fun e=>by rw[e]at h2;exact j4 h2,yg h3,of_decide_eq_true h4⟩
theorem Fu(row:Int)(h:n<64):dL [.str (aH n),.int row] O= .ok (.int n,O):=bz (hV row h).1
theorem lw(h:fN c=true):48<=c/\c<=57:=by simpa[fN]using h
theorem kj{c:Nat} : ∀ {a:List Nat},c∉a->ao c a=[a]
 | [],_=>rfl
 | x::a,h=>by
  generalize(fun e=>h (by simp[e]):x≠c)=h1;generalize(fun m=>h (bG _ m):c∉a)=h2;simp only[ao,if_neg h1,kj h2]
theorem pA{c:Nat}{b:List Nat} : ∀ {a:List Nat},c∉a->ao c (a++c::b)=a::ao c b
 | [],_=>by show(if c=c then _ else _)=_;rw[if_pos rfl]
 | x::a,h=>by
  generalize(fun e=>h (by simp[e]):x≠c)=h1;generalize(fun m=>h (bG _ m):c∉a)=h2;show(if x=c then _ else _)=_;rw[if_neg h1];show(match ao c (a++c::b)with | []=>_|p::ps=>_)=_;rw[pA h2]
theorem i9{c:Nat} : ∀ {ts:List (List Nat)},ts≠[]->(∀ t∈ts,c∉t)->ao c (an [c] ts)=ts
 | [],h,_=>absurd rfl h
 | [t],_,h=>kj (h t aW)
 | t::u::ts,_,h=>by
  show ao c (t++[c]++an [c] (u::ts))=_;rw[cJ];show ao c (t++c::an [c] (u::ts))=_;rw[pA (h t aW),i9 (by simp) fun x m=>h x (bG _ m)]
theorem qK{s:List Nat}(h:s.length<=ai):cV (.str s) (S "split") [.str [c]] O=some (.lst ((ao c s).map .str)):=by
 have e:cV (.str s) (S "split") [.str [c]] O=if s.length<=ai then some (.lst ((ao c s).map .str))else none:=by rfl'
 rw[e,if_pos h]
theorem zK{i:Int}(h:-(10 ^ 18)<i/\i<10 ^ 18):gI (S "str") [.int i] O=some (.str (aH i)):=by
 have e:gI (S "str") [.int i] O=if -(10 ^ 18)<i/\i<10 ^ 18 then some (.str (aH i))else none:=by rfl'
 rw[e,if_pos h]
theorem l9{a b:List Nat}(h:a.length+b.length<=ai):b9 .Add (.str a) (.str b)=some (.str (a++b)):=if_pos h
theorem vJ(hl:cv v O=some l)(h:l.length<=ai):gI (S "tuple") [v] O=some (.tup l):=by
 have e:gI (S "tuple") [v] O=(match cv v O with|some l=>if l.length<=ai then some (.tup l)else none|none=>none):=by rfl'
 rw[e,hl];exact if_pos h
theorem kn{p:Pc}(h1:p.lo<64)(h2:p.hi<64):(∀ c∈dQ p,fN c=true\/c=45)/\dQ p≠[]/\(dQ p).length<=5/\∃ d r,dQ p=d::r/\fN d=true:=by
 refine ab fun _ gG=>?_;generalize(((hV 0 h1)).2).1=a2;generalize((((hV 0 h1)).2).2).1=a3;generalize((((hV 0 h1)).2).2).2=a4;refine gG ?_;clear gG
 refine ab fun _ gG=>?_;generalize(((hV 0 h2)).2).1=b2;generalize((((hV 0 h2)).2).2).1=b3;generalize((((hV 0 h2)).2).2).2=b4;refine gG ?_;clear gG
 refine ab fun _ gG=>?_;obtain⟨d,r,e⟩:=aaH a2;refine gG ?_;clear gG
 generalize(a3 d (by rw[e];exact aW):fN d=true)=hd;unfold dQ;split
 ·exact⟨fun c m=>.inl (a3 c m),a2,by exact lA ‹_<=2› rfl,d,r,e,hd⟩
 ·refine⟨fun c m=>?_,by rw[e];simp,by simp;exact RW ‹_› ‹_›,d,r++45::aH p.hi,by rw[e];rfl,hd⟩;refine ab fun _ gG=>?_;rcases bU m with m|m<;>refine gG ?_<;>clear gG
  ·exact .inl (a3 c m)
  ·refine ab fun _ gG=>?_;rcases cn m with rfl|m<;>refine gG ?_<;>clear gG
   ·exact .inr rfl
   ·exact .inl (b3 c m)
theorem Kf(h:acc.length+vs.length<=ai)(hc:V.cleans vs=true):gW (.ref 0) vs [Cell.list acc]=some [Cell.list (acc++vs)]:=by
 show(if acc.length+vs.length<=ai/\V.cleans vs=true then _ else _)=_;rw[if_pos ⟨h,hc⟩];rfl
theorem n8:∀ {ps:List Pc} {last:Nat},gC last ps->(b6 ps).length<=6*ps.length
 | [],_,_=>by simp[b6]
 | p::ps,last,h=>by
  refine ab fun _ gG=>?_;generalize((h)).1=h1;generalize(((h)).2).1=h2;generalize((((h)).2).2).1=h3;generalize(((((h)).2).2).2).1=h4;generalize(((((h)).2).2).2).2=h5;refine gG ?_;clear gG
  have:=n8 h5;show(gk p++b6 ps).length<=_;simp only[bv,gk,i8,cx];exact RG ‹_› ‹_›
noncomputable abbrev My(w:V)(row:Int)(o2 o3 o4 o5:Option V):af:=[(S "word",some w),(S "row",some (.int row)),(S "found",some (.ref 0)),(S "part",o2),(S "ends",o3),(S "low",o4),(S "high",o5)]
noncomputable abbrev WC(w:V)(row:Int)(o2 o3 o4 o5:Option V)(vs:List V)(as:List Int):b7:=wV gf 59 (aZ "numbers_of") (kD (aZ "numbers_of").body 2) vs (My w row o2 o3 o4 o5) [.list (as.map .int)]
theorem O9{l:List Nat}(h:∀ c∈l,fN c=true):45∉l:=fun m=>absurd (lw (h _ m)) (by decide)
theorem Hb{p:Pc}(h1:p.lo<64)(h2:p.hi<64):∃ ls:List (List Nat),ao 45 (dQ p)=ls/\ls.length<=2/\ls[0]?=some (aH p.lo)/\mx (ls.map V.str) (-1)=some (.str (aH p.hi)):=by
 refine ab fun _ gG=>?_;generalize((((hV 0 h1)).2).2).1=a3;refine gG ?_;clear gG
 refine ab fun _ gG=>?_;generalize((((hV 0 h2)).2).2).1=b3;refine gG ?_;clear gG
 unfold dQ;split
 ·rename_i h;rw[h.2]at a3 ⊢;exact⟨[aH p.hi],kj (O9 b3),Y9 1,rfl,nW (l:=[]) (by show 1<=100000;decide)⟩
 ·exact⟨[aH p.lo,aH p.hi],(pA (O9 a3)).trans (by rw[kj (O9 b3)]),kG 2,rfl,nW (l:=[V.str (aH p.lo)]) (by show 2<=100000;decide)⟩
theorem Mz{w:V}{p:Pc}{as:List Int}{o2 o4 o5:Option V}(h1:last<p.lo)(h2:p.lo<=p.hi)(h3:p.hi<=p.lo+5)(h4:p.hi<64)(has:∀ a∈as,a<=last)(hl:as.length+6<=1000) :
  ∃ Kg Kh wX,ay (ex gf 59 (aZ "numbers_of").scope) (fR (kD (aZ "numbers_of").body 2)) (My w row (some (.str (dQ p))) o3 o4 o5) [.list (as.map .int)]= .ok ((.next,My w row (some (.str (dQ p))) Kg Kh wX),[.list ((as++gk p).map .int)]):=by
 have bk:ai=100000:=rfl;have hlo:p.lo<64:=fc h2 h4;refine ab fun _ gG=>?_;generalize((((kn (p:=p) hlo h4)).2).2).1=p3;refine gG ?_;clear gG
 refine ab fun _ gG=>?_;obtain⟨ls,hs,hs1,ej,Pa⟩:=Hb hlo h4;refine gG ?_;clear gG
 have MA:(ls.map V.str).length<=ai:=by rw[bR];exact RT ‹_› ‹_›
 have sp:jg gf (S "split") (.str (dQ p)) [.str [45]] [Cell.list (as.map V.int)]= .ok (.lst (ls.map V.str),[Cell.list (as.map V.int)]):=mt (by rw[qK (lA p3 rfl),hs]);generalize(ll (O:=[Cell.list (as.map V.int)]) _ MA)=l;have Hc:¬(((ls.map V.str).length:Int)>2):=by rw[bR];exact Int.not_lt.mpr (aE hs1)
 generalize(lm (i:=0) (by rw[Yt,ej];rfl) MA:bC (.lst (ls.map V.str)) (.int 0) [Cell.list (as.map V.int)]=some (.str (aH p.lo)))=i0;generalize(Pa:bC (.lst (ls.map V.str)) (.int (-1)) [Cell.list (as.map V.int)]=some (.str (aH p.hi)))=i1;generalize(Fu (O:=[Cell.list (as.map V.int)]) row hlo)=na;have nb:=Fu (O:=[Cell.list (as.map V.int)]) row h4;have c1:¬((p.hi:Int)<(p.lo:Int)):=Int.not_lt.mpr (aE h2);have c2:¬((p.hi:Int)-(p.lo:Int)>5000):=s3 h3;have lX:iF [.int (p.lo:Nat),.int ((p.hi+1:Nat):Int)] [Cell.list (as.map V.int)]= .ok (bc (p.lo:Int) (p.hi+1-p.lo),[Cell.list (as.map V.int)]):=vD ⟨s4 hlo,r5,s5 h4,r5⟩ (by congr 1;exact aa0 _ _);have vK:gW (.ref 0) (bc (p.lo:Int) (p.hi+1-p.lo)) [Cell.list (as.map V.int)]=some [Cell.list ((as++gk p).map V.int)]:=by
  rw[Kf (by rw[bR,cY];exact bL (lP (s6 h3) _) (lA hl rfl)) (by rw[hU];exact dH _),hU,mf];rfl
 refine⟨some (.lst (ls.map V.str)),some (.int p.lo),some (.int p.hi),?_⟩;refine ab fun _ gG=>?_;rcases BU as with rfl|⟨Hd,z,rfl⟩<;>refine gG ?_<;>clear gG
 ·have hne:av .NotEq (.ref 0) (.lst []) [Cell.list (([]:List Int).map V.int)]=some false:=rfl;exact au [cO sp,vO l,.t false,vO i0,cO na,vO i1,cO nb,.t false,.t false,bO hne,.t false,.t false,.t true,lO lX,kO vK] (by rfl') fun z=>A sp (A l (A (dF Hc) (A i0 (A na (A i1 (A nb (A (dF c1) (A (dF c2) (A hne (A ff (A ff (A tt (A lX (A vK z))))))))))))))
 ·have c3:¬((p.lo:Int)<=z):=fun q=>adj z (Zp (has z (aq _ aW)) (ZS (Int.ofNat_lt.mpr h1) q))
  have hne:av .NotEq (.ref 0) (.lst []) [Cell.list ((Hd++[z]).map V.int)]=some true:=by
   rw[show av .NotEq (.ref 0) (.lst []) [Cell.list ((Hd++[z]).map V.int)]=some (!((Hd++[z]).map V.int).isEmpty)from rfl];cases Hd<;>rfl
  have Ki:bC (.ref 0) (.int (-1)) [Cell.list ((Hd++[z]).map V.int)]=some (.int z):=by
   show mx ((Hd++[z]).map V.int) (-1)=_;rw[mf];exact nW (by simp only[bv,bR,cx,dv]at hl ⊢;exact bL (ef _ 6) (lA hl rfl))
  exact au [cO sp,vO l,.t false,vO i0,cO na,vO i1,cO nb,.t false,.t false,bO hne,.t true,vO Ki,.t false,.t true,lO lX,kO vK] (by rfl') fun z=>A sp (A l (A (dF Hc) (A i0 (A na (A i1 (A nb (A (dF c1) (A (dF c2) (A hne (A tt (A Ki (A (dF c3) (A tt (A lX (A vK z)))))))))))))))
theorem Kj{w:V} : ∀ (ps:List Pc) (last:Nat) (as:List Int) (o2 o3 o4 o5:Option V),gC last ps->(∀ a∈as,a<=last)->as.length+6*ps.length<=1000 ->
  ∃ Pb Kg Kh wX,WC w row o2 o3 o4 o5 (ps.map fun p=>.str (dQ p)) as= .ok ((.next,My w row Pb Kg Kh wX),[.list ((as++b6 ps).map .int)]):=fun ps=>by
 induction ps with
 | nil=>exact fun _ as o2 o3 o4 o5 _ _ _=>⟨o2,o3,o4,o5,by rw[show as++b6 []=as from bP as];rfl⟩
 | cons p ps ih =>
  intro last as o2 o3 o4 o5 hch has hl;refine ab fun _ gG=>?_;obtain⟨h1,h2,h3,h4,h5⟩:=hch;refine gG ?_;clear gG
  rw[cx]at hl;refine ab fun _ gG=>?_;obtain⟨q3,q4,q5,hb⟩:=Mz (w:=w) (row:=row) (o2:=o2) (o3:=o3) (o4:=o4) (o5:=o5) h1 h2 h3 h4 has (by exact Up ‹_›);refine gG ?_;clear gG
  obtain⟨r2,r3,r4,r5,ih⟩:=ih p.hi (as++gk p) (some (.str (dQ p))) q3 q4 q5 h5 (fun a m=>by
   refine ab fun _ gG=>?_;rcases bU m with m|m<;>refine gG ?_<;>clear gG
   ·have:=has a m;exact Sm ‹_› ‹_› ‹_›
   ·refine ab fun _ gG=>?_;obtain⟨i,hi⟩:=List.mem_iff_getElem?.mp m;refine gG ?_;clear gG
    have:=gQ _ _ _ _ hi;exact HG ‹_›) (by rw[bv,gk,i8];exact PO ‹_› ‹_›)
  rw[cJ]at ih;exact⟨r2,r3,r4,r5,rE (by rfl') hb ih⟩
end
theorem ko:∀ {ts:List (List Nat)} {m:Nat},(∀ t∈ts,t.length<=m)->cT ts<=m*ts.length
 | [],m,_=>YC _
 | t::ts,m,h=>by
  have:=ko fun x hx=>h x (bG t hx)
  generalize(h t aW)=h1;simp only[cT,cx,adK,adI];exact MX ‹_› ‹_›
theorem nG{sep:List Nat} : ∀ ts:List (List Nat),(an sep ts).length<=cT ts+sep.length*ts.length
 | []=>YC _
 | [t]=>bL (ef _ _) (ef _ _)
 | t::u::ts=>by
  have:=nG (sep:=sep) (u::ts);have this:(an sep (u::ts)).length<=u.length+cT ts+sep.length*(ts.length+1):=this;show(t++sep++an sep (u::ts)).length<=t.length+(u.length+cT ts)+sep.length*(ts.length+1+1);simp only[bv,adK,adI]at this ⊢;exact RK ‹_›
theorem cI:∀ {ps:List Pc} {last:Nat},gC last ps->∀ p∈ps,p.lo<64/\p.hi<64
 | [],_,_,p,m=>by cases m
 | q::ps,last,h,p,m=>by
  generalize((h)).1=h1;generalize(((h)).2).1=h2;generalize((((h)).2).2).1=h3;generalize(((((h)).2).2).2).1=h4;generalize(((((h)).2).2).2).2=h5;rcases cn m with rfl|m
  ·exact⟨by exact Qe ‹_› ‹_›,h4⟩
  ·exact cI h5 p m
theorem rK{ps:List Pc}(h:gC last ps)(hl:ps.length<=3):(d7 ps).length<=30:=by
 unfold d7;split
 ·simp
 ·generalize(nG (sep:=[44]) (ps.map dQ))=h1;have h2:=ko (ts:=ps.map dQ) (m:=5) fun t m=>by
   obtain⟨p,hp,rfl⟩:=iP m;generalize((cI h p hp)).1=a;generalize((cI h p hp)).2=b;exact(kn a b).2.2.1
  simp only[bR,cx,dv]at h1 h2;exact s9 h1 h2 hl
theorem He{t:List Nat}{d:Nat}{r:List Nat}(e:t=d::r)(hd:fN d=true):(t=[110,111,110,101])↔False:=iff_false_intro fun h=>by
 rw[e]at h;cases h
 exact absurd (lw hd).2 (by decide)
theorem md:∀ {ts:List (List Nat)} {t:List Nat} {d:Nat} {r:List Nat},t=d::r->∃ r',an sep (t::ts)=d::r'
 | [],t,d,r,e=>⟨r,e⟩
 | u::ts,t,d,r,e=>⟨r++sep++an sep (u::ts),by rw[e];rfl⟩
theorem x4{sep:List Nat}(hs:gj sep):∀ {ts:List (List Nat)},(∀ t∈ts,gj t)->gj (an sep ts)
 | [],_=>fun c m=>by cases m
 | [t],h=>h t aW
 | t::u::ts,h=>fun c m=>by
  rcases bU m with m|m
  ·rcases bU m with m|m
   ·exact h t aW c m
   ·exact hs c m
  ·exact x4 hs (fun x hx=>h x (bG _ hx)) c m
theorem MB{p:Pc}(h1:p.lo<64)(h2:p.hi<64):gj (dQ p):=fun c m=>by
 rcases(kn h1 h2).1 c m with h|rfl
 ·have:=lw h;exact UH ‹_›
 ·decide
theorem Hf{ps:List Pc}(h:gC last ps):gj (d7 ps):=by
 unfold d7;split
 ·intro c m;simp at m;exact MV ‹_›
 ·refine x4 (fun c m=>by simp at m;exact Ut ‹_›) fun t m=>?_;obtain⟨p,hp,rfl⟩:=iP m;generalize((cI h p hp)).1=a;generalize((cI h p hp)).2=b;exact MB a b
theorem vL{ps:List Pc}(h:gC 0 ps)(hl:ps.length<=3):jR [.str (d7 ps),.int row] O= .ok (.tup ((b6 ps).map .int),O):=by
 have bk:ai=100000:=rfl;cases ps with
 | nil=>exact bz (τ:=[]) (by rfl')
 | cons p ps =>
  have hz:=rK h hl;have ha:=Hf h;generalize((cI h p aW)).1=a;generalize((cI h p aW)).2=b;obtain⟨_,_,_,d,r,e,hd⟩:=kn a b;have en:d7 (p::ps)=an [44] ((p::ps).map dQ):=if_neg (by simp);obtain⟨r',e'⟩:=md (sep:=[44]) (ts:=ps.map dQ) e;have hne:=He (t:=d7 (p::ps)) (en.trans e') hd;have Pd:ao 44 (d7 (p::ps))=(p::ps).map dQ:=by
   rw[en];refine i9 (by simp) fun t m=>?_;obtain⟨q,hq,rfl⟩:=iP m;generalize((cI h q hq)).1=a';generalize((cI h q hq)).2=b';intro WD;rcases(kn a' b').1 44 WD with h|h
   ·exact absurd (lw h).1 (by decide)
   ·exact KX ‹_›
  obtain⟨o2,o3,o4,o5,lp⟩:=Kj (row:=row) (w:=.str (d7 (p::ps))) (p::ps) 0 [] none none none none h nofun (by rw[dv];exact PV ‹_›)
  have ck:=n8 h;have ht:gI (S "tuple") [.ref 0] [Cell.list ((b6 (p::ps)).map V.int)]=some (.tup ((b6 (p::ps)).map V.int)):=vJ rfl (by rw[bR];exact QH ‹_› ‹_›);have e:av .Eq (.str (d7 (p::ps))) (.str [110,111,110,101]) ([]:U)=some false:=(J1 ha (fun c m=>by simp at m;exact MV ‹_›)).trans (congrArg some (dF fun z=>(hne.mp z)));have sp:jg gf (S "split") (.str (d7 (p::ps))) [.str [44]] [Cell.list []]= .ok (.lst ((p::ps).map fun p=>.str (dQ p)),[Cell.list []]):=mt (by rw[qK (by exact lA ‹_<=30› rfl),Pd,Y7];rfl);refine i6 (v:=.tup ((b6 (p::ps)).map V.int)) (τ:=[.list ((b6 (p::ps)).map V.int)]) (by rfl) ?_ ?_ (dH _)
  ·exact aX [bO e,.t false,cO sp,sO lp,vO ht] (by rfl') fun z=>A e (A ff (A sp (A lp (A ht z))))
  ·have hc:V.clean (.tup ((b6 (p::ps)).map V.int))=true:=dH _;have hf:∀ (l:List Int) (O:U),ip 0 O (l.map V.int)=some (l.map V.int):=fun l O=>by
    induction l with
    | nil=>rfl
    | cons a l ih=>simp only[kR,ip,ih];rfl
   show(ip 0 _ ((b6 (p::ps)).map V.int)).map V.tup=_;rw[hf];rfl
theorem x5(n:Nat)(O:U):∀ l:List Int,ip n O (l.map V.int)=some (l.map V.int)
 | []=>rfl
 | a::l=>by simp only[kR,ip,x5 n O l];rfl
theorem vN:∀ {ps:List Pc} {last:Nat},gC last ps->∀ n∈b6 ps,(last:Int)<n/\n<64
 | [],_,_,n,m=>by simp[b6]at m
 | p::ps,last,h,n,m=>by
  generalize((h)).1=h1;generalize(((h)).2).1=h2;generalize((((h)).2).2).1=h3;generalize(((((h)).2).2).2).1=h4;generalize(((((h)).2).2).2).2=h5;rcases bU (show n∈gk p++b6 ps from m)with m|m
  ·obtain⟨i,hi⟩:=List.mem_iff_getElem?.mp m;exact sa h1 h4 (gQ _ _ _ _ hi)
  ·have:=vN h5 n m;exact⟨YR (Int.ofNat_lt.mpr (e9 h1 h2)) this.1,this.2⟩
theorem vP:∀ {ps:List Pc} {last:Nat},gC last ps->tY (b6 ps)
 | [],_,_=>fun i a b h=>by simp[b6]at h
 | p::ps,last,h=>fun i a b ha hb=>by
  generalize((h)).1=h1;generalize(((h)).2).1=h2;generalize((((h)).2).2).1=h3;generalize(((((h)).2).2).2).1=h4;generalize(((((h)).2).2).2).2=h5;generalize(vP h5)=ih;have ha:(gk p++b6 ps)[i]?=some a:=ha;have hb:(gk p++b6 ps)[i+1]?=some b:=hb;have hl:(gk p).length=p.hi+1-p.lo:=i8 _ _;by_cases c:i+1<(gk p).length
  ·rw[eQ (by exact Um ‹_›)]at ha;rw[eQ c]at hb;have:=gQ _ _ _ _ ha;have:=gQ _ _ _ _ hb;exact SE ‹_› ‹_›
  ·rw[eM (by exact r2 ‹_›)]at hb;have X5:=vN h5 b (fU hb);by_cases c2:i<(gk p).length
   ·rw[eQ c2]at ha;have:=gQ _ _ _ _ ha;exact SA ‹_› ‹_›
   ·rw[eM (by exact r2 ‹_›)]at ha;have e:i+1-(gk p).length=(i-(gk p).length)+1:=by exact Q2 ‹_›
    rw[e]at hb;exact ih _ _ _ ha hb
section
variable{ρ:U}
theorem qL(hk:k<τ.length)(h:Stp k (τ++ρ) ar):∃ aD,ar=aD++ρ/\Stp k τ aD:=by
 refine ab fun _ gG=>?_;obtain⟨⟨a,b,h1,h2⟩,h3,h4⟩:=h;refine gG ?_;clear gG
 have hl:ar.length=τ.length+ρ.length:=by rw[h3,bv]
 refine⟨ar.take τ.length,?_,⟨a,b,by rw[aaG,if_pos hk];exact h1,h2⟩,by rw[ZE];exact acO (hl▸ef _ _),fun i hi=>?_⟩
 ·have hd:ar.drop τ.length=ρ:=by
   apply ack;intro i;rw[List.getElem?_drop,h4 _ (by exact QI ‹_›),eM (by exact Uw)];congr 1;exact PD
  rw[<- hd];exact(List.take_append_drop _ _).symm
 ·by_cases c:i<τ.length
  ·rw[aaG,if_pos c,h4 i hi,eQ c]
  ·rw[aaG,if_neg c,Zv (by exact r2 ‹_›)]
theorem nH(h:dp k τ):dp k (τ++ρ):=by
 obtain⟨a,b,h1,h2⟩:=h;generalize((iQ h1).1:k<τ.length)=hk;exact⟨a,b,by rw[eQ hk];exact h1,h2⟩
theorem tZ(h:dp k τ):k<τ.length:=by
 obtain⟨a,b,h1,h2⟩:=h;exact(iQ h1).1
theorem iE(ρ:U){top:Int}(hs:dp k τ)(ht:0<top)(Ei:top<2 ^ 29):∃ (d:Nat) (aD:U),aM [.ref k,.int top] (τ++ρ)= .ok (.int d,aD++ρ)/\Stp k τ aD/\(d:Int)<top:=by
 refine ab fun _ gG=>?_;obtain⟨d,ar,h1,h2,h3⟩:=nx (O:=τ++ρ) (nH hs) ht Ei;refine gG ?_;clear gG
 refine ab fun _ gG=>?_;obtain⟨aD,rfl,h4⟩:=qL (tZ hs) h2;refine gG ?_;clear gG
 exact⟨d,aD,h1,h4,h3⟩
theorem B9(ρ:U)(hs:dp k τ)(hn:l≠[])(hl:l.length<=ai):∃ (v:V) (aD:U),aw [.ref k,.lst l] (τ++ρ)= .ok (v,aD++ρ)/\Stp k τ aD/\v∈l:=by
 refine ab fun _ gG=>?_;obtain⟨v,ar,h1,h2,h3⟩:=gu (O:=τ++ρ) (nH hs) hn hl;refine gG ?_;clear gG
 refine ab fun _ gG=>?_;obtain⟨aD,rfl,h4⟩:=qL (tZ hs) h2;refine gG ?_;clear gG
 exact⟨v,aD,h1,h4,h3⟩
theorem dZ(h:decide (n<=100000)=true):n<=ai:=of_decide_eq_true h
section
variable{x y z:Cell}
theorem x6(h:τ.length=N):(τ++[x,y])[N]?=some x:=by rw[<- h];simp
theorem vQ(h:τ.length=N):(τ++[x,y])[N+1]?=some y:=by rw[<- h,eM (by exact r8)];simp
theorem x7(h:τ.length=N):(τ++[x,y]).set N z=τ++[z,y]:=by rw[<- h,abq _ _ (by exact kG _)];simp
theorem x8(h:τ.length=N):(τ++[x,y]).set (N+1) z=τ++[x,z]:=by rw[<- h,abq _ _ (by exact r8)];simp
end
theorem Hg(h:O[n]?=some (.list l))(hz:l.length+vs.length<=ai)(hc:V.cleans vs=true):gW (.ref n) vs O=some (O.set n (.list (l++vs))):=by
 simp only[gW,h];rw[if_pos ⟨hz,hc⟩];rfl
noncomputable abbrev lst(k N:Nat)(last:Nat)(o5 o6:Option V):af:=[(S "source",some (.ref k)),(S "found",some (.ref N)),(S "parts",some (.ref (N+1))),(S "last",some (.int (last:Nat))),(S "turn",o5),(S "low",o6)]
noncomputable abbrev Pe:lI:=kD (aZ "_law_numbers").body 1
noncomputable abbrev gS(fs:List Int)(ts:List (List Nat)):U:=[.list (fs.map .int),.list (ts.map .str)]
theorem Kk{fs:List Int}{ts:List (List Nat)}{o5 o6:Option V}(hs:dp k τ)(hN:τ.length=N)(hb:last+14<=63)(hf:fs.length+6<=1000)(Kl:ts.length+1<=1000) :
  ∃ (p:Pc) (aD:U),last<p.lo/\p.lo<=p.hi/\p.hi<=p.lo+5/\p.hi<=last+14/\Stp k τ aD/\ay (ex cm 59 (aZ "_law_numbers").scope) (fR Pe) (lst k N last o5 o6) (τ++gS fs ts) =
   .ok ((.next,lst k N p.hi o5 (some (.int p.lo))),aD++gS (fs++gk p) (ts++[dQ p])):=by
 have bk:ai=100000:=rfl;refine ab fun _ gG=>?_;obtain⟨d,bn,t1,t2,t3⟩:=iE (τ:=τ) (k:=k) (gS fs ts) (top:=9) hs (by decide) (by decide);refine gG ?_;clear gG
 refine ab fun _ gG=>?_;obtain⟨v1,bf,u1,u2,u3⟩:=B9 (τ:=bn) (k:=k) (gS fs ts) (l:=[0,0,1,5].map fun n:Nat=>.int n) t2.1 (by decide) (dZ (by decide));refine gG ?_;clear gG
 refine ab fun _ gG=>?_;obtain⟨e,e5,rfl⟩:=iP u3;refine gG ?_;clear gG
 have e5:e<=5:=(by decide:∀ e∈[0,0,1,5],e<=5) e e5;have d9:d<9:=Int.ofNat_lt.mp t3;have lo1:last<last+1+d:=e9 (ZG last) (ef _ d);have GB:last+1+d+e<=last+14:=s7 d9 e5;have MC:last+1+d+e<=last+1+d+5:=lP e5 _;have DB:last+1+d<=last+1+d+e:=ef _ _;have MD:(last+1+d+e)<64:=fc (bL GB hb) (by decide);have Pf:last+1+d<64:=fc DB MD;have Ca:bf.length=N:=u2.2.1.trans (t2.2.1.trans hN);have a1:b9 .Add (.int (last:Nat)) (.int 1)=some (.int ((last+1:Nat):Int)):=rfl;have lX:iF [.int ((last+1+d):Nat),.int (((last+1+d+e)+1:Nat):Int)] (bf++gS fs ts)= .ok (bc ((last+1+d):Int) ((last+1+d+e)+1-(last+1+d)),bf++gS fs ts):=vD ⟨s4 Pf,r5,s5 MD,r5⟩ (by congr 1;exact aa0 _ _);have vK:∀ b,gW (.ref N) (bc ((last+1+d):Int) ((last+1+d+e)+1-(last+1+d))) (bf++gS fs ts)=some (bf++gS (fs++gk ⟨(last+1+d),(last+1+d+e),b⟩) ts):=fun b=>by
  rw[Hg (x6 Ca) (by rw[bR,cY];exact bL (lP (s6 MC) _) (lA hf rfl)) (by rw[hU];exact dH _),x7 Ca,hU];show _=some (_++[Cell.list ((fs++gk ⟨(last+1+d),(last+1+d+e),b⟩).map V.int),_]);rw[mf];rfl
 have s1:=fun O=>zK (O:=O) (i:=(last+1+d)) (Uk Pf)
 have s2:=fun O=>zK (O:=O) (i:=(last+1+d+e)) (Ul MD)
 refine ab fun _ gG=>?_;generalize((((hV 0 (n:=(last+1+d)) Pf)).2).2).2=a4;refine gG ?_;clear gG
 refine ab fun _ gG=>?_;generalize((((hV 0 MD)).2).2).2=b4;refine gG ?_;clear gG
 have j1:b9 .Add (.str (aH (last+1+d))) (.str [45])=some (.str (aH (last+1+d)++[45])):=l9 (bL (ZC a4 1) (show 3<=100000 by decide));have j2:b9 .Add (.str (aH (last+1+d)++[45])) (.str (aH (last+1+d+e)))=some (.str (aH (last+1+d)++45::aH (last+1+d+e))):=(l9 (by rw[bv];exact bL (Yo (ZC a4 1) b4) (show 5<=100000 by decide))).trans (by rw[cJ];rfl);have Pg:bX (.ref N) (bf++gS fs ts)=true:=Ee (x6 Ca);have il:∀ fs,bX (.ref (N+1)) (bf++gS fs ts)=true:=fun fs=>Ee (vQ Ca)
 have app:∀ {τ:U} {fs:List Int} {t:List Nat},τ.length=N->kx (.ref (N+1)) (.str t) (τ++gS fs ts)=some (τ++gS fs (ts++[t])):=fun{τ fs t} h=>by
  rw[rG (vQ h) (by rw[bR];first|exact lA Kl rfl|exact bL (Y9 _) (lA Kl rfl)) rfl,x8 h];show _=some (_++[_,Cell.list ((ts++[t]).map V.str)]);rw[mf];rfl
 by_cases e':(last+1+d)=(last+1+d+e)
 ·refine ab fun _ gG=>?_;obtain⟨c,gl,w1,w2,w3⟩:=iE (τ:=bf) (k:=k) (gS (fs++gk ⟨(last+1+d),(last+1+d+e),true⟩) ts) (top:=3) u2.1 (by decide) (by decide);refine gG ?_;clear gG
  have TX:gl.length=N:=w2.2.1.trans Ca;have ce:((last+1+d):Int)=((last+1+d+e):Int):=congrArg Int.ofNat e';by_cases d0:(c:Int)>0
  ·refine⟨⟨(last+1+d),(last+1+d+e),true⟩,gl,lo1,DB,MC,GB,(t2.trans u2).trans w2,?_⟩;rw[show dQ ⟨(last+1+d),(last+1+d+e),true⟩=aH (last+1+d)from if_pos ⟨rfl,e'⟩];have q:=app (fs:=fs++gk ⟨(last+1+d),(last+1+d+e),true⟩) (t:=aH (last+1+d)) TX;have q1:=s1 (gl++gS (fs++gk ⟨(last+1+d),(last+1+d+e),true⟩) ts);have f:=vK true;have g:=il (fs++gk ⟨(last+1+d),(last+1+d+e),true⟩);exact au [cO t1,cO u1,.t true,lO lX,kO f,.t true,.t true,cO w1,.t true,vO q1,kO q] (by rfl') fun z=>A t1 (A u1 (A Pg (A lX (A f (A g (A (dT ce) (A w1 (A (dT d0) (A q1 (A q z))))))))))
  ·refine⟨⟨(last+1+d),(last+1+d+e),false⟩,gl,lo1,DB,MC,GB,(t2.trans u2).trans w2,?_⟩;rw[show dQ ⟨(last+1+d),(last+1+d+e),false⟩=aH (last+1+d)++45::aH (last+1+d+e)from if_neg fun h=>nomatch h.1];have q:=app (fs:=fs++gk ⟨(last+1+d),(last+1+d+e),false⟩) (t:=aH (last+1+d)++45::aH (last+1+d+e)) TX;have q1:=s1 (gl++gS (fs++gk ⟨(last+1+d),(last+1+d+e),false⟩) ts);have q2:=s2 (gl++gS (fs++gk ⟨(last+1+d),(last+1+d+e),false⟩) ts);have f:=vK false;have g:=il (fs++gk ⟨(last+1+d),(last+1+d+e),false⟩);exact au [cO t1,cO u1,.t true,lO lX,kO f,.t true,.t true,cO w1,.t false,vO q1,vO j1,vO q2,vO j2,kO q] (by rfl') fun z=>A t1 (A u1 (A Pg (A lX (A f (A g (A (dT ce) (A w1 (A (dF d0) (A q1 (A j1 (A q2 (A j2 (A q z)))))))))))))
 ·refine⟨⟨(last+1+d),(last+1+d+e),false⟩,bf,lo1,DB,MC,GB,t2.trans u2,?_⟩;rw[show dQ ⟨(last+1+d),(last+1+d+e),false⟩=aH (last+1+d)++45::aH (last+1+d+e)from if_neg fun h=>nomatch h.1];have ce:¬((last+1+d):Int)=((last+1+d+e):Int):=fun h=>e' (acA h)
  have q:=app (fs:=fs++gk ⟨(last+1+d),(last+1+d+e),false⟩) (t:=aH (last+1+d)++45::aH (last+1+d+e)) Ca;have q1:=s1 (bf++gS (fs++gk ⟨(last+1+d),(last+1+d+e),false⟩) ts);have q2:=s2 (bf++gS (fs++gk ⟨(last+1+d),(last+1+d+e),false⟩) ts);have f:=vK false;have g:=il (fs++gk ⟨(last+1+d),(last+1+d+e),false⟩);exact au [cO t1,cO u1,.t true,lO lX,kO f,.t true,.t false,.t false,vO q1,vO j1,vO q2,vO j2,kO q] (by rfl') fun z=>A t1 (A u1 (A Pg (A lX (A f (A g (A (dF ce) (A (dF ce) (A q1 (A j1 (A q2 (A j2 (A q z))))))))))))
theorem Km:∀ (vs:List V) (last:Nat) (fs:List Int) (ts:List (List Nat)) (τ:U) (o5 o6:Option V),dp k τ->τ.length=N->last+14*vs.length<=63->fs.length+6*vs.length<=1000->ts.length+vs.length<=1000 ->
  ∃ (ps:List Pc) (aD:U) (rL:Nat) (wX Hh:Option V),gC last ps/\ps.length=vs.length/\Stp k τ aD/\wV cm 59 (aZ "_law_numbers") Pe vs (lst k N last o5 o6) (τ++gS fs ts) =
   .ok ((.next,lst k N rL wX Hh),aD++gS (fs++b6 ps) (ts++ps.map dQ)):=fun vs=>by
 induction vs with
 | nil=>exact fun last fs ts τ o5 o6 hs hN _ _ _=>⟨[],τ,last,o5,o6,trivial,rfl,Stp.refl hs,by rw[show fs++b6 []=fs from bP fs,afo,bP];rfl⟩
 | cons v vs ih =>
  intro last fs ts τ o5 o6 hs hN hb hf ht;rw[cx]at hb hf ht;refine ab fun _ gG=>?_;obtain⟨p,bn,p1,p2,p3,p4,s1,Ph⟩:=Kk (o5:=some v) (o6:=o6) hs hN (show last+14<=63 by exact R5 ‹_›) (show fs.length+6<=1000 by exact R7 ‹_›) (show ts.length+1<=1000 by exact RY ‹_›);refine gG ?_;clear gG
  refine ab fun _ gG=>?_;obtain⟨ps,aD,rL,wX,Hh,i1,i2,i3,i4⟩:=ih p.hi (fs++gk p) (ts++[dQ p]) bn (some v) (some (.int p.lo)) s1.1 (s1.2.1.trans hN) (by exact RD ‹_› ‹_›) (by rw[bv,gk,i8];exact PO ‹_› ‹_›) (by rw[bv];show _+1+_<=_;exact Q0 ‹_›);refine gG ?_;clear gG
  rw[cJ,cJ]at i4;exact⟨p::ps,aD,rL,wX,Hh,⟨p1,p2,p3,by exact Rx ‹_› ‹_›,i1⟩,congrArg (· + 1) i2,s1.trans i3,rE (by rfl') Ph i4⟩
end
section
variable{ρ:U}
theorem zM{u:V}{bf:U}(h:F vs O= .ok (v,bf))(hn:O.length=n)(hf:ot n bf v=some u):t8 F vs O= .ok (u,bf.take n):=by
 unfold t8 M7;rw[h,no,hn,hf,JV,no]
theorem sW:∀ ts:List (List Nat),eZ (ts.map V.str)=some ts
 | []=>rfl
 | t::ts=>by show(eZ (ts.map .str)).map (fun r=>t::r)=_;rw[sW ts];rfl
theorem jX{s:List Nat}{ts:List (List Nat)}(hl:cv v O=some (ts.map .str))(hz:cT ts+ts.length*s.length<=ai)(WE:ts.length<=ai):cV (.str s) (S "join") [v] O=some (.str (an s ts)):=by
 rw[Fo,hl];simp only[cH,sW];rw[if_pos ⟨hz,WE⟩]
theorem x9{x y:Cell}(h:τ.length=N):(τ++[x,y]).take N=τ:=by rw[<- h];simp
theorem Cb(h:O[n]?=some (.list l)):cv (.ref n) O=some l:=by
 show(match O[n]? with|some (.list l)=>some l|_=>none)=_;rw[h]
theorem sX(h:O[n]?=some (.list l)):av .NotEq (.ref n) (.lst []) O=some (!l.isEmpty):=by
 delta av nM c6 cv CB t5;dsimp only;rw[h];rfl
noncomputable abbrev Ny(k N M:Nat):af:=[(S "source",some (.ref k)),(S "found",some (.ref N)),(S "parts",some (.ref M)),(S "last",some (.int 0)),(S "turn",none),(S "low",none)]
theorem mw(hs:dp k τ):∃ (ps:List Pc) (aD:U),gC 0 ps/\ps.length<=3/\Stp k τ aD/\jq [.ref k] τ= .ok (.tup [.tup ((b6 ps).map .int),.str (d7 ps)],aD):=by
 generalize(rfl:ai=100000)=bk;obtain⟨d,bn,t1,t2,t3⟩:=iE (τ:=τ) (k:=k) (gS [] []) (top:=4) hs (by decide) (by decide);generalize(t2.2.1:bn.length=τ.length)=oo;obtain⟨ps,aD,rL,wX,Hh,i1,i2,i3,i4⟩:=Km (bc 0 d) 0 [] [] bn none none t2.1 oo (by rw[cY];exact Qs ‹_›) (by rw[cY];simp;exact Qc ‹_›) (by rw[cY];simp;exact PX ‹_›);generalize(i3.2.1.trans oo:aD.length=τ.length)=Es;rw[cY]at i2;refine⟨ps,aD,i1,by exact QP ‹_› ‹_›,t2.trans i3,?_⟩;generalize(n8 i1)=hl;generalize(x6 Es:(aD++[Cell.list ((b6 ps).map V.int),Cell.list ((ps.map dQ).map V.str)])[τ.length]?=some (.list ((b6 ps).map V.int)))=f0;generalize(vQ Es:(aD++[Cell.list ((b6 ps).map V.int),Cell.list ((ps.map dQ).map V.str)])[τ.length+1]?=some (.list ((ps.map dQ).map V.str)))=f1;generalize(vJ (Cb f0) (by rw[bR];exact RA ‹_› ‹_› ‹_›):gI (S "tuple") [.ref τ.length] (aD++[.list ((b6 ps).map V.int),.list ((ps.map dQ).map V.str)])=some (.tup ((b6 ps).map V.int)))=ht;have hj:cV (.str [44]) (S "join") [.ref (τ.length+1)] (aD++[.list ((b6 ps).map V.int),.list ((ps.map dQ).map V.str)])=some (.str (an [44] (ps.map dQ))):=jX (Cb f1) (by
  have:=ko (ts:=ps.map dQ) (m:=5) fun t m=>by
   obtain⟨p,hp,rfl⟩:=iP m;generalize((cI i1 p hp)).1=a;generalize((cI i1 p hp)).2=b;exact(kn a b).2.2.1
  simp only[bR,cx,dv]at this ⊢;exact sr this ‹_› ‹_›) (by rw[bR];exact QX ‹_› ‹_›)
 have Cc:bh cm 60 (aZ "_law_numbers") [.ref k] τ= .ok (.tup [.tup ((b6 ps).map .int),.str (d7 ps)],aD++gS (b6 ps) (ps.map dQ)):=by
  generalize(i4:wV cm 59 (aZ "_law_numbers") Pe (bc 0 d) (lst k τ.length 0 none none) (bn++gS [] [])= .ok ((.next,lst k τ.length rL wX Hh),aD++gS (b6 ps) (ps.map dQ)))=i4;have e0:τ++[Cell.list []]++[Cell.list []]=τ++gS [] []:=cJ ..;have rk:=vE (O:=bn++gS [] []) (show d<1000 by exact PW ‹_›);rw[show bh cm 60 (aZ "_law_numbers") [.ref k] τ=((ay (ex cm 60 (aZ "_law_numbers").scope) (aZ "_law_numbers").body.tail (Ny k τ.length ((τ++[Cell.list []]).length)) (τ++[Cell.list []]++[Cell.list []])).bind mu)from by rfl',e0,show(τ++[Cell.list []]).length=τ.length+1 from bv];have main:ay (ex cm 60 (aZ "_law_numbers").scope) (aZ "_law_numbers").body.tail (Ny k τ.length (τ.length+1)) (τ++gS [] [])= .ok ((.ret (.tup [.tup ((b6 ps).map .int),.str (d7 ps)]),lst k τ.length rL wX Hh),aD++gS (b6 ps) (ps.map dQ)):=by
   rcases ps with _|⟨p,ps⟩
   ·have hne:av .NotEq (.ref (τ.length+1)) (.lst []) (aD++gS (b6 []) (([]:List Pc).map dQ))=some false:=sX f1;exact au [cO t1,lO rk,sO i4,vO ht,bO hne,.t false] (by rfl') fun z=>A t1 (A rk (A i4 (A ht (A hne (A ff z)))))
   ·have hne:av .NotEq (.ref (τ.length+1)) (.lst []) (aD++gS (b6 (p::ps)) ((p::ps).map dQ))=some true:=sX f1;have hj:=mt (T:=cm) hj;rw[show d7 (p::ps)=an [44] ((p::ps).map dQ)from if_neg fun h=>nomatch h];exact au [cO t1,lO rk,sO i4,vO ht,bO hne,.t true,cO hj] (by rfl') fun z=>A t1 (A rk (A i4 (A ht (A hne (A tt (A hj z))))))
  rw[main];rfl
 have:=zM (u:=.tup [.tup ((b6 ps).map .int),.str (d7 ps)]) Cc rfl (by
  have hc:V.clean (.tup ((b6 ps).map V.int))=true:=dH _;show((rR _ _ _).bind fun u=>((rR _ _ _).bind fun u=>_).map _).map V.tup=_;simp only[rR,hc,if_true];rfl)
 rw[x9 Es]at this;exact this
noncomputable def bits:List (List Nat):=[[97],[32],[33],[34],[92],[90,57]]
noncomputable abbrev sY(a:List Nat):V:=.tup [.str a,.str (cy a)]
noncomputable abbrev TY:Expr:=vv (kD (aZ "_law_quoted").body 0)
noncomputable abbrev TZ:Expr:=GY (ro (GY (ro (vv (kD (aZ "_law_quoted").body 1))) 0)) 0
noncomputable abbrev T0:Expr:=GY (ro (eR (eL (GY (ro (vv (kD (aZ "_law_quoted").body 1))) 1)))) 0
theorem WF:∀ (vs:List V) (τ:U) (o:Option V),dp k τ->∃ (ls:List (List Nat)) (aD:U),(∀ a∈ls,a∈bits)/\ls.length=vs.length/\Stp k τ aD/\mC dM 57 (aZ "_law_quoted") TY [(S ".0",none),(S "turn",o),(S "source",some (.ref k))] vs τ= .ok (ls.map sY,aD):=fun vs=>by
 induction vs with
 | nil=>exact fun τ o hs=>⟨[],τ,nofun,rfl,Stp.refl hs,rfl⟩
 | cons v vs ih =>
  intro τ o hs;refine ab fun _ gG=>?_;obtain⟨u,bn,t1,t2,t3⟩:=gu (O:=τ) (k:=k) (l:=bits.map sY) hs (by decide +kernel) (dZ (by decide));refine gG ?_;clear gG
  refine ab fun _ gG=>?_;obtain⟨a,ha,rfl⟩:=iP t3;refine gG ?_;clear gG
  refine ab fun _ gG=>?_;obtain⟨ls,aD,i1,i2,i3,i4⟩:=ih bn (some v) t2.1;refine gG ?_;clear gG
  exact⟨a::ls,aD,be ⟨ha,i1⟩,congrArg (· + 1) i2,t2.trans i3,rF (by rfl') rfl (rC [cO t1] (by rfl') fun z=>A t1 z) i4⟩
theorem WG:∀ (ls:List (List Nat)) (o:Option V),mC dM 55 (aZ "_law_quoted") TZ [(S ".0",none),(S "piece",o)] (ls.map sY) O= .ok (ls.map .str,O):=fun ls=>by
 induction ls with
 | nil=>exact fun _=>rfl
 | cons a ls ih =>
  intro o;have i0:bC (sY a) (.int 0) O=some (.str a):=gN (i:=0) rfl (by show 2<=100000;decide);exact rF (by rfl') rfl (rC [vO i0] (by rfl') fun z=>A i0 z) (ih (some (sY a)))
theorem WH:∀ (ls:List (List Nat)) (o:Option V),mC dM 53 (aZ "_law_quoted") T0 [(S ".0",none),(S "piece",o)] (ls.map sY) O= .ok ((ls.map cy).map .str,O):=fun ls=>by
 induction ls with
 | nil=>exact fun _=>rfl
 | cons a ls ih =>
  intro o;have i0:bC (sY a) (.int 1) O=some (.str (cy a)):=gN (i:=1) rfl (by show 2<=100000;decide);exact rF (by rfl') rfl (rC [vO i0] (by rfl') fun z=>A i0 z) (ih (some (sY a)))
theorem pB:∀ ls:List (List Nat),an [] ls=ls.flatten
 | []=>rfl
 | [a]=>(bP a).symm
 | a::b::ls=>by show a++[]++an [] (b::ls)=_;rw[pB (b::ls),bP];rfl
theorem ya(ls:List (List Nat)):(ls.map cy).flatten=cy ls.flatten:=by
 induction ls with
 | nil=>rfl
 | cons a ls ih=>simp[ih,cy]
theorem qM{a:List Nat}(h:a∈bits):a.length<=2/\(cy a).length<=2/\∀ c∈a,jW c:=by
 simp only[bits,j3,eP,or_false]at h;rcases h with rfl|rfl|rfl|rfl|rfl|rfl<;>refine⟨by decide,by decide,fun c m=>?_⟩<;>simp only[j3,eP,or_false]at m<;>unfold jW<;>first|(subst m;decide)|(rcases m with rfl|rfl<;>decide)
theorem Cd(h:∀ a∈ls,a.length<=m):ls.flatten.length<=m*ls.length:=by
 induction ls with
 | nil=>simp
 | cons a ls ih =>
  generalize(h a aW)=h1;generalize(ih fun x hx=>h x (bG _ hx))=h2;simp only[List.flatten_cons,bv,cx,adK,adI];exact MX ‹_› ‹_›
theorem jY(hs:dp k τ):∃ (t:List Nat) (aD:U),(∀ c∈t,jW c)/\t.length<=8/\(cy t).length<=8/\Stp k τ aD/\jT [.ref k] τ= .ok (.tup [.str t,.str (34::(cy t++[34]))],aD):=by
 generalize(rfl:ai=100000)=bk;refine ab fun _ gG=>?_;obtain⟨d,bn,t1,t2,t3⟩:=nx (O:=τ) (k:=k) (top:=5) hs (by decide) (by decide);refine gG ?_;clear gG
 refine ab fun _ gG=>?_;obtain⟨ls,aD,i1,i2,i3,i4⟩:=WF (bc 0 d) bn none t2.1;refine gG ?_;clear gG
 rw[cY]at i2;generalize(Cd (ls:=ls) (m:=2) fun a m=>(qM (i1 a m)).1)=b1;have b2:=Cd (ls:=ls.map cy) (m:=2) fun a m=>by
  refine ab fun _ gG=>?_;obtain⟨x,hx,rfl⟩:=iP m;refine gG ?_;clear gG
  exact(qM (i1 x hx)).2.1
 rw[ya,bR]at b2;generalize(ko (ts:=ls) (m:=2) fun a m=>(qM (i1 a m)).1)=s1;have s2:=ko (ts:=ls.map cy) (m:=2) fun a m=>by
  refine ab fun _ gG=>?_;obtain⟨x,hx,rfl⟩:=iP m;refine gG ?_;clear gG
  exact(qM (i1 x hx)).2.1
 rw[bR]at s2;refine⟨ls.flatten,aD,fun c m=>?_,by exact PM ‹_› ‹_› ‹_›,by exact PM ‹_› ‹_› ‹_›,t2.trans i3,?_⟩
 ·refine ab fun _ gG=>?_;obtain⟨a,ha,hc⟩:=List.mem_flatten.mp m;refine gG ?_;clear gG
  exact(qM (i1 a ha)).2.2 c hc
 have j1:cV (.str []) (S "join") [.lst (ls.map .str)] aD=some (.str ls.flatten):=by
  rw[jX (ts:=ls) rfl (by simp only[dv,afx];exact PN ‹_› ‹_› ‹_›) (by exact Aa ‹_› ‹_›),pB]
 have j2:cV (.str []) (S "join") [.lst ((ls.map cy).map .str)] aD=some (.str (cy ls.flatten)):=by
  rw[jX (ts:=ls.map cy) rfl (by simp only[dv,afx];exact PN ‹_› ‹_› ‹_›) (by rw[bR];exact Aa ‹_› ‹_›),pB,ya]
 generalize(l9 (by simp only[cx,dv];exact RF ‹_› ‹_› ‹_›):b9 .Add (.str [34]) (.str (cy ls.flatten))=some (.str (34::cy ls.flatten)))=a1;generalize(l9 (by simp only[cx,dv];exact Sw ‹_› ‹_› ‹_›):b9 .Add (.str (34::cy ls.flatten)) (.str [34])=some (.str (34::(cy ls.flatten++[34]))))=a2;generalize(vE (O:=bn) (show d<1000 by exact PY ‹_›))=rk;generalize(ki (by rw[cY];exact Aa ‹_› rfl) i4)=c0;generalize(ki (by rw[bR];exact Aa t3 i2) (WG (O:=aD) ls none))=c1;generalize(ki (by rw[bR];exact Aa t3 i2) (WH (O:=aD) ls none))=c2;generalize(mt (T:=dM) j1)=j1;generalize(mt (T:=dM) j2)=j2;have Cc:bh dM 60 (aZ "_law_quoted") [.ref k] τ= .ok (.tup [.str ls.flatten,.str (34::(cy ls.flatten++[34]))],aD) :=
  aX [cO t1,lO rk,lO c0,lO c1,cO j1,lO c2,cO j2,vO a1,vO a2] (by rfl') fun z=>A t1 (A rk (A c0 (A c1 (A j1 (A c2 (A j2 (A a1 (A a2 z))))))))
 have:=zM (u:=.tup [.str ls.flatten,.str (34::(cy ls.flatten++[34]))]) Cc rfl rfl;generalize(Zm (by rw[i3.2.1,t2.2.1];exact kG _):aD.take τ.length=aD)=ht;rw[ht]at this;exact this
theorem zO(hs:dp k τ)(hn:l≠[])(hl:l.length<=ai):∃ (w:V) (aD:U),w∈l/\Stp k τ aD/\dD [.ref k,.lst l] τ= .ok (.tup [w,w],aD):=by
 refine ab fun _ gG=>?_;obtain⟨w,bn,t1,t2,t3⟩:=gu hs hn hl;refine gG ?_;clear gG
 refine⟨w,bn,t3,t2,?_⟩;exact aX [cO t1] (by rfl') fun z=>A t1 z
theorem vT(hs:dp k τ)(hn:ns≠[])(hl:ns.length<=ai)(hb:∀ n∈ns,0<=n/\n<10 ^ 9):∃ (n:Int) (aD:U),n∈ns/\Stp k τ aD/\cP [.ref k,.lst (ns.map .int)] τ= .ok (.tup [.int n,.str (aH n)],aD):=by
 refine ab fun _ gG=>?_;obtain⟨w,bn,t1,t2,t3⟩:=gu (l:=ns.map V.int) hs (by simp[hn]) (by rw[bR];exact hl);refine gG ?_;clear gG
 refine ab fun _ gG=>?_;obtain⟨n,hm,rfl⟩:=iP t3;refine gG ?_;clear gG
 have s1:-(10 ^ 18)<n/\n<10 ^ 18:=by have:=hb n hm;exact⟨ZS (by decide) this.1,YR this.2 (by decide)⟩
 generalize(zK (O:=bn) s1)=q;exact⟨n,bn,hm,t2,aX [cO t1,vO q] (by rfl') fun z=>A t1 (A q z)⟩
end
structure hZ(kind worth:V)(raw:List Nat):Prop where
 tok:∃ out,pz raw out/\V.clean out=true/\∀ row O,c9 [kind,.lst [out],.int row] O= .ok (worth,O)
 fit:∀ O,dk [kind,worth] O= .ok (.bool true,O)
 wcl:V.clean worth=true
 nn:∀ O,av .IsNot worth .none O=some true
 self:fM worth worth=some true
 ascr:∀ c∈raw,32<=c/\c<128
 len:raw.length<=40
noncomputable def zP(raw:List Nat):Bool:=!raw.isEmpty&&(raw.all fun c=>c != 32&&c != 34&&decide (c<128)&&decide (32<=c))&&raw.head? != some 33&&decide (raw.length<=40)
theorem ja(h:zP raw=true):pz raw (wd raw)/\(∀ c∈raw,32<=c/\c<128)/\raw.length<=40:=by
 unfold zP at h;simp only[gT,ZF,ZA,List.isEmpty_eq_false_iff,bne_iff_ne,decide_eq_true_eq]at h;obtain⟨⟨⟨h1,h2⟩,h3⟩,h4⟩:=h;exact⟨.inl ⟨rfl,h1,fun c m=>⟨(h2 c m).1.1.1,(h2 c m).1.1.2⟩,fun r e=>h3 (by rw[e];rfl),by exact lB ‹_<=40› rfl⟩,fun c m=>⟨(h2 c m).2,(h2 c m).1.2⟩,h4⟩
theorem bA{worth:V}(hp:zP raw=true)(hw:∀ row,c9 [kind,.lst [wd raw],.int row] []= .ok (worth,[]))(hf:dk [kind,worth] []= .ok (.bool true,[]))(hc:V.clean worth=true)(hn:∀ O,av .IsNot worth .none O=some true)(hs:fM worth worth=some true):hZ kind worth raw:=by
 generalize((ja hp)).1=h1;generalize(((ja hp)).2).1=h2;generalize(((ja hp)).2).2=h3;exact⟨⟨_,h1,rfl,fun row O=>bz (hw row)⟩,fun O=>bz hf,hc,hn,hs,h2,h3⟩
noncomputable abbrev vU:V:=.tup [.str [116,101,120,116]]
noncomputable abbrev zQ:V:=.tup [.str [110,117,109,98,101,114,115],.int 1,.int 4094]
theorem Kn{t:List Nat}(h:∀ c∈t,jW c):∀ c∈cy t,32<=c/\c<128:=fun c m=>by
 obtain⟨x,hx,hc⟩:=List.mem_flatMap.mp m;have:=h x hx;unfold jW at this;unfold vF at hc;split at hc
 ·simp at hc;exact Qn ‹_›
 ·split at hc
  ·simp at hc;exact PU ‹_›
  ·simp at hc;exact Ri ‹_› ‹_›
theorem me{t:List Nat}(h:∀ c∈t,jW c)(hl:t.length<=8)(j6:(cy t).length<=8):hZ vU (.str t) (34::(cy t++[34])) where
 tok:=⟨_,.inr ⟨t,rfl,rfl,by exact lB ‹_<=8› rfl⟩,rfl,fun row O=>bz (τ:=[]) (by rfl')⟩
 fit:=fun O=>En h (by exact lA ‹_<=8› rfl)
 wcl:=rfl
 nn:=fun O=>rfl
 self:=by rw[BW (fun c m=>by have:=h c m;unfold jW at this;exact ML ‹_›) (fun c m=>by have:=h c m;unfold jW at this;exact ML ‹_›)];simp
 ascr:=fun c m=>by
  simp only[j3,aeE,eP,or_false]at m;rcases m with rfl|m|rfl
  ·decide
  ·exact Kn h c m
  ·decide
 len:=by simp;exact lA ‹_<=8› rfl
theorem vV:∀ (ts:List (List Nat)),(∀ t∈ts,∀ c∈t,fN c=true\/c=45)->∀ c∈an [44] ts,fN c=true\/c=45\/c=44
 | [],_,c,m=>by cases m
 | [t],ht,c,m=>(ht t aW c m).imp id .inl
 | t::u::ts,ht,c,m=>by
  rcases bU m with m|m
  ·rcases bU m with m|m
   ·exact(ht t aW c m).imp id .inl
   ·simp at m;exact .inr (.inr m)
  ·exact vV (u::ts) (fun x hx=>ht x (bG _ hx)) c m
theorem sZ{ps:List Pc}(h:gC 0 ps):∀ c∈d7 ps,44<=c/\c<123:=fun c m=>by
 unfold d7 at m;split at m
 ·simp at m;exact MU ‹_›
 ·have:=vV (ps.map dQ) (fun t mt=>by
   obtain⟨q,hq,rfl⟩:=iP mt;generalize((cI h q hq)).1=a';generalize((cI h q hq)).2=b';exact(kn a' b').1) c m
  rcases this with h|rfl|rfl
  ·have:=lw h;exact Qm ‹_›
  ·decide
  ·decide
theorem Ce{ps:List Pc}(h:gC 0 ps)(hl:ps.length<=3):pz (d7 ps) (wd (d7 ps)):=by
 generalize(rK h hl)=hz;generalize(sZ h)=hch;cases ps with
 | nil=>exact(ja (raw:=d7 []) (by rfl')).1
 | cons p ps =>
  generalize((cI h p aW)).1=a;generalize((cI h p aW)).2=b;obtain⟨_,_,_,d,r,e,hd⟩:=kn a b;have en:d7 (p::ps)=an [44] ((p::ps).map dQ):=if_neg (by simp);obtain⟨r',e'⟩:=md (sep:=[44]) (ts:=ps.map dQ) e;have e2:=en.trans e';have hf:=lw hd;exact .inl ⟨rfl,by rw[e2];simp,fun c m=>by have:=hch c m;exact⟨fun e=>absurd (e▸this.1:44<=32) (by decide),fun e=>absurd (e▸this.1:44<=34) (by decide)⟩,fun r e3=>by rw[e2]at e3;cases e3;exact absurd hf.1 (by decide),by exact lB ‹_<=30› rfl⟩
theorem Cf{ps:List Pc}(h:gC 0 ps)(hl:ps.length<=3):c9 [zQ,.lst [wd (d7 ps)],.int row] O= .ok (.tup ((b6 ps).map .int),O):=by
 have l:mi (.lst [wd (d7 ps)]) ([]:U)=some (.int 1):=by rfl'
 generalize(lm (i:=0) rfl (by show 1<=100000;decide):bC (.lst [wd (d7 ps)]) (.int 0) ([]:U)=some (wd (d7 ps)))=w0;have k0:bC zQ (.int 0) ([]:U)=some (.str [110,117,109,98,101,114,115]):=by rfl'
 have e1:av .Eq (.str [110,117,109,98,101,114,115]) (.str [116,101,120,116]) ([]:U)=some false:=by rfl'
 have e2:av .Eq (.str [110,117,109,98,101,114,115]) (.str [116,114,117,116,104]) ([]:U)=some false:=by rfl'
 have e3:av .Eq (.str [110,117,109,98,101,114,115]) (.str [110,117,109,98,101,114]) ([]:U)=some false:=by rfl'
 have e4:av .Eq (.str [110,117,109,98,101,114,115]) (.str [110,117,109,98,101,114,115]) ([]:U)=some true:=by rfl'
 have ne:av .NotEq (.bool false) (.bool false) ([]:U)=some false:=by rfl'
 generalize(vL (O:=[]) (row:=row) h hl)=n;refine i6 (v:=.tup ((b6 ps).map .int)) (τ:=[]) rfl ?_ ?_ (dH _)
 ·exact aX [vO l,.t false,vO w0,vO k0,bO e1,bO ne,.t false,vO k0,bO e2,.t false,vO k0,bO e3,.t false,vO k0,bO e4,.t true,cO n] (by rfl') fun z=>A l (A ff (A w0 (A k0 (A e1 (A ne (A ff (A k0 (A e2 (A ff (A k0 (A e3 (A ff (A k0 (A e4 (A tt (A n z))))))))))))))))
 ·show(ip 0 _ ((b6 ps).map V.int)).map V.tup=_;rw[x5];rfl
theorem vW{ps:List Pc}(h:gC 0 ps)(hl:ps.length<=3):hZ zQ (.tup ((b6 ps).map .int)) (d7 ps) where
 tok:=⟨_,Ce h hl,rfl,fun row O=>Cf h hl⟩
 fit:=fun O=>wW (vP h) (by have:=n8 h;exact QD ‹_› ‹_›) fun n m=>by have:=vN h n m;exact Rj ‹_›
 wcl:=dH _
 nn:=fun O=>rfl
 self:=Er _
 ascr:=fun c m=>by have:=sZ h c m;exact Qr ‹_›
 len:=by have:=rK h hl;exact lA ‹_<=30› rfl
noncomputable def px(i:Nat):cG:=match pathsL[i]? with
 | some x=>x
 | none=>⟨[],.none,.none⟩
theorem bI(h:(decide (i<29))=true):px i∈pathsL:=by
 generalize(rfl:pathsL.length=29)=hl;have hi:i<pathsL.length:=by rw[hl];exact of_decide_eq_true h
 unfold px;rw[fL hi];exact aa1 hi
noncomputable def gD(x:cG)(worth:V)(raw:List Nat):Prop:=x∈pathsL/\hZ x.kind worth raw
theorem Et:∀ raw∈([[97],[66,45,49],[120,95,121],[55]]:List (List Nat)),hZ (px 0).kind (.str raw) raw:=be ⟨bA (by rfl') (fun row=>by rfl') (by rfl') rfl (fun O=>rfl) (by rfl'),be ⟨bA (by rfl') (fun row=>by rfl') (by rfl') rfl (fun O=>rfl) (by rfl'),be ⟨bA (by rfl') (fun row=>by rfl') (by rfl') rfl (fun O=>rfl) (by rfl'),be ⟨bA (by rfl') (fun row=>by rfl') (by rfl') rfl (fun O=>rfl) (by rfl'),nofun⟩⟩⟩⟩
theorem Eu:∀ raw∈([[111,102,102],[111,108,100],[114,97,112,105,100],[109,115,116]]:List (List Nat)),hZ (px 2).kind (.str raw) raw:=be ⟨bA (by rfl') (fun row=>by rfl') (by rfl') rfl (fun O=>rfl) (by rfl'),be ⟨bA (by rfl') (fun row=>by rfl') (by rfl') rfl (fun O=>rfl) (by rfl'),be ⟨bA (by rfl') (fun row=>by rfl') (by rfl') rfl (fun O=>rfl) (by rfl'),be ⟨bA (by rfl') (fun row=>by rfl') (by rfl') rfl (fun O=>rfl) (by rfl'),nofun⟩⟩⟩⟩
theorem Ev:∀ raw∈([[112,108,97,105,110],[112,114,105,109,97,114,121],[105,115,111,108,97,116,101,100]]:List (List Nat)),hZ (px 9).kind (.str raw) raw:=be ⟨bA (by rfl') (fun row=>by rfl') (by rfl') rfl (fun O=>rfl) (by rfl'),be ⟨bA (by rfl') (fun row=>by rfl') (by rfl') rfl (fun O=>rfl) (by rfl'),be ⟨bA (by rfl') (fun row=>by rfl') (by rfl') rfl (fun O=>rfl) (by rfl'),nofun⟩⟩⟩
theorem Ew:∀ n∈([0,4096,61440]:List Int),hZ (px 1).kind (.int n) (aH n):=be ⟨bA (by rfl') (fun row=>by rfl') (by rfl') rfl (fun O=>rfl) (by rfl'),be ⟨bA (by rfl') (fun row=>by rfl') (by rfl') rfl (fun O=>rfl) (by rfl'),be ⟨bA (by rfl') (fun row=>by rfl') (by rfl') rfl (fun O=>rfl) (by rfl'),nofun⟩⟩⟩
theorem Hi:∀ n∈([10,300,1000000]:List Int),hZ (px 3).kind (.int n) (aH n):=be ⟨bA (by rfl') (fun row=>by rfl') (by rfl') rfl (fun O=>rfl) (by rfl'),be ⟨bA (by rfl') (fun row=>by rfl') (by rfl') rfl (fun O=>rfl) (by rfl'),be ⟨bA (by rfl') (fun row=>by rfl') (by rfl') rfl (fun O=>rfl) (by rfl'),nofun⟩⟩⟩
theorem zU:∀ n∈([0,1,4094]:List Int),hZ (px 6).kind (.int n) (aH n):=be ⟨bA (by rfl') (fun row=>by rfl') (by rfl') rfl (fun O=>rfl) (by rfl'),be ⟨bA (by rfl') (fun row=>by rfl') (by rfl') rfl (fun O=>rfl) (by rfl'),be ⟨bA (by rfl') (fun row=>by rfl') (by rfl') rfl (fun O=>rfl) (by rfl'),nofun⟩⟩⟩
theorem Cg:∀ v∈([.tup [.bool true,.str [111,110]],.tup [.bool false,.str [111,102,102]]]:List V),∃ w raw,v= .tup [w,.str raw]/\hZ (px 4).kind w raw :=
 be ⟨⟨_,_,rfl,bA (by rfl') (fun row=>by rfl') (by rfl') rfl (fun O=>rfl) (by rfl')⟩,be ⟨⟨_,_,rfl,bA (by rfl') (fun row=>by rfl') (by rfl') rfl (fun O=>rfl) (by rfl')⟩,nofun⟩⟩
noncomputable def Drawn(k:Nat)(τ:U)(r:R (V×U)):Prop:=∃ (x:cG) (worth:V) (raw:List Nat) (aD:U),gD x worth raw/\Stp k τ aD/\r= .ok (.tup [aC x.path,.tup [worth,.str raw]],aD)
theorem l1(x:V):([x].length<=ai)↔True:=iff_true_intro (by show 1<=100000;decide)
theorem l2(x y:V):([x,y].length<=ai)↔True:=iff_true_intro (by show 2<=100000;decide)
theorem l3(x y z:V):([x,y,z].length<=ai)↔True:=iff_true_intro (by show 3<=100000;decide)
theorem pC{K:V}{L:List (List Nat)}(h:∀ raw∈L,hZ K (.str raw) raw)(hs:dp k τ)(hn:L.map V.str≠[])(hl:(L.map V.str).length<=ai):∃ raw aD,hZ K (.str raw) raw/\Stp k τ aD/\dD [.ref k,.lst (L.map V.str)] τ= .ok (.tup [.str raw,.str raw],aD):=by
 obtain⟨w,aD,h1,h2,h3⟩:=zO hs hn hl;obtain⟨raw,hr,rfl⟩:=iP h1;exact⟨raw,aD,h raw hr,h2,h3⟩
theorem rM{K:V}{L:List Int}(h:∀ n∈L,hZ K (.int n) (aH n))(hs:dp k τ)(hn:L≠[])(hl:L.length<=ai)(hb:∀ n∈L,0<=n/\n<10 ^ 9):∃ n aD,hZ K (.int n) (aH n)/\Stp k τ aD/\cP [.ref k,.lst (L.map .int)] τ= .ok (.tup [.int n,.str (aH n)],aD):=by
 obtain⟨n,aD,h1,h2,h3⟩:=vT hs hn hl hb;exact⟨n,aD,h n h1,h2,h3⟩
structure qN(i:Nat)(p:List Atom)(K:V):Prop where
 path:(px i).path=p
 kind:(px i).kind=K
 mem:px i∈pathsL
theorem e8{p:List Atom}{K w:V}{aD:U}{r:R (V×U)}(P:qN i p K)(t:hZ K w raw)(s:Stp k τ aD)(e:r= .ok (.tup [aC p,.tup [w,.str raw]],aD)):Drawn k τ r :=
 ⟨px i,w,raw,aD,⟨P.mem,P.kind.symm▸t⟩,s,P.path.symm▸e⟩
section
variable{bn bf:U}{tv:V}
theorem WI(ej:dp k bf)(s2:Stp k τ bf)(t1:aM [.ref k,.int 5] τ= .ok (.int 0,bn))(u1:aw [.ref k,.lst [.tup [.bool true,.str [111,110]],.tup [.bool false,.str [111,102,102]]]] bn= .ok (tv,bf)):Drawn k τ (cK [.ref k] τ):=by
 obtain⟨raw,gl,m1,m2,m3⟩:=pC Et ej nofun (dZ (by decide))
 generalize(m3:dD [.ref k,.lst [.str [97],.str [66,45,49],.str [120,95,121],.str [55]]] bf=_)=m3;exact e8 (i:=0) ⟨rfl,rfl,bI rfl⟩ m1 (s2.trans m2) (aX [cO t1,cO u1,.t true,cO m3] (by rfl') fun z=>A t1 (A u1 (A tt (A m3 z))))
theorem WJ(ej:dp k bf)(s2:Stp k τ bf)(t1:aM [.ref k,.int 5] τ= .ok (.int 1,bn))(u1:aw [.ref k,.lst [.tup [.bool true,.str [111,110]],.tup [.bool false,.str [111,102,102]]]] bn= .ok (tv,bf)):Drawn k τ (cK [.ref k] τ):=by
 obtain⟨raw,gl,m1,m2,m3⟩:=rM Ew ej nofun (dZ (by decide)) (by decide)
 generalize(m3:cP [.ref k,.lst [.int 0,.int 4096,.int 61440]] bf=_)=m3;exact e8 (i:=1) ⟨rfl,rfl,bI rfl⟩ m1 (s2.trans m2) (aX [cO t1,cO u1,.t false,.t true,cO m3] (by rfl') fun z=>A t1 (A u1 (A ff (A tt (A m3 z)))))
theorem WK(ej:dp k bf)(s2:Stp k τ bf)(t1:aM [.ref k,.int 5] τ= .ok (.int 2,bn))(u1:aw [.ref k,.lst [.tup [.bool true,.str [111,110]],.tup [.bool false,.str [111,102,102]]]] bn= .ok (tv,bf)):Drawn k τ (cK [.ref k] τ):=by
 obtain⟨raw,gl,m1,m2,m3⟩:=pC Eu ej nofun (dZ (by decide))
 generalize(m3:dD [.ref k,.lst [.str [111,102,102],.str [111,108,100],.str [114,97,112,105,100],.str [109,115,116]]] bf=_)=m3;exact e8 (i:=2) ⟨rfl,rfl,bI rfl⟩ m1 (s2.trans m2) (aX [cO t1,cO u1,.t false,.t false,.t true,cO m3] (by rfl') fun z=>A t1 (A u1 (A ff (A ff (A tt (A m3 z))))))
theorem WM(ej:dp k bf)(s2:Stp k τ bf)(t1:aM [.ref k,.int 5] τ= .ok (.int 3,bn))(u1:aw [.ref k,.lst [.tup [.bool true,.str [111,110]],.tup [.bool false,.str [111,102,102]]]] bn= .ok (tv,bf)):Drawn k τ (cK [.ref k] τ):=by
 obtain⟨raw,gl,m1,m2,m3⟩:=rM Hi ej nofun (dZ (by decide)) (by decide)
 generalize(m3:cP [.ref k,.lst [.int 10,.int 300,.int 1000000]] bf=_)=m3;exact e8 (i:=3) ⟨rfl,rfl,bI rfl⟩ m1 (s2.trans m2) (aX [cO t1,cO u1,.t false,.t false,.t false,.t true,cO m3] (by rfl') fun z=>A t1 (A u1 (A ff (A ff (A ff (A tt (A m3 z)))))))
theorem WN(s2:Stp k τ bf)(t1:aM [.ref k,.int 5] τ= .ok (.int 4,bn))(u1:aw [.ref k,.lst [.tup [.bool true,.str [111,110]],.tup [.bool false,.str [111,102,102]]]] bn= .ok (tv,bf))(u3:tv∈([.tup [.bool true,.str [111,110]],.tup [.bool false,.str [111,102,102]]]:List V)):Drawn k τ (cK [.ref k] τ):=by
 obtain⟨w,raw,rfl,ht⟩:=Cg _ u3;exact e8 (i:=4) ⟨rfl,rfl,bI rfl⟩ ht s2 (aX [cO t1,cO u1,.t false,.t false,.t false,.t false] (by rfl') fun z=>A t1 (A u1 (A ff (A ff (A ff (A ff z))))))
end
theorem wY(hs:dp k τ):Drawn k τ (cK [.ref k] τ):=by
 obtain⟨d,bn,t1,t2,t3⟩:=nx (O:=τ) (k:=k) (top:=5) hs (by decide) (by decide);obtain⟨tv,bf,u1,u2,u3⟩:=gu (O:=bn) (k:=k) (l:=[.tup [.bool true,.str [111,110]],.tup [.bool false,.str [111,102,102]]]) t2.1 nofun (dZ (by decide))
 have hd:d=0\/d=1\/d=2\/d=3\/d=4:=by exact Rr ‹_›
 rcases hd with rfl|rfl|rfl|rfl|rfl
 ·exact WI u2.1 (t2.trans u2) t1 u1
 ·exact WJ u2.1 (t2.trans u2) t1 u1
 ·exact WK u2.1 (t2.trans u2) t1 u1
 ·exact WM u2.1 (t2.trans u2) t1 u1
 ·exact WN (t2.trans u2) t1 u1 u3
structure zV(n:Int)(j:Nat):Prop where
 up:qN (j+0) [.str [112,111,114,116],.int n,.str [117,112]] (px 4).kind
 native:qN (j+1) [.str [112,111,114,116],.int n,.str [110,97,116,105,118,101]] (px 6).kind
 tagged:qN (j+2) [.str [112,111,114,116],.int n,.str [116,97,103,103,101,100]] zQ
 pname:qN (j+3) [.str [112,111,114,116],.int n,.str [110,97,109,101]] vU
 vkind:qN (j+4) [.str [118,108,97,110],.int n,.str [107,105,110,100]] (px 9).kind
 vname:qN (j+5) [.str [118,108,97,110],.int n,.str [110,97,109,101]] vU
 lin:qN (j+6) [.str [108,105,115,116],.str [105,110],.int n] vU
 l10:qN (j+7) [.str [108,105,115,116],.str [49,48],.int n] vU
theorem ME:∀ v∈([.int 1,.int 2,.int 512]:List V),∃ (n:Int) (j:Nat),v= .int n/\zV n j :=
 be ⟨⟨1,5,rfl,⟨⟨rfl,rfl,bI rfl⟩,⟨rfl,rfl,bI rfl⟩,⟨rfl,rfl,bI rfl⟩,⟨rfl,rfl,bI rfl⟩,⟨rfl,rfl,bI rfl⟩,⟨rfl,rfl,bI rfl⟩,⟨rfl,rfl,bI rfl⟩,⟨rfl,rfl,bI rfl⟩⟩⟩,be ⟨⟨2,13,rfl,⟨⟨rfl,rfl,bI rfl⟩,⟨rfl,rfl,bI rfl⟩,⟨rfl,rfl,bI rfl⟩,⟨rfl,rfl,bI rfl⟩,⟨rfl,rfl,bI rfl⟩,⟨rfl,rfl,bI rfl⟩,⟨rfl,rfl,bI rfl⟩,⟨rfl,rfl,bI rfl⟩⟩⟩,be ⟨⟨512,21,rfl,⟨⟨rfl,rfl,bI rfl⟩,⟨rfl,rfl,bI rfl⟩,⟨rfl,rfl,bI rfl⟩,⟨rfl,rfl,bI rfl⟩,⟨rfl,rfl,bI rfl⟩,⟨rfl,rfl,bI rfl⟩,⟨rfl,rfl,bI rfl⟩,⟨rfl,rfl,bI rfl⟩⟩⟩,nofun⟩⟩⟩
section
variable{bn bf:U}{n:Int}
theorem WO(P:zV n j)(ej:dp k bf)(s2:Stp k τ bf)(t1:aM [.ref k,.int 8] τ= .ok (.int 0,bn))(u1:aw [.ref k,.lst [.int 1,.int 2,.int 512]] bn= .ok (.int n,bf)):Drawn k τ (bD [.ref k] τ):=by
 obtain⟨tv,gl,m3,m2,m1⟩:=gu (O:=bf) (k:=k) (l:=[.tup [.bool true,.str [111,110]],.tup [.bool false,.str [111,102,102]]]) ej nofun (dZ (by decide))
 obtain⟨w,raw,rfl,ht⟩:=Cg _ m1;exact e8 P.up ht (s2.trans m2) (aX [cO t1,cO u1,.t true,cO m3] (by rfl') fun z=>A t1 (A u1 (A tt (A m3 (z)))))
theorem WP(P:zV n j)(ej:dp k bf)(s2:Stp k τ bf)(t1:aM [.ref k,.int 8] τ= .ok (.int 1,bn))(u1:aw [.ref k,.lst [.int 1,.int 2,.int 512]] bn= .ok (.int n,bf)):Drawn k τ (bD [.ref k] τ):=by
 obtain⟨n',gl,m1,m2,m3⟩:=rM zU ej nofun (dZ (by decide)) (by decide)
 generalize(m3:cP [.ref k,.lst [.int 0,.int 1,.int 4094]] bf=_)=m3;exact e8 P.native m1 (s2.trans m2) (aX [cO t1,cO u1,.t false,.t true,cO m3] (by rfl') fun z=>A t1 (A u1 (A ff (A tt (A m3 (z))))))
theorem WQ(P:zV n j)(ej:dp k bf)(s2:Stp k τ bf)(t1:aM [.ref k,.int 8] τ= .ok (.int 2,bn))(u1:aw [.ref k,.lst [.int 1,.int 2,.int 512]] bn= .ok (.int n,bf)):Drawn k τ (bD [.ref k] τ):=by
 obtain⟨ps,gl,m1,m2,m4,m3⟩:=mw ej;exact e8 P.tagged (vW m1 m2) (s2.trans m4) (aX [cO t1,cO u1,.t false,.t false,.t true,cO m3] (by rfl') fun z=>A t1 (A u1 (A ff (A ff (A tt (A m3 (z)))))))
theorem WR(P:zV n j)(ej:dp k bf)(s2:Stp k τ bf)(t1:aM [.ref k,.int 8] τ= .ok (.int 3,bn))(u1:aw [.ref k,.lst [.int 1,.int 2,.int 512]] bn= .ok (.int n,bf)):Drawn k τ (bD [.ref k] τ):=by
 obtain⟨ps,gl,m1,m2,m4,m3⟩:=mw ej;exact e8 P.tagged (vW m1 m2) (s2.trans m4) (aX [cO t1,cO u1,.t false,.t false,.t true,cO m3] (by rfl') fun z=>A t1 (A u1 (A ff (A ff (A tt (A m3 (z)))))))
theorem WS(P:zV n j)(ej:dp k bf)(s2:Stp k τ bf)(t1:aM [.ref k,.int 8] τ= .ok (.int 4,bn))(u1:aw [.ref k,.lst [.int 1,.int 2,.int 512]] bn= .ok (.int n,bf)):Drawn k τ (bD [.ref k] τ):=by
 obtain⟨t,gl,m1,m2,m4,m5,m3⟩:=jY ej;exact e8 P.pname (me m1 m2 m4) (s2.trans m5) (aX [cO t1,cO u1,.t false,.t false,.t false,.t true,cO m3] (by rfl') fun z=>A t1 (A u1 (A ff (A ff (A ff (A tt (A m3 (z))))))))
theorem WT(P:zV n j)(ej:dp k bf)(s2:Stp k τ bf)(t1:aM [.ref k,.int 8] τ= .ok (.int 5,bn))(u1:aw [.ref k,.lst [.int 1,.int 2,.int 512]] bn= .ok (.int n,bf)):Drawn k τ (bD [.ref k] τ):=by
 obtain⟨raw,gl,m1,m2,m3⟩:=pC Ev ej nofun (dZ (by decide))
 generalize(m3:dD [.ref k,.lst [.str [112,108,97,105,110],.str [112,114,105,109,97,114,121],.str [105,115,111,108,97,116,101,100]]] bf=_)=m3;exact e8 P.vkind m1 (s2.trans m2) (aX [cO t1,cO u1,.t false,.t false,.t false,.t false,.t true,cO m3] (by rfl') fun z=>A t1 (A u1 (A ff (A ff (A ff (A ff (A tt (A m3 (z)))))))))
theorem WU(P:zV n j)(ej:dp k bf)(s2:Stp k τ bf)(t1:aM [.ref k,.int 8] τ= .ok (.int 6,bn))(u1:aw [.ref k,.lst [.int 1,.int 2,.int 512]] bn= .ok (.int n,bf)):Drawn k τ (bD [.ref k] τ):=by
 obtain⟨t,gl,m1,m2,m4,m5,m3⟩:=jY ej;exact e8 P.vname (me m1 m2 m4) (s2.trans m5) (aX [cO t1,cO u1,.t false,.t false,.t false,.t false,.t false,.t true,cO m3] (by rfl') fun z=>A t1 (A u1 (A ff (A ff (A ff (A ff (A ff (A tt (A m3 (z))))))))))
theorem WV(P:zV n j)(ej:dp k bf)(s2:Stp k τ bf)(t1:aM [.ref k,.int 8] τ= .ok (.int 7,bn))(u1:aw [.ref k,.lst [.int 1,.int 2,.int 512]] bn= .ok (.int n,bf)):Drawn k τ (bD [.ref k] τ):=by
 obtain⟨w,gl,m3,m2,m1⟩:=gu (O:=bf) (k:=k) (l:=[.str [105,110],.str [49,48]]) ej nofun (dZ (by decide))
 obtain⟨t,X6,n1,n2,n4,n5,n3⟩:=jY m2.1;rcases cn m1 with rfl|m1
 ·exact e8 P.lin (me n1 n2 n4) ((s2.trans m2).trans n5) (aX [cO t1,cO u1,.t false,.t false,.t false,.t false,.t false,.t false,cO m3,cO n3] (by rfl') fun z=>A t1 (A u1 (A ff (A ff (A ff (A ff (A ff (A ff (A m3 (A n3 (z)))))))))))
 ·obtain rfl:=a8 m1;exact e8 P.l10 (me n1 n2 n4) ((s2.trans m2).trans n5) (aX [cO t1,cO u1,.t false,.t false,.t false,.t false,.t false,.t false,cO m3,cO n3] (by rfl') fun z=>A t1 (A u1 (A ff (A ff (A ff (A ff (A ff (A ff (A m3 (A n3 (z)))))))))))
end
theorem vX(hs:dp k τ):Drawn k τ (bD [.ref k] τ):=by
 obtain⟨d,bn,t1,t2,t3⟩:=nx (O:=τ) (k:=k) (top:=8) hs (by decide) (by decide);obtain⟨nv,bf,u1,u2,u3⟩:=gu (O:=bn) (k:=k) (l:=[.int 1,.int 2,.int 512]) t2.1 nofun (dZ (by decide))
 obtain⟨n,j,rfl,P⟩:=ME _ u3;have hd:d=0\/d=1\/d=2\/d=3\/d=4\/d=5\/d=6\/d=7:=by exact RH ‹_›
 rcases hd with rfl|rfl|rfl|rfl|rfl|rfl|rfl|rfl
 ·exact WO P u2.1 (t2.trans u2) t1 u1
 ·exact WP P u2.1 (t2.trans u2) t1 u1
 ·exact WQ P u2.1 (t2.trans u2) t1 u1
 ·exact WR P u2.1 (t2.trans u2) t1 u1
 ·exact WS P u2.1 (t2.trans u2) t1 u1
 ·exact WT P u2.1 (t2.trans u2) t1 u1
 ·exact WU P u2.1 (t2.trans u2) t1 u1
 ·exact WV P u2.1 (t2.trans u2) t1 u1
theorem jZ:∀ p:List Atom,fg (aC p)=some p:=fun p=>by
 have:∀ p:List Atom,dC (p.map Atom.toV)=some p:=fun p=>by
  induction p with
  | nil=>rfl
  | cons a p ih =>
   have e:∀ x:Option (List Atom),x=some p->(x.map fun r=>a::r)=some (a::p):=fun x e=>by rw[e];rfl
   induction a using Atom.casesOn with
   | int i=>exact e _ ih
   | str l=>exact e _ ih
 exact this p
theorem vY(h:O[c]?=some (.dict ks vs))(p:List Atom):zn [.sett c,aC p] O= .ok (((ks.zip vs).lookup p).getD .none,O):=by
 generalize(fun q=>by rfl':∀ q:V,zn [.sett c,q] O=bh ⟨gV,[],[]⟩ 60 (Bw "get" [.none]) [.sett c,q,.none] O)=e;have km:jD ⟨gV,[],[]⟩ (.ref c) (S "get") O=true:=by
  show(match O[c]? with|some (.dict _ _)=>_|_=>_)=_;rw[h];rfl'
 have vm:cV (.ref c) (S "get") [aC p,.none] O=some (((ks.zip vs).lookup p).getD .none):=by
  have e:cV (.ref c) (S "get") [aC p,.none] O=(match([aC p,V.none]:List V),O[c]? with
   | [k,d],some (.dict ks us)=>(fg k).map fun k=>match(ks.zip us).lookup k with
    | some v=>v
    | none=>d
   | _,_=>none):=by rfl'
  rw[e,h];simp only[jZ,ZM];cases(ks.zip vs).lookup p<;>rfl
 have mk:jg ⟨gV,[],[]⟩ (S "get") (.ref c) [aC p,.none] O= .ok (((ks.zip vs).lookup p).getD .none,O):=by
  show(ah (cV (.ref c) (S "get") [aC p,.none] O)).bind _=_;rw[vm];rfl
 rw[e];exact aX [.t true,cO mk] (by rfl') fun z=>A km (A mk z)
theorem ta:∀ {ks:List (List Atom)} {vs:List V} {p:List Atom} {v:V},p∉ks->ks.length=vs.length->gq ks vs p v=(ks++[p],vs++[v])
 | [],vs,p,v,_,hl=>by cases vs with
  | nil=>rfl
  | cons _ _=>simp at hl
 | k::ks,[],p,v,_,hl=>by simp at hl
 | k::ks,w::vs,p,v,hn,hl=>by
  generalize(fun e=>hn (by simp[e]):k≠p)=h1;generalize(ta (ks:=ks) (vs:=vs) (p:=p) (v:=v) (fun m=>hn (bG _ m)) (by simpa using hl))=ih;refine(if_neg h1).trans ?_;rw[ih];rfl
theorem nI:∀ {ks:List (List Atom)} {vs:List V} {p:List Atom},p∉ks->(ks.zip vs).lookup p=none
 | [],_,_,_=>by simp
 | k::ks,[],_,_=>by simp
 | k::ks,v::vs,p,hn=>by
  have h1:(p==k)=false:=by simpa using fun e=>hn (by simp[e])
  simp only[YK,dR,h1];exact nI fun m=>hn (bG _ m)
theorem pD{p:List Atom}(h:O[c]?=some (.dict ks vs))(hn:p∉ks)(hl:ks.length=vs.length)(hz:ks.length<=ai)(hc:V.clean v=true):cW (.ref c) (aC p) v O=some (O.set c (.dict (ks++[p]) (vs++[v]))):=by
 generalize(jZ p)=hk;delta fg at hk;dsimp only at hk
 delta cW;dsimp only;rw[if_pos hc]
 rw[h,hk];dsimp only;rw[if_pos hz,ta hn hl];rfl
theorem pE{a:V}(hz:(l++[a]).length<=ai):bg (.lst (l++[a])) none (some (-1))=some (.lst l):=by
 delta bg;dsimp only;rw[if_pos hz];delta cut;dsimp only
 have:cf (l++[a]).length (-1)=l.length:=by
  rw[bv];exact sT _
 rw[this];simp
theorem nJ{a:V}(hz:(l++[a]).length<=ai):bg (.lst (l++[a])) (some (-1)) none=some (.lst [a]):=by
 delta bg;dsimp only;rw[if_pos hz];delta cut;dsimp only
 have:cf (l++[a]).length (-1)=l.length:=by
  rw[bv];exact sT _
 rw[this];simp
theorem MF{x:cG}(hs:gD x v raw)(h:O[c]?=some (.dict ks vs))(hn:x.path∉ks)(hl:ks.length=vs.length)(hz:ks.length<=ai):vp [.sett c,aC x.path,v] O= .ok (.none,O.set c (.dict (ks++[x.path]) (vs++[v]))):=by
 generalize(fun τ=>bz (sU x hs.1):∀ τ,cF [aC x.path] τ= .ok (x.kind,τ))=hk;unfold vp;generalize(hk O)=k;generalize(hs.2.fit O)=f;generalize(pD h hn hl hz hs.2.wcl)=st;exact aX [cO k,cO f,.t false,kO st] (by rfl') fun z=>A k (A f (A ff (A st z)))
noncomputable abbrev aQ(p:List Atom):List V:=p.map fun a=>wd (ak a)
theorem qO{x:cG}(hx:x∈pathsL)(tl:hZ x.kind v raw)(ho:∀ row O,c9 [x.kind,.lst [out],.int row] O= .ok (v,O))(h:O[c]?=some (.dict ks vs))(hn:x.path∉ks)(hl:ks.length=vs.length)(hz:ks.length<=ai)(hp:x.path.length<=10) :
  fH [.sett c,.lst (aQ x.path++[out]),.int row] O= .ok (.none,O.set c (.dict (ks++[x.path]) (vs++[v]))):=by
 have hw:(aQ x.path++[out]).length<=ai:=by have:ai=100000:=rfl;simp;exact UD ‹_›
 generalize(fun τ=>bz (sU x hx):∀ τ,cF [aC x.path] τ= .ok (x.kind,τ))=hk;generalize(fun τ=>bz (B6 row x hx):∀ τ,iZ [.lst (aQ x.path),.int row] τ= .ok (aC x.path,τ))=hr;have b1:aI (.int (-1))=some (some (-1)):=by rfl'
 generalize(vY h x.path)=hg;rw[nI hn]at hg;have vi:∀ {O:U},av .IsNot ((none:Option V).getD .none) .none O=some false:=rfl;unfold fH;have s1:((aI .none).bind fun i=>(aI (.int (-1))).bind fun j=>bg (.lst (aQ x.path++[out])) i j)=some (.lst (aQ x.path)):=by rw[iD,b1,cH,cH,pE hw]
 have s2:((aI (.int (-1))).bind fun i=>(aI .none).bind fun j=>bg (.lst (aQ x.path++[out])) i j)=some (.lst [out]):=by rw[iD,b1,cH,cH,nJ hw]
 have r:=hr O;have k:=hk O;have w:=ho row O;have f:=tl.fit O;have p:=MF ⟨hx,tl⟩ h hn hl hz;have gn:=vi (O:=O);exact aX [vO s1,cO r,cO k,vO s2,cO w,cO f,.t false,cO hg,bO gn,.t false,cO p] (by rfl') fun z=>A s1 (A r (A k (A s2 (A w (A f (A ff (A hg (A gn (A ff (A p z))))))))))
noncomputable def zW:V:=.lst [.str [112,111,114,116],.str [118,108,97,110],.str [108,105,115,116]]
noncomputable def Ey:Atom->Bool
 | .int i=>decide (0<=i)&&decide (i<10 ^ 9)
 | .str _=>true
noncomputable def zX(x:cG):Prop:=∃ h r,x.path= .str h::r/\r.length<=1/\(∀ O,av .In (.str h) di O=some false)/\∀ O,av .NotIn (.str h) zW O=some true
noncomputable def Pj(x:cG):Prop:=∃ h a b,x.path=[.str h,a,b]/\(∀ O,av .In (.str h) di O=some true)/\(∀ O,av .NotIn (.str h) zW O=some false)/\∀ row,bS [.lst [wd h,wd (ak a)],.int row] []= .ok (.lst [wd h,wd (ak a)],[])
noncomputable def t0(raw:List Nat):Bool:=!raw.isEmpty&&(raw.all fun c=>c != 32&&c != 34&&decide (c<128)&&decide (32<=c))&&raw.head? != some 33&&decide (raw.length<=40)
theorem Ch:(pathsL.all fun x=>(x.path.all fun a=>Ey a&&t0 (ak a))&&decide (x.path.length<=3))=true:=by rfl'
theorem Ci:∀ x∈pathsL,zX x\/Pj x :=
 l8 (.inl ⟨_,_,rfl,by decide,fun O=>by rfl',fun O=>by rfl'⟩) (.inl ⟨_,_,rfl,by decide,fun O=>by rfl',fun O=>by rfl'⟩) (.inl ⟨_,_,rfl,by decide,fun O=>by rfl',fun O=>by rfl'⟩) (.inl ⟨_,_,rfl,by decide,fun O=>by rfl',fun O=>by rfl'⟩) (.inl ⟨_,_,rfl,by decide,fun O=>by rfl',fun O=>by rfl'⟩) (.inr ⟨_,_,_,rfl,fun O=>by rfl',fun O=>by rfl',fun row=>by rfl'⟩) (.inr ⟨_,_,_,rfl,fun O=>by rfl',fun O=>by rfl',fun row=>by rfl'⟩) (.inr ⟨_,_,_,rfl,fun O=>by rfl',fun O=>by rfl',fun row=>by rfl'⟩) (.inr ⟨_,_,_,rfl,fun O=>by rfl',fun O=>by rfl',fun row=>by rfl'⟩) (.inr ⟨_,_,_,rfl,fun O=>by rfl',fun O=>by rfl',fun row=>by rfl'⟩) (.inr ⟨_,_,_,rfl,fun O=>by rfl',fun O=>by rfl',fun row=>by rfl'⟩) (.inr ⟨_,_,_,rfl,fun O=>by rfl',fun O=>by rfl',fun row=>by rfl'⟩) (.inr ⟨_,_,_,rfl,fun O=>by rfl',fun O=>by rfl',fun row=>by rfl'⟩) (.inr ⟨_,_,_,rfl,fun O=>by rfl',fun O=>by rfl',fun row=>by rfl'⟩) (.inr ⟨_,_,_,rfl,fun O=>by rfl',fun O=>by rfl',fun row=>by rfl'⟩) (.inr ⟨_,_,_,rfl,fun O=>by rfl',fun O=>by rfl',fun row=>by rfl'⟩) (.inr ⟨_,_,_,rfl,fun O=>by rfl',fun O=>by rfl',fun row=>by rfl'⟩) (.inr ⟨_,_,_,rfl,fun O=>by rfl',fun O=>by rfl',fun row=>by rfl'⟩) (.inr ⟨_,_,_,rfl,fun O=>by rfl',fun O=>by rfl',fun row=>by rfl'⟩) (.inr ⟨_,_,_,rfl,fun O=>by rfl',fun O=>by rfl',fun row=>by rfl'⟩) (.inr ⟨_,_,_,rfl,fun O=>by rfl',fun O=>by rfl',fun row=>by rfl'⟩) (.inr ⟨_,_,_,rfl,fun O=>by rfl',fun O=>by rfl',fun row=>by rfl'⟩) (.inr ⟨_,_,_,rfl,fun O=>by rfl',fun O=>by rfl',fun row=>by rfl'⟩) (.inr ⟨_,_,_,rfl,fun O=>by rfl',fun O=>by rfl',fun row=>by rfl'⟩) (.inr ⟨_,_,_,rfl,fun O=>by rfl',fun O=>by rfl',fun row=>by rfl'⟩) (.inr ⟨_,_,_,rfl,fun O=>by rfl',fun O=>by rfl',fun row=>by rfl'⟩) (.inr ⟨_,_,_,rfl,fun O=>by rfl',fun O=>by rfl',fun row=>by rfl'⟩) (.inr ⟨_,_,_,rfl,fun O=>by rfl',fun O=>by rfl',fun row=>by rfl'⟩) (.inr ⟨_,_,_,rfl,fun O=>by rfl',fun O=>by rfl',fun row=>by rfl'⟩)
noncomputable abbrev Cj(c:Nat)(b:V)(oT oR o1 o2 o3 o4:Option V):af:=[(S "text",oT),(S "found",some (.sett c)),(S "block",some b),(S "rows",oR),(S "at",o1),(S "line",o2),(S "words",o3),(S "is_inner",o4)]
noncomputable abbrev WW:lI:=kD (aZ "read_settings").body 3
noncomputable abbrev Pk(c:Nat)(b:V)(oT oR o1 o2 o3 o4:Option V)(vs:List V)(O:U):b7:=wV fJ 59 (aZ "read_settings") WW vs (Cj c b oT oR o1 o2 o3 o4) O
noncomputable def Rd(c i:Nat)(ls:List (List Nat))(ks:List (List Atom))(vs:List V)(b:V)(d1:List (List Atom))(gv:List V)(b':V):Prop :=
 ∀ (rest:List V) (oT oR o1 o2 o3 o4:Option V) (O:U),O[c]?=some (.dict ks vs)->∃ WX Pb Kg Kh,Pk c b oT oR o1 o2 o3 o4 (jf i (ls.map .str++rest)) O=Pk c b' oT oR WX Pb Kg Kh (jf (i+ls.length) rest) (O.set c (.dict d1 gv))
section
variable{d1 Nz:List (List Atom)}{gv NA:List V}{b b' T3:V}
theorem rN{x:Cell}(h:O[c]?=some x):O.set c x=O:=by
 generalize((iQ h)).1=hc;generalize((iQ h)).2=e;rw[<- e];exact List.set_getElem_self hc
theorem Rd.nil:Rd c i [] ks vs b ks vs b:=fun rest oT oR o1 o2 o3 o4 O h=>⟨o1,o2,o3,o4,by rw[rN h];rfl⟩
theorem Rd.app{l1 l2:List (List Nat)}(x:Rd c i l1 ks vs b d1 gv b')(y:Rd c (i+l1.length) l2 d1 gv b' Nz NA T3):Rd c i (l1++l2) ks vs b Nz NA T3:=fun rest oT oR o1 o2 o3 o4 O h=>by
 generalize((iQ h).1:c<O.length)=hc;refine ab fun _ gG=>?_;obtain⟨p1,p2,p3,p4,e1⟩:=x (l2.map .str++rest) oT oR o1 o2 o3 o4 O h;refine gG ?_;clear gG
 refine ab fun _ gG=>?_;obtain⟨q1,q2,q3,q4,e2⟩:=y rest oT oR p1 p2 p3 p4 (O.set c (.dict d1 gv)) (by simp[hc]);refine gG ?_;clear gG
 refine⟨q1,q2,q3,q4,?_⟩;rw[mf,cJ,e1,e2,List.set_set,bv,ab2]
theorem Hj{l:List Nat}(h:∀ O,br [.str l,.int ((i+1:Nat):Int)] O= .ok (.lst [],O)):Rd c i [l] ks vs b ks vs b:=fun rest oT oR o1 o2 o3 o4 O hd=>by
 generalize(h O)=w;generalize(rfl:av .Eq (.lst []) (.lst []) O=some true)=e;refine⟨some (.int (i:Nat)),some (.str l),some (.lst []),o4,?_⟩;rw[rN hd];exact vC (bj:=Cj c b oT oR (some (.int (i:Nat))) (some (.str l)) o3 o4) (by rfl') (au [cO w,bO e,.t true] (by rfl') fun z=>A w (A e (A tt z))) rfl
theorem jb(hz:(ch::lr).length<=ai):bC (.str (ch::lr)) (.int 0) O=some (.str [ch]):=d6 (i:=0) rfl hz
theorem zY{a:V}(hz:(a::l).length<=ai):bC (.lst (a::l)) (.int 0) O=some a:=lm (i:=0) rfl hz
theorem MG{h:List Nat} : bC (wd h) (.int 0) O=some (.str h):=gN (i:=0) rfl (by show 2<=100000;decide)
theorem kq{a b:List V}(h:a.length+b.length<=ai):b9 .Add (.lst a) (.lst b)=some (.lst (a++b)):=if_pos h
theorem is_none_none:av .Is .none .none O=some true:=rfl
theorem zZ:av .Is (.lst l) .none O=some false:=rfl
theorem Hk{l:List Nat}{x:cG}(hl:l=ch::lr)(hch:ch≠32)(ha:ch<128)(hz:l.length<=1000)(hw:∀ O,br [.str l,.int ((i+1:Nat):Int)] O= .ok (.lst (aQ x.path++[out]),O))(hx:x∈pathsL)(hA:zX x)(tl:hZ x.kind v raw)
  (ho:∀ row O,c9 [x.kind,.lst [out],.int row] O= .ok (v,O)) (hn:x.path∉ks) (hk:ks.length=vs.length) (qP:ks.length<=ai):Rd c i [l] ks vs b (ks++[x.path]) (vs++[v]) .none:=fun rest oT oR o1 o2 o3 o4 O hd=>by
 subst hl;have bk:ai=100000:=rfl;refine ab fun _ gG=>?_;obtain⟨h,r,e,hr,hin,_⟩:=hA;refine gG ?_;clear gG
 have hp:x.path.length<=10:=by rw[e];simp;exact lA ‹_<=1› rfl
 have rr:=fun τ WY=>qO (c:=c) (O:=τ) (row:=((i+1:Nat):Int)) hx tl ho WY hn hk qP hp
 have ew:aQ x.path++[out]=wd h::(aQ r++[out]):=by rw[e];rfl
 have Ck:(wd h::(aQ r++[out])).length<=ai:=by simp only[cx,bv,bR,dv];exact Q5 ‹_› ‹_›
 generalize(kq (by rw[dv,abg];exact Ck):b9 .Add (.lst []) (.lst (wd h::(aQ r++[out])))=some (.lst (wd h::(aQ r++[out]))))=jc;generalize(rr O hd)=rr;rw[ew]at hw rr;generalize(hw O)=w;generalize(i7 (O:=O) (wd h::(aQ r++[out])))=ne;generalize(jb (O:=O) (ch:=ch) (lr:=lr) (bL hz (by decide)))=f0;generalize((nr ha (by decide)).trans (congrArg some (dF hch)):av .Eq (.str [ch]) (.str [32]) O=some false)=lu;generalize(zY (O:=O) Ck)=i0;generalize(MG (O:=O) (h:=h))=i1;generalize(hin (O:=O))=hin;exact⟨some (.int (i:Nat)),some (.str (ch::lr)),some (.lst (wd h::(aQ r++[out]))),some (.bool false),rE (bj:=Cj c b oT oR (some (.int (i:Nat))) (some (.str (ch::lr))) o3 o4) (by rfl')
  (au [cO w,bO ne,.t false,vO f0,bO lu,.t false,.t false,.t true,vO i0,vO i1,bO hin,.t false,.t true,.t false,vO jc,cO rr] (by rfl') fun z=>A w (A ne (A ff (A f0 (A lu (A ff (A ff (A tt (A i0 (A i1 (A hin (A ff (A tt (A ff (A jc (A rr z)))))))))))))))) rfl⟩
theorem Ko{l:List Nat}{h pa:List Nat}(hl:l=ch::lr)(hch:ch≠32)(ha:ch<128)(hz:l.length<=1000)(hw:∀ O,br [.str l,.int ((i+1:Nat):Int)] O= .ok (.lst [wd h,wd pa],O))(hin:∀ O,av .In (.str h) di O=some true)(hb:∀ row,bS [.lst [wd h,wd pa],.int row] []= .ok (.lst [wd h,wd pa],[])) :
  Rd c i [l] ks vs b ks vs (.lst [wd h,wd pa]):=fun rest oT oR o1 o2 o3 o4 O hd=>by
 subst hl;generalize(rfl:ai=100000)=bk;generalize(hw O)=w;generalize(i7 (O:=O) [wd h,wd pa])=ne;generalize(jb (O:=O) (ch:=ch) (lr:=lr) (bL hz (by decide)))=f0;generalize((nr ha (by decide)).trans (congrArg some (dF hch)):av .Eq (.str [ch]) (.str [32]) O=some false)=lu;generalize(zY (O:=O) (a:=wd h) (l:=[wd pa]) (show 2<=100000 by decide))=i0;generalize(MG (O:=O) (h:=h))=i1;generalize(hin O)=hin;generalize(bz (hb _):bS [.lst [wd h,wd pa],.int ((i+1:Nat):Int)] O= .ok (.lst [wd h,wd pa],O))=hb;refine⟨some (.int (i:Nat)),some (.str (ch::lr)),some (.lst [wd h,wd pa]),some (.bool false),?_⟩;rw[rN hd];exact vC (bj:=Cj c b oT oR (some (.int (i:Nat))) (some (.str (ch::lr))) o3 o4) (by rfl')
  (au [cO w,bO ne,.t false,vO f0,bO lu,.t false,.t false,.t true,vO i0,vO i1,bO hin,.t true,cO hb] (by rfl') fun z=>A w (A ne (A ff (A f0 (A lu (A ff (A ff (A tt (A i0 (A i1 (A hin (A tt (A hb z))))))))))))) rfl
theorem Hl{l:List Nat}{x:cG}{h:List Nat}{a bb:Atom}(hl:l=32::lr)(hz:l.length<=1000)(hw:∀ O,br [.str l,.int ((i+1:Nat):Int)] O= .ok (.lst [wd (ak bb),out],O))(hx:x∈pathsL)(he:x.path=[.str h,a,bb])(tl:hZ x.kind v raw)
  (ho:∀ row O,c9 [x.kind,.lst [out],.int row] O= .ok (v,O)) (hn:x.path∉ks) (hk:ks.length=vs.length) (qP:ks.length<=ai):Rd c i [l] ks vs (.lst [wd h,wd (ak a)]) (ks++[x.path]) (vs++[v]) (.lst [wd h,wd (ak a)]):=fun rest oT oR o1 o2 o3 o4 O hd=>by
 subst hl;generalize(rfl:ai=100000)=bk;have hp:x.path.length<=10:=by rw[he];simp
 generalize(qO (c:=c) (O:=O) (row:=((i+1:Nat):Int)) hx tl ho hd hn hk qP hp)=rr;have ew:aQ x.path++[out]=[wd h,wd (ak a)]++[wd (ak bb),out]:=by rw[he];rfl
 rw[ew]at rr;generalize(hw O)=w;generalize(i7 (O:=O) [wd (ak bb),out])=ne;generalize(jb (O:=O) (ch:=32) (lr:=lr) (bL hz (by decide)))=f0;generalize((nr (by decide) (by decide)).trans (congrArg some (dT rfl)):av .Eq (.str [32]) (.str [32]) O=some true)=lu;generalize(zZ (O:=O) (l:=[wd h,wd (ak a)]))=nn;generalize(kq (by show 2+2<=100000;decide):b9 .Add (.lst [wd h,wd (ak a)]) (.lst [wd (ak bb),out])=some (.lst ([wd h,wd (ak a)]++[wd (ak bb),out])))=jc;exact⟨some (.int (i:Nat)),some (.str (32::lr)),some (.lst [wd (ak bb),out]),some (.bool true),rE (bj:=Cj c (.lst [wd h,wd (ak a)]) oT oR (some (.int (i:Nat))) (some (.str (32::lr))) o3 o4) (by rfl')
  (au [cO w,bO ne,.t false,vO f0,bO lu,.t true,bO nn,.t false,.t false,.t false,.t false,.t true,vO jc,cO rr] (by rfl') fun z=>A w (A ne (A ff (A f0 (A lu (A tt (A nn (A ff (A ff (A ff (A ff (A tt (A jc (A rr z)))))))))))))) rfl⟩
end
noncomputable def eI(l:List Nat):Prop:=(∀ c∈l,32<=c/\c<128)/\l.length<=300
theorem cQ{x:cG}(hx:x∈pathsL):(∀ a∈x.path,Ey a=true/\t0 (ak a)=true)/\x.path.length<=3:=by
 have:=yg Ch x hx;simp only[gT,ZF,decide_eq_true_eq]at this;exact this
theorem bE(h:t0 raw=true):pz raw (wd raw)/\(∀ c∈raw,32<=c/\c<128)/\raw.length<=40/\∃ ch r,raw=ch::r/\ch≠32/\ch<128:=by
 generalize(ja (raw:=raw) h)=h2;refine⟨h2.1,h2.2.1,h2.2.2,?_⟩;rcases h2.1 with⟨_,hne,hp,_⟩|⟨t,_,e,_⟩
 ·obtain⟨ch,r,rfl⟩:=aaH hne;exact⟨ch,r,rfl,(hp ch aW).1,(h2.2.1 ch aW).2⟩
 ·cases e
noncomputable def seps:List (List Nat):=[[32],[32,32]]
theorem qQ(h:sep∈seps):sep=[32]\/sep=[32,32]:=by simpa[seps]using h
theorem vZ(h:tl∈fo):(∀ c∈tl,32<=c/\c<128)/\tl.length<=9:=by
 simp only[fo,j3,eP,or_false]at h;rcases h with rfl|rfl|rfl|rfl<;>exact⟨by decide,by decide⟩
theorem tc{sep:List Nat}(hs:∀ c∈sep,32<=c/\c<128):∀ {ts:List (List Nat)},(∀ t∈ts,∀ c∈t,32<=c/\c<128)->∀ c∈an sep ts,32<=c/\c<128
 | [],_,c,m=>by cases m
 | [t],h,c,m=>h t aW c m
 | t::u::ts,h,c,m=>by
  rcases bU m with m|m
  ·rcases bU m with m|m
   ·exact h t aW c m
   ·exact hs c m
  ·exact tc hs (fun x hx=>h x (bG _ hx)) c m
theorem v4{ts:List (List Nat)}(hO:sep∈seps)(ht:tl∈fo)(h:∀ t∈ts,(∀ c∈t,32<=c/\c<128)/\t.length<=40)(hl:ts.length<=4):(∀ c∈an sep ts++tl,32<=c/\c<128)/\(an sep ts++tl).length<=250:=by
 have hs:(∀ c∈sep,32<=c/\c<128)/\sep.length<=2:=by
  rcases qQ hO with rfl|rfl<;>exact⟨by decide,by decide⟩
 generalize((vZ ht)).1=t1;generalize((vZ ht)).2=t2;refine⟨fun c m=>?_,?_⟩
 ·rcases bU m with m|m
  ·exact tc hs.1 (fun t mt=>(h t mt).1) c m
  ·exact t1 c m
 ·generalize(nG (sep:=sep) ts)=a;generalize(ko fun t mt=>(h t mt).2)=b;generalize(ac3 hs.2 hl:sep.length*ts.length<=2*4)=d;rw[bv];exact RJ ‹_› ‹_› ‹_› ‹_› ‹_›
section
variable{b:V}{x:cG}
theorem Cm(hs:gD x v raw)(hA:zX x)(hO:sep∈seps)(ht:tl∈fo):eI (an sep (x.path.map ak++[raw])++tl)/\∀ (c i:Nat) (ks:List (List Atom)) (vs:List V) (b:V),x.path∉ks->ks.length=vs.length->ks.length<=1000->Rd c i [an sep (x.path.map ak++[raw])++tl] ks vs b (ks++[x.path]) (vs++[v]) .none:=by
 generalize((hs)).1=hx;generalize((hs)).2=qR;generalize((cQ hx)).1=pf;generalize((cQ hx)).2=p3;obtain⟨out,tk,hc,ho⟩:=qR.tok;have eC:=v4 (ts:=x.path.map ak++[raw]) hO ht (fun t m=>by
  rcases bU m with m|m
  ·obtain⟨a,ha,rfl⟩:=iP m;generalize(((bE (pf a ha).2)).2).1=q1;generalize((((bE (pf a ha).2)).2).2).1=q2;exact⟨q1,q2⟩
  ·rw[a8 m];exact⟨qR.ascr,qR.len⟩) (by simp;assumption)
 refine⟨⟨eC.1,lA eC.2 rfl⟩,fun c i ks vs b hn hk qP=>?_⟩;generalize(rfl:(x.path.map fun a=>(ak a,wd (ak a)))++[(raw,out)]=(x.path.map fun a=>(ak a,wd (ak a)))++[(raw,out)])=e1;have m1:((x.path.map fun a=>(ak a,wd (ak a)))++[(raw,out)]).map (·.1)=x.path.map ak++[raw]:=by rw[mf,Y7];rfl
 have m2:((x.path.map fun a=>(ak a,wd (ak a)))++[(raw,out)]).map (·.2)=aQ x.path++[out]:=by rw[mf,Y7];rfl
 have hw:∀ O,br [.str (an sep (x.path.map ak++[raw])++tl),.int ((i+1:Nat):Int)] O= .ok (.lst (aQ x.path++[out]),O):=fun O=>by
  have:=nw (row:=((i+1:Nat):Int)) (O:=O) (pfx:=[]) (ts:=(x.path.map fun a=>(ak a,wd (ak a)))++[(raw,out)]) (qQ hO) ht (.inl rfl) (fun y m=>by
   rcases bU m with m|m
   ·obtain⟨a,ha,rfl⟩:=iP m;exact(bE (pf a ha).2).1
   ·rw[a8 m];exact tk) (by
   rw[m2];have:∀ p:List Atom,V.cleans (aQ p++[out])=true:=fun p=>by
    induction p with
    | nil=>show(V.clean out&&true)=true;rw[hc];rfl
    | cons a p ih=>exact ih
   exact this _) (by rw[m1];exact fun c m=>(eC.1 c m).2) (by rw[m1,abi];exact lB eC.2 rfl) (by simp;exact lA ‹_<=3› rfl)
  rw[m1,m2]at this;exact this
 obtain⟨h,r,e,_⟩:=id hA;obtain⟨_,_,_,ch,rr,Pl,Pm,lt⟩:=bE (pf (.str h) (by rw[e];exact aW)).2;have Pn:∃ lr,an sep (x.path.map ak++[raw])++tl=ch::lr:=by
  have:x.path.map ak++[raw]=ak (.str h)::(r.map ak++[raw]):=by rw[e];rfl
  rw[this];obtain⟨r',e'⟩:=md (sep:=sep) (ts:=r.map ak++[raw]) Pl;exact⟨r'++tl,by rw[e'];rfl⟩
 obtain⟨lr,hl⟩:=Pn;exact Hk hl Pm lt (by first|exact lA eC.2 rfl|exact lB eC.2 rfl) hw hx hA qR ho hn hk (by have:ai=100000:=rfl;exact r3 ‹_› ‹_›)
theorem v5(hx:x∈pathsL){h:List Nat}{a bb:Atom}(e:x.path=[.str h,a,bb])(hin:∀ O,av .In (.str h) di O=some true)(hb:∀ row,bS [.lst [wd h,wd (ak a)],.int row] []= .ok (.lst [wd h,wd (ak a)],[]))(hO:sep∈seps)(ht:tl∈fo) :
  eI (an sep [h,ak a]++tl)/\∀ (c i:Nat) (ks:List (List Atom)) (vs:List V) (b:V),Rd c i [an sep [h,ak a]++tl] ks vs b ks vs (.lst [wd h,wd (ak a)]):=by
 generalize((cQ hx)).1=pf;generalize((cQ hx)).2=p3;obtain⟨k1,q1,q2,ch,rr,Pl,Pm,lt⟩:=bE (raw:=h) (pf (.str h) (by rw[e];exact aW)).2;generalize((bE (pf a (by rw[e];simp)).2)).1=k2;generalize(((bE (pf a (by rw[e];simp)).2)).2).1=q3;generalize((((bE (pf a (by rw[e];simp)).2)).2).2).1=q4;have eC:=v4 (ts:=[h,ak a]) hO ht (fun t m=>by
  simp only[j3,eP,or_false]at m;rcases m with rfl|rfl
  ·exact⟨q1,q2⟩
  ·exact⟨q3,q4⟩) (by show 2<=4;decide)
 refine⟨⟨eC.1,lA eC.2 rfl⟩,fun c i ks vs b=>?_⟩;have hw:∀ O,br [.str (an sep [h,ak a]++tl),.int ((i+1:Nat):Int)] O= .ok (.lst [wd h,wd (ak a)],O):=fun O =>
  nw (row:=((i+1:Nat):Int)) (O:=O) (pfx:=[]) (ts:=[(h,wd h),(ak a,wd (ak a))]) (qQ hO) ht (.inl rfl) (fun y m=>by
   simp only[j3,eP,or_false]at m;rcases m with rfl|rfl
   ·exact k1
   ·exact k2) rfl (fun c m=>(eC.1 c m).2) (by show(an sep [h,ak a]++tl).length<4096;exact lB eC.2 rfl) (by show 2<=100;decide)
 obtain⟨r',e'⟩:=md (sep:=sep) (ts:=[ak a]) Pl;exact Ko (l:=an sep [h,ak a]++tl) (lr:=r'++tl) (by rw[e'];rfl) Pm lt (by first|exact lA eC.2 rfl|exact lB eC.2 rfl) hw hin hb
theorem td(hs:gD x v raw){h:List Nat}{a bb:Atom}(e:x.path=[.str h,a,bb])(hO:sep∈seps)(ht:tl∈fo) :
  eI (32::(an sep [ak bb,raw]++tl))/\∀ (c i:Nat) (ks:List (List Atom)) (vs:List V),x.path∉ks->ks.length=vs.length->ks.length<=1000->Rd c i [32::(an sep [ak bb,raw]++tl)] ks vs (.lst [wd h,wd (ak a)]) (ks++[x.path]) (vs++[v]) (.lst [wd h,wd (ak a)]):=by
 generalize((hs)).1=hx;generalize((hs)).2=qR;generalize((cQ hx)).1=pf;generalize((cQ hx)).2=p3;obtain⟨out,tk,hc,ho⟩:=qR.tok;generalize((bE (pf bb (by rw[e];simp)).2)).1=k2;generalize(((bE (pf bb (by rw[e];simp)).2)).2).1=q3;generalize((((bE (pf bb (by rw[e];simp)).2)).2).2).1=q4;have eC:=v4 (ts:=[ak bb,raw]) hO ht (fun t m=>by
  simp only[j3,eP,or_false]at m;rcases m with rfl|rfl
  ·exact⟨q3,q4⟩
  ·exact⟨qR.ascr,qR.len⟩) (by show 2<=4;decide)
 have hch:∀ c∈32::(an sep [ak bb,raw]++tl),32<=c/\c<128:=fun c m=>by
  rcases cn m with rfl|m
  ·decide
  ·exact eC.1 c m
 have ck:(32::(an sep [ak bb,raw]++tl)).length<=251:=by rw[cx];first|exact j5 eC.2|exact bL (j5 eC.2) (by decide)
 refine⟨⟨hch,by exact lA ‹_<=251› rfl⟩,fun c i ks vs hn hk qP=>?_⟩;have hw:∀ O,br [.str (32::(an sep [ak bb,raw]++tl)),.int ((i+1:Nat):Int)] O= .ok (.lst [wd (ak bb),out],O):=fun O =>
  nw (row:=((i+1:Nat):Int)) (O:=O) (pfx:=[32]) (ts:=[(ak bb,wd (ak bb)),(raw,out)]) (qQ hO) ht (.inr rfl) (fun y m=>by
   simp only[j3,eP,or_false]at m;rcases m with rfl|rfl
   ·exact k2
   ·exact tk) (by show(V.clean out&&true)=true;rw[hc];rfl) (fun c m=>(hch c m).2) (by show(32::(an sep [ak bb,raw]++tl)).length<4096;exact lB ‹_<=251› rfl) (by show 2<=100;decide)
 exact Hl rfl (by exact lA ‹_<=251› rfl) hw hx e qR ho hn hk (by have:ai=100000:=rfl;exact r3 ‹_› ‹_›)
noncomputable def blanks:List (List Nat):=[[],[33,32,110,111,116,104,105,110,103],[32,32,32],[32,32,33,32,34,32,115,116,97,121,115,32,111,112,101,110]]
theorem nK{l:List Nat}(h:l∈blanks):eI l/\∀ (c i:Nat) (ks:List (List Atom)) (vs:List V) (b:V),Rd c i [l] ks vs b ks vs b:=by
 refine⟨?_,fun c i ks vs b=>Hj fun O=>zJ h⟩;simp only[blanks,j3,eP,or_false]at h;rcases h with rfl|rfl|rfl|rfl<;>exact⟨by decide,by decide⟩
end
section
theorem z5{ts:List (List Nat)}(hs:dp k τ)(hz:∀ t∈ts,t.length<=40)(hl:ts.length<=4):∃ (sep tl:List Nat) (aD:U),sep∈seps/\tl∈fo/\Stp k τ aD/\jx [.ref k,.lst (ts.map .str)] τ= .ok (.str (an sep ts++tl),aD):=by
 have bk:ai=100000:=rfl;refine ab fun _ gG=>?_;obtain⟨v1,bn,t1,t2,t3⟩:=gu (O:=τ) (k:=k) (l:=seps.map .str) hs (by simp[seps]) (dZ (by decide));refine gG ?_;clear gG
 refine ab fun _ gG=>?_;obtain⟨sep,hO,rfl⟩:=iP t3;refine gG ?_;clear gG
 have t1:aw [.ref k,.lst [.str [32],.str [32,32]]] τ= .ok (.str sep,bn):=t1;refine ab fun _ gG=>?_;obtain⟨v2,bf,u1,u2,u3⟩:=gu (O:=bn) (k:=k) (l:=[.str [],.str [],.str [32],.str [32,33,32,114,101,109,97,114,107],.str [32,32,33]]) t2.1 (by simp) (dZ (by decide));refine gG ?_;clear gG
 obtain⟨tl,rfl,Kl⟩:∃ tl,v2= .str tl/\tl∈fo:=by
  simp only[j3,eP,or_false]at u3;rcases u3 with rfl|rfl|rfl|rfl|rfl<;>exact⟨_,rfl,by simp[fo]⟩
 have ej:sep.length<=2:=by rcases qQ hO with rfl|rfl<;>decide
 have b1:=ko hz;have b2:=nG (sep:=sep) ts;have d:sep.length*ts.length<=2*4:=ac3 ej hl;have d2:ts.length*sep.length<=4*2:=ac3 hl ej;refine ab fun _ gG=>?_;generalize((vZ Kl)).2=t9;refine gG ?_;clear gG
 have j:cV (.str sep) (S "join") [.lst (ts.map .str)] bn=some (.str (an sep ts)):=jX rfl (by exact Sy ‹_› ‹_› ‹_› ‹_›) (by exact RS ‹_› ‹_›);have ad:b9 .Add (.str (an sep ts)) (.str tl)=some (.str (an sep ts++tl)):=l9 (by exact SD ‹_› ‹_› ‹_› ‹_› ‹_› ‹_›);generalize(mt (T:=sL) j)=j;exact⟨sep,tl,bf,hO,Kl,t2.trans u2,aX [cO t1,cO j,cO u1,vO ad] (by rfl') fun z=>A t1 (A j (A u1 (A ad z)))⟩
theorem v6(hF:∀ {τ:U},dp k τ->Drawn k τ (F [.ref k] τ))(ρ:U)(hs:dp k τ):∃ (x:cG) (worth:V) (raw:List Nat) (aD:U),gD x worth raw/\Stp k τ aD/\F [.ref k] (τ++ρ)= .ok (.tup [aC x.path,.tup [worth,.str raw]],aD++ρ):=by
 refine ab fun _ gG=>?_;obtain⟨x,v,raw,ar,h1,h2,h3⟩:=hF (nH (ρ:=ρ) hs);refine gG ?_;clear gG
 refine ab fun _ gG=>?_;obtain⟨aD,rfl,h4⟩:=qL (tZ hs) h2;refine gG ?_;clear gG
 exact⟨x,v,raw,aD,h1,h4,h3⟩
theorem rO{ts:List (List Nat)}(ρ:U)(hs:dp k τ)(hz:∀ t∈ts,t.length<=40)(hl:ts.length<=4):∃ (sep tl:List Nat) (aD:U),sep∈seps/\tl∈fo/\Stp k τ aD/\jx [.ref k,.lst (ts.map .str)] (τ++ρ)= .ok (.str (an sep ts++tl),aD++ρ):=by
 refine ab fun _ gG=>?_;obtain⟨sep,tl,ar,h1,h2,h3,h4⟩:=z5 (τ:=τ++ρ) (nH hs) hz hl;refine gG ?_;clear gG
 refine ab fun _ gG=>?_;obtain⟨aD,rfl,h5⟩:=qL (tZ hs) h3;refine gG ?_;clear gG
 exact⟨sep,tl,aD,h1,h2,h5,h4⟩
structure BInv(m:Nat)(lines:List (List Nat))(ks:List (List Atom))(vs:List V)(bb rb:V):Prop where
 rd:∀ c,Rd c 0 lines [] [] .none ks vs rb
 blk:(bb= .none/\rb= .none)\/∃ h a,bb= .tup [.str h,a.toV]/\rb= .lst [wd h,wd (ak a)]/\gj h/\(∀ l,a= .str l->gj l)
 nd:ks.Nodup
 len:ks.length=vs.length
 each:∀ (i:Nat) (p:List Atom) (v:V),ks[i]?=some p->vs[i]?=some v->∃ x raw,gD x v raw/\x.path=p
 ok:∀ l∈lines,eI l
 lz:lines.length<=3*m
 kz:ks.length<=m
variable{lines:List (List Nat)}{bb rb:V}{x:cG}
theorem BInv.up(I:BInv m lines ks vs bb rb):BInv (m+1) lines ks vs bb rb:=⟨I.rd,I.blk,I.nd,I.len,I.each,I.ok,by have:=I.lz;exact QA ‹_›,by have:=I.kz;exact P0 ‹_›⟩
theorem BInv.more{l:List Nat}{Ez:V}(I:∀ c,Rd c 0 lines [] [] .none ks vs rb)(hr:∀ (c i:Nat),Rd c i [l] ks vs rb ks vs Ez):∀ c,Rd c 0 (lines++[l]) [] [] .none ks vs Ez:=fun c=>(I c).app (hr c _)
theorem EA{p:List Atom}(hl:ks.length=vs.length)(h:∀ (i:Nat) (p:List Atom) (v:V),ks[i]?=some p->vs[i]?=some v->∃ x raw,gD x v raw/\x.path=p)(hs:gD x v raw) :
  ∀ (i:Nat) (q:List Atom) (w:V),(ks++[x.path])[i]?=some q->(vs++[v])[i]?=some w->∃ x raw,gD x w raw/\x.path=q:=fun i q w h1 h2=>by
 by_cases c:i<ks.length
 ·rw[eQ c]at h1;rw[eQ (by exact QM ‹_› ‹_›)]at h2;exact h i q w h1 h2
 ·rw[eM (by exact r2 ‹_›)]at h1;rw[eM (by exact QT ‹_› ‹_›)]at h2;have e1:i-ks.length=0:=by
   have:=(iQ h1).1;simp at this;assumption
  rw[e1]at h1;rw[show i-vs.length=0 by exact Q8 ‹_› ‹_›]at h2;cases h1;cases h2
  exact⟨x,raw,hs,rfl⟩
theorem Cn{p:List Atom}(h:ks.Nodup)(hn:p∉ks):(ks++[p]).Nodup:=by
 rw[aaU];exact⟨h,by simp,fun a ha b hb=>by rw[a8 hb];exact fun e=>hn (e▸ha)⟩
end
noncomputable def dI:Atom->ae3
 | .int i=>.int i
 | .str l=>.str (aB l)
noncomputable def d8:Atom->Prop
 | .int _=>True
 | .str l=>gj l
theorem v9(a:Atom):V.toPy a.toV=some (dI a):=by cases a<;>rfl
theorem gR{a:Atom}(h:d8 a):(dI a).canLay0=true/\(dI a).depth=0:=by
 cases a with
 | int i=>exact⟨by simp[dI,YX],by simp[dI,ZT]⟩
 | str l=>exact⟨(show _=(aB l).cps.all (· < 0x110000)by simp[dI,YX,PyData.strOk]).trans (Fm h),by simp[dI,ZT]⟩
theorem Hm(a b:Atom):Yz (dI a) (dI b)=decide (a=b):=by
 cases a with
 | int i =>
  cases b with
  | int j =>
   show(i==j)=_;by_cases h:i=j<;>simp[h]
  | str l=>simp[dI,Yz]
 | str l =>
  cases b with
  | int j=>simp[dI,Yz]
  | str m =>
   show Yz (.str (aB l)) (.str (aB m))=_;rw[BV];by_cases h:l=m<;>simp[h]
theorem rP(x y:Atom):V.toPy (.tup [x.toV,y.toV])=some (.tuple [dI x,dI y]):=by
 show((V.toPy x.toV).bind fun d=>((V.toPy y.toV).bind fun e=>some [e]).map fun ds=>d::ds).map _=_;rw[v9,v9];rfl
theorem Kq{a b c d:Atom}(ha:d8 a)(hb:d8 b)(hc:d8 c)(hd:d8 d):fM (.tup [a.toV,b.toV]) (.tup [c.toV,d.toV])=some (decide (a=c)&&decide (b=d)):=by
 have sh:∀ {x y:Atom},d8 x->d8 y->iI (.tuple [dI x,dI y])=true:=fun hx hy=>by
  unfold iI;simp[YX,Zr,ZT,aa5,(gR hx).1,(gR hx).2,(gR hy).1,(gR hy).2]
 unfold fM;rw[rP,rP];simp only[cH];rw[if_pos ⟨sh ha hb,sh hc hd⟩];simp[Yz,aeB,Hm]
theorem wZ{a b:Atom}(ha:d8 a)(hb:d8 b):fM (.tup [a.toV,b.toV]) .none=some false:=by
 have sh:iI (.tuple [dI a,dI b])=true:=by
  unfold iI;simp[YX,Zr,ZT,aa5,(gR ha).1,(gR ha).2,(gR hb).1,(gR hb).2]
 have tn:V.toPy .none=some .none:=rfl;unfold fM;rw[rP,tn];simp only[cH];rw[if_pos ⟨sh,by rfl'⟩];simp[Yz]
theorem in_dict{p:List Atom}(h:O[n]?=some (.dict ks vs)):av .In (aC p) (.ref n) O=some (ks.contains p):=by
 simp only[av,Fz,h,jZ];rfl
theorem z6(i:Int):fx (.int i) "str"=some false:=by rfl'
noncomputable abbrev lbB:List lI:=fR (kD (aZ "_law_built").body 1)
noncomputable abbrev pF(k N:Nat)(bb:V)(o1 o2 o3 o4 o5:Option V):af:=[(S "source",some (.ref k)),(S "lines",some (.ref N)),(S "told",some (.ref (N+1))),(S "block",some bb),(S "turn",o1),(S "path",o2),(S "worth",o3),(S "text",o4),(S "parts",o5)]
noncomputable abbrev WZ:Expr:=vv (kD lbB 4)
theorem Hn:∀ (p:List Atom) (o1 o2:Option V),(∀ a∈p,Ey a=true)->mC de 56 (aZ "_law_built") WZ [(S ".0",o1),(S "part",o2)] (p.map Atom.toV) O= .ok ((p.map ak).map .str,O):=fun p=>by
 induction p with
 | nil=>exact fun o1 o2 _=>rfl
 | cons a p ih =>
  intro o1 o2 h;generalize(ih o1 (some a.toV) fun x m=>h x (bG _ m))=ih;generalize(h a aW)=ha;induction a using Atom.casesOn with
  | int i =>
   generalize(((abI (x:=decide _)).mp ha)).1=h1;generalize(((abI (x:=decide _)).mp ha)).2=h2;generalize(of_decide_eq_true h1)=h1;generalize(of_decide_eq_true h2)=h2;generalize(zK (O:=O) (i:=i) ⟨ZS (by decide) h1,YR h2 (by decide)⟩)=s;generalize(congrArg (acE V.bool) (z6 i):(fx (.int i) "str").map V.bool=some (.bool false))=e;exact rF (bj:=[(S ".0",o1),(S "part",some (.int i))]) (by rfl') rfl (rC [vO e,.t false,vO s] (by rfl') fun z=>A e (A ff (A s z))) ih
  | str l =>
   generalize(congrArg (acE V.bool) (Kd l):(fx (.str l) "str").map V.bool=some (.bool true))=e;exact rF (bj:=[(S ".0",o1),(S "part",some (.str l))]) (by rfl') rfl (rC [vO e,.t true] (by rfl') fun z=>A e (A tt z)) ih
theorem cZ{f:lI->af->U->b7}{l:List lI} : ∀ {j:Nat} {ρ:af} {O:U},ay f ((l.drop i).take j) ρ O= .ok ((.next,aU),ar)->ay f (l.drop i) ρ O=ay f (l.drop (i+j)) aU ar:=fun{j ρ O} h=>by
 rw[<- List.drop_drop];generalize l.drop i=l at *;induction l generalizing j ρ O with
 | nil =>
  rw[List.take_nil]at h;rw[List.drop_nil];cases h;rfl
 | cons s ss ih =>
  induction j using ZU with
  | zero=>cases(show(R.ok ((Fl.next,ρ),O):b7)=_ from h);rfl
  | succ j =>
   show(f s ρ O).bind (Ea f ss)=_;have h:(f s ρ O).bind (Ea f (ss.take j))=_:=h;generalize f s ρ O=r at *;rcases r with⟨⟨_|_|_|_,bj⟩,aS⟩|_|_
   ·exact ih h
   all_goals (exact nomatch h)
theorem Kr{a b:V}(hz:(a::b::l).length<=ai):bg (.lst (a::b::l)) none (some 2)=some (.lst [a,b]):=by
 generalize(hz)=wD;simp only[cx]at wD;generalize(eH (by simp):cf (a::b::l).length ((2:Nat):Int)=2)=c1;delta bg;dsimp only;rw[if_pos hz];delta cut;dsimp only
 have c1:cf (a::b::l).length 2=2:=c1;rw[c1];rfl
theorem Ho{a b:V}(hz:(a::b::l).length<=ai):bg (.tup (a::b::l)) none (some 2)=some (.tup [a,b]):=by
 generalize(eH (by simp):cf (a::b::l).length ((2:Nat):Int)=2)=c1;delta bg;dsimp only;rw[if_pos hz];delta cut;dsimp only
 have c1:cf (a::b::l).length 2=2:=c1;rw[c1];rfl
theorem Hp{a b:V}(hz:(a::b::l).length<=ai):bg (.lst (a::b::l)) (some 2) none=some (.lst l):=by
 generalize(eH (by simp):cf (a::b::l).length ((2:Nat):Int)=2)=c1;delta bg;dsimp only;rw[if_pos hz];delta cut;dsimp only
 have c1:cf (a::b::l).length 2=2:=c1;rw[c1];simp
section
variable{lines:List (List Nat)}{bb rb:V}{o4 o5:Option V}
noncomputable abbrev cB(τ:U)(lines:List (List Nat))(ks:List (List Atom))(vs:List V):U:=τ++[.list (lines.map .str),.dict ks vs]
noncomputable abbrev XB(n:Nat):=ay (ex de n (aZ "_law_built").scope)
theorem Ks(hs:dp k τ):∃ (x:cG) (v:V) (raw:List Nat) (aD:U),gD x v raw/\Stp k τ aD/\XB 59 (lbB.drop 0) (pF k N bb o1 o2 o3 o4 o5) (cB τ lines ks vs)=XB 59 (lbB.drop 1) (pF k N bb o1 (some (aC x.path)) (some v) (some (.str raw)) o5) (cB aD lines ks vs):=by
 refine ab fun _ gG=>?_;obtain⟨d,bn,t1,t2,t3⟩:=iE (τ:=τ) (k:=k) [.list (lines.map .str),.dict ks vs] (top:=3) hs (by decide) (by decide);refine gG ?_;clear gG
 by_cases e:(d:Int)=0
 ·refine ab fun _ gG=>?_;obtain⟨x,v,raw,bf,h1,h2,h3⟩:=v6 (F:=cK) (fun h=>wY h) [.list (lines.map .str),.dict ks vs] t2.1;refine gG ?_;clear gG
  exact⟨x,v,raw,bf,h1,t2.trans h2,cZ (i:=0) (j:=1) (au [cO t1,.t true,cO h3] (by rfl') fun z=>A t1 (A (dT e) (A h3 z)))⟩
 ·refine ab fun _ gG=>?_;obtain⟨x,v,raw,bf,h1,h2,h3⟩:=v6 (F:=bD) (fun h=>vX h) [.list (lines.map .str),.dict ks vs] t2.1;refine gG ?_;clear gG
  exact⟨x,v,raw,bf,h1,t2.trans h2,cZ (i:=0) (j:=1) (au [cO t1,.t false,cO h3] (by rfl') fun z=>A t1 (A (dF e) (A h3 z)))⟩
theorem lE{l:List Nat}(hN:τ.length=N)(hz:lines.length<=1000):kx (.ref N) (.str l) (cB τ lines ks vs)=some (cB τ (lines++[l]) ks vs):=by
 have bk:ai=100000:=rfl;rw[rG (x6 hN) (by rw[bR];exact r3 ‹_› ‹_›) rfl,x7 hN];show _=some (τ++[Cell.list ((lines++[l]).map V.str),Cell.dict ks vs]);rw[mf];rfl
theorem lF(hN:τ.length=N):bX (.ref N) (cB τ lines ks vs)=true:=Ee (x6 hN)
theorem Kt{x:cG}(hs:dp k τ)(hN:τ.length=N)(hx:gD x v raw)(hn:x.path∉ks)(hl:ks.length=vs.length)(qP:ks.length<=1000)(hz:lines.length<=1000) :
  ∃ (bl:List (List Nat)) (aD:U),(bl=[]\/∃ l,bl=[l]/\l∈blanks)/\Stp k τ aD/\XB 59 (lbB.drop 1) (pF k N bb o1 (some (aC x.path)) (some v) (some (.str raw)) o5) (cB τ lines ks vs) =
   XB 59 (lbB.drop 5) (pF k N bb o1 (some (aC x.path)) (some v) (some (.str raw)) (some (.lst ((x.path.map ak).map .str)))) (cB aD (lines++bl) (ks++[x.path]) (vs++[v])):=by
 have bk:ai=100000:=rfl;refine ab fun _ gG=>?_;generalize((cQ hx.1)).1=pf;generalize((cQ hx.1)).2=p3;refine gG ?_;clear gG
 have hc:ks.contains x.path=false:=by
  cases h:ks.contains x.path with
  | false=>rfl
  | true=>exact absurd (List.contains_iff_mem.mp h) hn
 have hin:av .In (aC x.path) (.ref (N+1)) (cB τ lines ks vs)=some false:=by rw[in_dict (vQ hN),hc]
 have iu:cW (.ref (N+1)) (aC x.path) v (cB τ lines ks vs)=some (cB τ lines (ks++[x.path]) (vs++[v])):=by
  rw[pD (vQ hN) hn hl (by exact r3 ‹_› ‹_›) hx.2.wcl,x8 hN]
 have pk:=fun(τ:U)=>ki (vs:=x.path.map Atom.toV) (by rw[bR];exact lA ‹_<=3› rfl) (Hn (O:=τ) x.path none none fun a m=>(pf a m).1)
 refine ab fun _ gG=>?_;obtain⟨d,bn,t1,t2,t3⟩:=iE (τ:=τ) (k:=k) [.list (lines.map .str),.dict (ks++[x.path]) (vs++[v])] (top:=5) hs (by decide) (by decide);refine gG ?_;clear gG
 have oo:bn.length=N:=t2.2.1.trans hN;by_cases e:(d:Int)=0
 ·refine ab fun _ gG=>?_;obtain⟨w,bf,u1,u2,u3⟩:=B9 (τ:=bn) (k:=k) [.list (lines.map .str),.dict (ks++[x.path]) (vs++[v])] (l:=blanks.map .str) t2.1 (by simp[blanks]) (dZ (by decide));refine gG ?_;clear gG
  refine ab fun _ gG=>?_;obtain⟨l,AO,rfl⟩:=iP u3;refine gG ?_;clear gG
  have u1:aw [(.ref k),(.lst [(.str []),(.str [33,32,110,111,116,104,105,110,103]),(.str [32,32,32]),(.str [32,32,33,32,34,32,115,116,97,121,115,32,111,112,101,110])])] (cB bn lines (ks++[x.path]) (vs++[v]))= .ok (.str l,cB bf lines (ks++[x.path]) (vs++[v])):=u1;have Ca:bf.length=N:=u2.2.1.trans oo;refine⟨[l],bf,.inr ⟨l,rfl,AO⟩,t2.trans u2,?_⟩;have il:=lF (lines:=lines) (ks:=ks++[x.path]) (vs:=vs++[v]) oo;have ad:=lE (l:=l) Ca hz (ks:=ks++[x.path]) (vs:=vs++[v]);have p:=pk (cB bf (lines++[l]) (ks++[x.path]) (vs++[v]));exact cZ (i:=1) (j:=4) (au [bO hin,.t false,kO iu,cO t1,.t true,.t true,cO u1,kO ad,lO p] (by rfl') fun z=>A hin (A ff (A iu (A t1 (A (dT e) (A il (A u1 (A ad (A p z)))))))))
 ·have p:=pk (cB bn lines (ks++[x.path]) (vs++[v]));refine⟨[],bn,.inl rfl,t2,?_⟩;rw[bP];exact cZ (i:=1) (j:=4) (au [bO hin,.t false,kO iu,cO t1,.t false,lO p] (by rfl') fun z=>A hin (A ff (A iu (A t1 (A (dF e) (A p z))))))
theorem Hq{x:cG}(hN:τ.length=N)(hn:x.path∈ks):XB 59 (lbB.drop 1) (pF k N bb o1 (some (aC x.path)) (some v) (some (.str raw)) o5) (cB τ lines ks vs)= .ok ((.cont,pF k N bb o1 (some (aC x.path)) (some v) (some (.str raw)) o5),cB τ lines ks vs):=by
 have hin:av .In (aC x.path) (.ref (N+1)) (cB τ lines ks vs)=some true:=by rw[in_dict (vQ hN),List.contains_iff_mem.mpr hn]
 exact au [bO hin,.t true] (by rfl') fun z=>A hin (A tt z)
end
noncomputable def Hr(bb rb:V):Prop:=(bb= .none/\rb= .none)\/∃ h a,bb= .tup [.str h,a.toV]/\rb= .lst [wd h,wd (ak a)]/\gj h/\(∀ l,a= .str l->gj l)
theorem Co{a:Atom}(h:t0 (ak a)=true):d8 a:=by
 cases a with
 | int i=>trivial
 | str l=>exact fun c m=>((bE (raw:=l) h).2.1 c m).2
theorem Ku{bb rb:V}{h:List Nat}{a:Atom}(hb:Hr bb rb)(h1:gj h)(h2:d8 a):∃ b,(∀ O,av .NotEq (.tup [.str h,a.toV]) bb O=some b)/\(b=false->bb= .tup [.str h,a.toV]/\rb= .lst [wd h,wd (ak a)]):=by
 rcases hb with⟨rfl,rfl⟩|⟨h',a',rfl,rfl,h3,h4⟩
 ·refine⟨true,fun O=>?_,fun e=>by cases e⟩;show(fM (.tup [(Atom.str h).toV,a.toV]) .none).map (fun x=>!x)=_;rw[wZ (a:=.str h) h1 h2];rfl
 ·have W0:d8 a':=by
   cases a' with
   | int i=>trivial
   | str l=>exact h4 l rfl
  refine⟨!(decide (Atom.str h=Atom.str h')&&decide (a=a')),fun O=>?_,fun e=>?_⟩
  ·show(fM (.tup [(Atom.str h).toV,a.toV]) (.tup [(Atom.str h').toV,a'.toV])).map (fun x=>!x)=_;rw[Kq (a:=.str h) (c:=.str h') h1 h2 h3 W0];rfl
  ·simp only[adY,gT,decide_eq_true_eq]at e;obtain⟨e1,rfl⟩:=e;cases e1
   exact⟨rfl,rfl⟩
section
variable{lines:List (List Nat)}{bb rb:V}{o4 o5:Option V}
noncomputable abbrev Cp(k N:Nat)(bb:V)(o1:Option V)(x:cG)(v:V)(raw:List Nat):af:=pF k N bb o1 (some (aC x.path)) (some v) (some (.str raw)) (some (.lst ((x.path.map ak).map .str)))
variable{x:cG}{KS:List (List Atom)}{VS:List V}{h:List Nat}{a b:Atom}
theorem MH{r:List Atom}(e:x.path= .str h::r)(hr:r.length<=3):bC (aC x.path) (.int 0) O=some (.str h):=gN (i:=0) (by rw[e];rfl) (by rw[bR,e];exact bL (j5 hr) (by decide))
theorem Hs(hs:dp k τ)(hN:τ.length=N)(hx:gD x v raw)(hA:zX x)(hz:lines.length<=900):∃ (l:List Nat) (aD:U),Stp k τ aD/\eI l/\(∀ (c i:Nat) (ks:List (List Atom)) (vs:List V),x.path∉ks->ks.length=vs.length->ks.length<=1000->Rd c i [l] ks vs rb (ks++[x.path]) (vs++[v]) .none) /\
   XB 59 (lbB.drop 5) (Cp k N bb o1 x v raw) (cB τ lines KS VS)= .ok ((.cont,Cp k N .none o1 x v raw),cB aD (lines++[l]) KS VS):=by
 generalize(rfl:ai=100000)=bk;refine ab fun _ gG=>?_;obtain⟨pf,p3⟩:=cQ hx.1;refine gG ?_;clear gG
 refine ab fun _ gG=>?_;obtain⟨h,r,e,hr,_,hni⟩:=id hA;refine gG ?_;clear gG
 generalize(hni:∀ O,av .NotIn (.str h) (.lst [(.str [112,111,114,116]),(.str [118,108,97,110]),(.str [108,105,115,116])]) O=some true)=hni;generalize(gN (i:=0) (by rw[e];rfl) (by rw[bR];exact lA ‹_<=3› rfl):bC (aC x.path) (.int 0) (cB τ lines KS VS)=some (.str h))=i0;obtain⟨sep,tl,bn,s1,s2,s3,s4⟩:=rO (τ:=τ) (k:=k) (ts:=x.path.map ak++[raw]) [.list (lines.map .str),.dict KS VS] hs (fun t m=>by
  refine ab fun _ gG=>?_;rcases bU m with m|m<;>refine gG ?_<;>clear gG
  ·refine ab fun _ gG=>?_;obtain⟨a,ha,rfl⟩:=iP m;refine gG ?_;clear gG
   exact(bE (pf a ha).2).2.2.1
  ·rw[a8 m];exact hx.2.len) (by rw[bv,bR];exact j5 p3)
 generalize(s3.2.1.trans hN:bn.length=N)=oo;have jc:b9 .Add (.lst ((x.path.map ak).map V.str)) (.lst [.str raw])=some (.lst ((x.path.map ak++[raw]).map V.str)):=by
  rw[kq (by rw[bR,bR];exact bL (j5 p3) (by decide)),mf (l₂:=[raw])];rfl
 refine ab fun _ gG=>?_;obtain⟨Kv,rd1⟩:=Cm hx hA s1 s2;refine gG ?_;clear gG
 generalize(lE (l:=an sep (x.path.map ak++[raw])++tl) (ks:=KS) (vs:=VS) oo (show lines.length<=1000 by exact lA ‹_<=900› rfl))=ad;generalize(hni (cB τ lines KS VS))=n;generalize(lF (lines:=lines) (ks:=KS) (vs:=VS) hN)=il;exact⟨_,bn,s3,Kv,fun c i ks vs h1 h2 h3=>rd1 c i ks vs rb h1 h2 h3,au [vO i0,bO n,.t true,.t true,vO jc,cO s4,kO ad] (by rfl') fun z=>A i0 (A n (A tt (A il (A jc (A s4 (A ad z))))))⟩
theorem Ht(hs:dp k τ)(hN:τ.length=N)(hx:gD x v raw)(hz:lines.length<=1000)(e:x.path=[.str h,a,b]):∃ (sep tl:List Nat) (aD:U),sep∈seps/\tl∈fo/\Stp k τ aD /\
  XB 59 (lbB.drop 7) (Cp k N bb o1 x v raw) (cB τ lines KS VS)= .ok ((.next,Cp k N bb o1 x v raw),cB aD (lines++[32::(an sep [ak b,raw]++tl)]) KS VS):=by
 obtain⟨pf,p3⟩:=cQ hx.1;generalize(bE (pf b (by rw[e];exact .tail _ (.tail _ (.head _)))).2)=q3;have ep:(x.path.map ak).map V.str=[.str h,.str (ak a),.str (ak b)]:=by rw[e];rfl
 have T4:bg (.lst ((x.path.map ak).map V.str)) (some 2) none=some (.lst [.str (ak b)]):=by rw[ep];exact Hp (by show 3<=100000;decide)
 generalize(kq (by show 1+1<=100000;decide):b9 .Add (.lst [.str (ak b)]) (.lst [.str raw])=some (.lst ([ak b,raw].map V.str)))=jc;obtain⟨sep,tl,bn,s1,s2,s3,s4⟩:=rO (τ:=τ) (k:=k) (ts:=[ak b,raw]) [.list (lines.map .str),.dict KS VS] hs (fun t m=>by
  rcases cn m with rfl|m
  ·exact q3.2.2.1
  ·rw[a8 m];exact hx.2.len) (by show 2<=4;decide)
 generalize(s3.2.1.trans hN:bn.length=N)=oo;generalize(td hx e s1 s2)=eC;have ad:b9 .Add (.str [32]) (.str (an sep [ak b,raw]++tl))=some (.str (32::(an sep [ak b,raw]++tl))):=l9 (by
  have:=eC.1.2;rw[cx]at this;show 1+_<=100000;exact P4 ‹_›)
 generalize(lF (lines:=lines) (ks:=KS) (vs:=VS) hN)=il;generalize(lE (l:=32::(an sep [ak b,raw]++tl)) (ks:=KS) (vs:=VS) oo hz)=ap;exact⟨sep,tl,bn,s1,s2,s3,au [.t true,vO T4,vO jc,cO s4,vO ad,kO ap] (by rfl') fun z=>A il (A T4 (A jc (A s4 (A ad (A ap z)))))⟩
structure W1(k N:Nat)(τ aD:U)(x:cG)(v:V)(raw:List Nat)(h:List Nat)(a:Atom)(bb rb:V)(o1:Option V)(KS:List (List Atom))(VS:List V)(lines bl:List (List Nat)):Prop where
 st:Stp k τ aD
 ok:∀ l∈bl,eI l
 le:bl.length<=1
 blk:Hr (.tup [.str h,a.toV]) (.lst [wd h,wd (ak a)])
 rd:∀ (c i:Nat) (ks:List (List Atom)) (vs:List V),Rd c i bl ks vs rb ks vs (.lst [wd h,wd (ak a)])
 run:XB 59 (lbB.drop 5) (Cp k N bb o1 x v raw) (cB τ lines KS VS)=XB 59 (lbB.drop 7) (Cp k N (.tup [.str h,a.toV]) o1 x v raw) (cB aD (lines++bl) KS VS)
theorem Kw(hs:dp k τ)(hN:τ.length=N)(hx:gD x v raw)(hb:Hr bb rb)(hz:lines.length<=900)(e:x.path=[.str h,a,b])(hin:∀ O,av .In (.str h) di O=some true)(hni:∀ O,av .NotIn (.str h) zW O=some false)(MI:∀ row,bS [.lst [wd h,wd (ak a)],.int row] []= .ok (.lst [wd h,wd (ak a)],[])) :
  ∃ (bl:List (List Nat)) (aD:U),W1 k N τ aD x v raw h a bb rb o1 KS VS lines bl:=by
 refine ab fun _ gG=>?_;obtain⟨pf,p3⟩:=cQ hx.1;refine gG ?_;clear gG
 have hni:∀ O,av .NotIn (.str h) (.lst [(.str [112,111,114,116]),(.str [118,108,97,110]),(.str [108,105,115,116])]) O=some false:=hni;have n:=hni (cB τ lines KS VS);have i0:=MH (O:=cB τ lines KS VS) e (by show 2<=3;decide);have q1:=bE (raw:=h) (pf (.str h) (by rw[e];exact aW)).2;have ma:a∈x.path:=by rw[e];exact .tail _ (.head _)
 have q2:=bE (pf a ma).2;have NB:gj h:=fun c m=>(q1.2.1 c m).2
 have Kx:d8 a:=Co (pf a ma).2;refine ab fun _ gG=>?_;obtain⟨bq,W2,T5⟩:=Ku hb NB Kx;refine gG ?_;clear gG
 have Po:Hr (.tup [.str h,a.toV]) (.lst [wd h,wd (ak a)]):=.inr ⟨h,a,rfl,rfl,NB,fun l el=>by rw[el]at Kx;exact Kx⟩;have w4:bg (aC x.path) none (some 2)=some (.tup [.str h,a.toV]):=by rw[e];exact Ho (by show 3<=100000;decide)
 have ep:(x.path.map ak).map V.str=[.str h,.str (ak a),.str (ak b)]:=by rw[e];rfl
 have wC:bg (.lst ((x.path.map ak).map V.str)) none (some 2)=some (.lst ([h,ak a].map V.str)):=by rw[ep];exact Kr (by show 3<=100000;decide)
 have q:=W2 (cB τ lines KS VS);have hl:=fun(bn:U) (st:Stp k τ bn)=>rO (τ:=bn) (k:=k) (ts:=[h,ak a]) [.list (lines.map .str),.dict KS VS] st.1 (fun t m=>by
  refine ab fun _ gG=>?_;rcases cn m with rfl|m<;>refine gG ?_<;>clear gG
  ·exact q1.2.2.1
  ·rw[a8 m];exact q2.2.2.1) (by show 2<=4;decide)
 cases bq with
 | true =>
  refine ab fun _ gG=>?_;obtain⟨sep,tl,bf,s1,s2,s3,s4⟩:=hl τ (Stp.refl hs);refine gG ?_;clear gG
  refine ab fun _ gG=>?_;obtain⟨Kv,rd1⟩:=v5 hx.1 e hin MI s1 s2;refine gG ?_;clear gG
  have il:=lF (lines:=lines) (ks:=KS) (vs:=VS) hN;have ap:=lE (l:=an sep [h,ak a]++tl) (ks:=KS) (vs:=VS) (s3.2.1.trans hN) (show lines.length<=1000 by exact lA ‹_<=900› rfl);exact⟨[_],bf,s3,fun l m=>by rw[a8 m];exact Kv,kG 1,Po,fun c i ks vs=>rd1 c i ks vs rb,cZ (i:=5) (j:=2) (au [vO i0,bO n,.t false,vO w4,bO q,.t true,.t true,vO w4,.t true,vO wC,cO s4,kO ap] (by rfl') fun z =>
   A i0 (A n (A ff (A w4 (A q (A tt (A tt (A w4 (A il (A wC (A s4 (A ap z))))))))))))⟩
 | false =>
  refine ab fun _ gG=>?_;obtain⟨d,bn,t1,t2,t3⟩:=iE (τ:=τ) (k:=k) [.list (lines.map .str),.dict KS VS] (top:=3) hs (by decide) (by decide);refine gG ?_;clear gG
  by_cases d0:(d:Int)=0
  ·refine ab fun _ gG=>?_;obtain⟨sep,tl,bf,s1,s2,s3,s4⟩:=hl bn t2;refine gG ?_;clear gG
   refine ab fun _ gG=>?_;obtain⟨Kv,rd1⟩:=v5 hx.1 e hin MI s1 s2;refine gG ?_;clear gG
   have il:=lF (lines:=lines) (ks:=KS) (vs:=VS) (t2.2.1.trans hN);have ap:=lE (l:=an sep [h,ak a]++tl) (ks:=KS) (vs:=VS) (s3.2.1.trans (t2.2.1.trans hN)) (show lines.length<=1000 by exact lA ‹_<=900› rfl);exact⟨[_],bf,t2.trans s3,fun l m=>by rw[a8 m];exact Kv,kG 1,Po,fun c i ks vs=>rd1 c i ks vs rb,cZ (i:=5) (j:=2) (au [vO i0,bO n,.t false,vO w4,bO q,.t false,cO t1,.t true,vO w4,.t true,vO wC,cO s4,kO ap] (by rfl') fun z =>
    A i0 (A n (A ff (A w4 (A q (A ff (A t1 (A (dT d0) (A w4 (A il (A wC (A s4 (A ap z)))))))))))))⟩
  ·refine ab fun _ gG=>?_;obtain⟨rfl,rfl⟩:=T5 rfl;refine gG ?_;clear gG
   refine⟨[],bn,t2,fun l m=>(nomatch m),YC 1,Po,fun c i ks vs=>Rd.nil,?_⟩;rw[bP];exact cZ (i:=5) (j:=2) (au [vO i0,bO n,.t false,vO w4,bO q,.t false,cO t1,.t false] (by rfl') fun z=>A i0 (A n (A ff (A w4 (A q (A ff (A t1 (A (dF d0) z))))))))
theorem Hu(hs:dp k τ)(hN:τ.length=N)(hx:gD x v raw)(hb:Hr bb rb)(hz:lines.length<=900) :
  ∃ (ls:List (List Nat)) (w5 Ez:V) (aD:U) (fl:Fl),(fl= .cont\/fl= .next)/\Stp k τ aD/\(∀ l∈ls,eI l)/\ls.length<=2/\Hr w5 Ez /\
   (∀ (c i:Nat) (ks:List (List Atom)) (vs:List V),x.path∉ks->ks.length=vs.length->ks.length<=1000->Rd c i ls ks vs rb (ks++[x.path]) (vs++[v]) Ez) /\
   XB 59 (lbB.drop 5) (Cp k N bb o1 x v raw) (cB τ lines KS VS)= .ok ((fl,Cp k N w5 o1 x v raw),cB aD (lines++ls) KS VS):=by
 refine ab fun _ gG=>?_;rcases Ci x hx.1 with hA|hB<;>refine gG ?_<;>clear gG
 ·refine ab fun _ gG=>?_;obtain⟨l,aD,h1,h2,h3,h4⟩:=Hs (rb:=rb) (bb:=bb) (o1:=o1) (KS:=KS) (VS:=VS) hs hN hx hA hz;refine gG ?_;clear gG
  exact⟨[l],.none,.none,aD,.cont,.inl rfl,h1,fun l m=>by rw[a8 m];exact h2,Y9 1,.inl ⟨rfl,rfl⟩,h3,h4⟩
 ·refine ab fun _ gG=>?_;obtain⟨h,a,b,e,hin,hni,MI⟩:=hB;refine gG ?_;clear gG
  refine ab fun _ gG=>?_;obtain⟨bl,bn,h1,h2,h3,h4,h5,h6⟩:=Kw (bb:=bb) (o1:=o1) (KS:=KS) (VS:=VS) hs hN hx hb hz e hin hni MI;refine gG ?_;clear gG
  refine ab fun _ gG=>?_;obtain⟨T6,W3,gl,u1,u2,u3,u4⟩:=Ht (lines:=lines++bl) (bb:=.tup [.str h,a.toV]) (o1:=o1) (KS:=KS) (VS:=VS) h1.1 (h1.2.1.trans hN) hx (by rw[bv];exact QF ‹_› ‹_›) e;refine gG ?_;clear gG
  refine ab fun _ gG=>?_;obtain⟨MJ,rd2⟩:=td hx e u1 u2;refine gG ?_;clear gG
  refine⟨bl++[32::(an T6 [ak b,raw]++W3)],_,_,gl,.next,.inr rfl,h1.trans u3,fun l m=>?_,by rw[bv];exact j5 h3,h4,fun c i ks vs k1 k2 k3=>(h5 c i ks vs).app (rd2 c _ ks vs k1 k2 k3),?_⟩
  ·refine ab fun _ gG=>?_;rcases bU m with m|m<;>refine gG ?_<;>clear gG
   ·exact h2 l m
   ·rw[a8 m];exact MJ
  ·rw[h6,u4,cJ]
end
noncomputable abbrev W4:lI:=kD (aZ "_law_built").body 1
structure Ky(k N m:Nat)(τ:U)(w5:V)(mh:List (List Nat))(d1:List (List Atom))(gv:List V)(aD:U):Prop where
 inv:∃ Ez,BInv m mh d1 gv w5 Ez
 stp:Stp k τ aD
theorem Kz{lines:List (List Nat)}{bb rb:V}{o4 o5:Option V}(hs:dp k τ)(hN:τ.length=N)(I:BInv m lines ks vs bb rb)(hm:m<=100) :
  ∃ (aD:U) (mh:List (List Nat)) (d1:List (List Atom)) (gv:List V) (w5:V) (p2 p3 p4 p5:Option V) (fl:Fl),Ky k N (m+1) τ w5 mh d1 gv aD/\(fl= .cont\/fl= .next) /\
   XB 59 lbB (pF k N bb o1 o2 o3 o4 o5) (cB τ lines ks vs)= .ok ((fl,pF k N w5 o1 p2 p3 p4 p5),cB aD mh d1 gv):=by
 generalize(I.lz)=MA;generalize(I.kz)=qP;refine ab fun _ gG=>?_;obtain⟨x,v,raw,bn,h1,h2,h3⟩:=Ks (N:=N) (bb:=bb) (lines:=lines) (ks:=ks) (vs:=vs) (o1:=o1) (o2:=o2) (o3:=o3) (o4:=o4) (o5:=o5) hs;refine gG ?_;clear gG
 generalize(h2.2.1.trans hN:bn.length=N)=oo;by_cases hk:x.path∈ks
 ·exact⟨bn,lines,ks,vs,bb,_,_,_,_,.cont,⟨⟨rb,I.up⟩,h2⟩,.inl rfl,h3.trans (Hq oo hk)⟩
 ·refine ab fun _ gG=>?_;obtain⟨bl,bf,b1,b2,b3⟩:=Kt (k:=k) (N:=N) (τ:=bn) (lines:=lines) (ks:=ks) (vs:=vs) (bb:=bb) (o1:=o1) (o5:=o5) h2.1 oo h1 hk I.len (by exact MN ‹_› ‹_›) (by exact QG ‹_› ‹_›);refine gG ?_;clear gG
  have hbl:bl.length<=1/\(∀ c i,Rd c i bl ks vs rb ks vs rb)/\∀ l∈bl,eI l:=by
   refine ab fun _ gG=>?_;rcases b1 with rfl|⟨l,rfl,hl⟩<;>refine gG ?_<;>clear gG
   ·exact⟨YC 1,fun c i=>Rd.nil,fun l m=>(nomatch m)⟩
   ·exact⟨kG 1,fun c i=>(nK hl).2 c i ks vs rb,fun l' m=>by rw[a8 m];exact(nK hl).1⟩
  refine ab fun _ gG=>?_;obtain⟨hbl,hblk,T7⟩:=hbl;refine gG ?_;clear gG
  refine ab fun _ gG=>?_;obtain⟨ls,W5,W6,gl,fl,f1,f2,f3,f4,f5,f6,f7⟩:=Hu (k:=k) (N:=N) (τ:=bf) (lines:=lines++bl) (bb:=bb) (rb:=rb) (o1:=o1) (KS:=ks++[x.path]) (VS:=vs++[v]) b2.1 (b2.2.1.trans oo) h1 I.blk (by rw[bv];exact Rw ‹_› ‹_› ‹_›);refine gG ?_;clear gG
  exact⟨gl,(lines++bl)++ls,ks++[x.path],vs++[v],W5,_,_,_,_,fl,⟨⟨W6,{
    rd:=fun c=>((I.rd c).app (hblk c _)).app (f6 c _ ks vs hk I.len (by exact MN ‹_› ‹_›))
    blk:=f5
    nd:=Cn I.nd hk
    len:=by rw[bv,bv,I.len];rfl
    each:=EA (p:=[]) I.len I.each h1
    ok:=fun l m=>by
     refine ab fun _ gG=>?_;rcases bU m with m|m<;>refine gG ?_<;>clear gG
     ·refine ab fun _ gG=>?_;rcases bU m with m|m<;>refine gG ?_<;>clear gG
      ·exact I.ok l m
      ·exact T7 l m
     ·exact f3 l m
    lz:=by rw[bv,bv];exact Sv ‹_› ‹_› ‹_›
    kz:=by rw[bv];exact j5 qP }⟩,h2.trans (b2.trans f2)⟩,f1,h3.trans (b3.trans f7)⟩
theorem KA(ws:List V):∀ (m:Nat) (τ:U) (lines:List (List Nat)) (ks:List (List Atom)) (vs:List V) (bb rb:V) (o1 o2 o3 o4 o5:Option V),dp k τ->τ.length=N->BInv m lines ks vs bb rb->m+ws.length<=100 ->
  ∃ (aD:U) (mh:List (List Nat)) (d1:List (List Atom)) (gv:List V) (w5:V) (p1 p2 p3 p4 p5:Option V),Ky k N (m+ws.length) τ w5 mh d1 gv aD /\
   wV de 59 (aZ "_law_built") W4 ws (pF k N bb o1 o2 o3 o4 o5) (cB τ lines ks vs)= .ok ((.next,pF k N w5 p1 p2 p3 p4 p5),cB aD mh d1 gv):=by
 induction ws with
 | nil=>exact fun m τ lines ks vs bb rb o1 o2 o3 o4 o5 hs hN I hm=>⟨τ,lines,ks,vs,bb,o1,o2,o3,o4,o5,⟨⟨rb,I⟩,Stp.refl hs⟩,rfl⟩
 | cons w ws ih =>
  intro m τ lines ks vs bb rb o1 o2 o3 o4 o5 hs hN I hm;have em:m+(w::ws).length=m+1+ws.length:=by rw[cx];exact r6
  rw[em]at hm ⊢;refine ab fun _ gG=>?_;obtain⟨bn,l1,k1,v1,b1,p2,p3,p4,p5,fl,⟨⟨W7,J⟩,st⟩,hf,e⟩:=Kz (bb:=bb) (o1:=some w) (o2:=o2) (o3:=o3) (o4:=o4) (o5:=o5) hs hN I (by exact Qo ‹_›);refine gG ?_;clear gG
  refine ab fun _ gG=>?_;obtain⟨aD,l',k',v',b',q1,q2,q3,q4,q5,⟨J',oY⟩,e'⟩:=ih (m+1) bn l1 k1 v1 b1 W7 (some w) p2 p3 p4 p5 st.1 (st.2.1.trans hN) J hm;refine gG ?_;clear gG
  refine⟨aD,l',k',v',b',q1,q2,q3,q4,q5,⟨J',st.trans oY⟩,?_⟩;refine ab fun _ gG=>?_;rcases hf with rfl|rfl<;>refine gG ?_<;>clear gG
  ·exact vC (bj:=pF k N bb (some w) o2 o3 o4 o5) (by rfl') e e'
  ·exact rE (bj:=pF k N bb (some w) o2 o3 o4 o5) (by rfl') e e'
theorem w6(hs:dp k τ):∃ (lines:List (List Nat)) (ks:List (List Atom)) (vs:List V) (bb rb:V) (aD:U),BInv 16 lines ks vs bb rb/\Stp k τ aD/\iK [.ref k] τ= .ok (.tup [.lst (lines.map .str),.dct ks vs],aD):=by
 generalize(⟨fun c=>Rd.nil,.inl ⟨rfl,rfl⟩,Z2,rfl,(fun i p v h=>by simp at h),(fun l m=>by cases m),kG _,kG _⟩:BInv 0 [] [] [] .none .none)=I0;refine ab fun _ gG=>?_;obtain⟨d,bn,t1,t2,t3⟩:=iE (τ:=τ) (k:=k) [.list [],.dict [] []] (top:=17) hs (by decide) (by decide);refine gG ?_;clear gG
 generalize(t2.2.1:bn.length=τ.length)=oo;refine ab fun _ gG=>?_;obtain⟨aD,lines,ks,vs,bb,p1,p2,p3,p4,p5,⟨⟨rb,J⟩,st⟩,e⟩:=KA (N:=τ.length) (bc 0 d) 0 bn [] [] [] .none .none none none none none none t2.1 oo I0 (by rw[cY];exact Qb ‹_›);refine gG ?_;clear gG
 rw[cY]at J;generalize(st.2.1.trans oo:aD.length=τ.length)=Es;have J:BInv 16 lines ks vs bb rb:=⟨J.rd,J.blk,J.nd,J.len,J.each,J.ok,by have:=J.lz;exact Rq ‹_› ‹_›,by have:=J.kz;exact Q4 ‹_› ‹_›⟩
 refine⟨lines,ks,vs,bb,rb,aD,J,t2.trans st,?_⟩;have e1:(τ++[Cell.list []]).length=τ.length+1:=by simp
 have e2:(τ++[Cell.list []])++[Cell.dict [] []]=τ++[.list [],.dict [] []]:=by simp
 generalize(vE (O:=cB bn [] [] []) (show d<1000 by exact RO ‹_›))=r;have h0:ay (ex de 60 (aZ "_law_built").scope) (((aZ "_law_built").body.drop 0).take 1) [(S "source",some (.ref k)),(S "lines",none),(S "told",none),(S "block",none),(S "turn",none),(S "path",none),(S "worth",none),(S "text",none),(S "parts",none)] τ =
   .ok ((.next,[(S "source",some (.ref k)),(S "lines",some (.ref τ.length)),(S "told",some (.ref (τ++[Cell.list []]).length)),(S "block",some .none),(S "turn",none),(S "path",none),(S "worth",none),(S "text",none),(S "parts",none)]),(τ++[Cell.list []])++[Cell.dict [] []]):=au [] (by rfl') fun z=>z
 rw[e1,e2]at h0;have h2:ay (ex de 60 (aZ "_law_built").scope) ((aZ "_law_built").body.drop (0+1)) (pF k τ.length .none none none none none none) (τ++[Cell.list [],Cell.dict [] []])= .ok ((.ret (.tup [.ref τ.length,.ref (τ.length+1)]),pF k τ.length bb p1 p2 p3 p4 p5),cB aD lines ks vs) :=
  au [cO t1,lO r,sO e] (by rfl') fun z=>A t1 (A r (A e z))
 generalize((cZ h0).trans h2)=h3;have Cc:bh de 60 (aZ "_law_built") [.ref k] τ= .ok (.tup [.ref τ.length,.ref (τ.length+1)],cB aD lines ks vs):=by
  have e:bh de 60 (aZ "_law_built") [.ref k] τ=(ay (ex de 60 (aZ "_law_built").scope) ((aZ "_law_built").body.drop 0) [(S "source",some (.ref k)),(S "lines",none),(S "told",none),(S "block",none),(S "turn",none),(S "path",none),(S "worth",none),(S "text",none),(S "parts",none)] τ).bind mu:=by rfl'
  rw[e,h3];rfl
 generalize(x6 Es:(cB aD lines ks vs)[τ.length]?=some (.list (lines.map V.str)))=f0;generalize(vQ Es:(cB aD lines ks vs)[τ.length+1]?=some (.dict ks vs))=f1;have:=zM (u:=.tup [.lst (lines.map .str),.dct ks vs]) Cc rfl (by
  show(ip τ.length _ [.ref τ.length,.ref (τ.length+1)]).map V.tup=_;simp only[ip,rR,Yl,if_false,f0,f1,show¬(τ.length+1<τ.length)from Nat.not_lt_of_le (Y9 _),ZM,cH,Cell.toV])
 rw[show(cB aD lines ks vs).take τ.length=aD from x9 Es]at this;exact this
section
variable{lt:Nat->Nat->Option Bool}
noncomputable def Runs(lt:Nat->Nat->Option Bool)(t:KasT α)(G:α->Prop):Prop:=∃ a,oK lt t=some a/\G a
theorem ed{a:α}{G:α->Prop}(h:G a):Runs lt (.ret a) G:=⟨a,rfl,h⟩
theorem lG{k:Bool->KasT α}{G:α->Prop}(hl:(lt i j).isSome=true)(h:∀ b,Runs lt (k b) G):Runs lt (.ask i j k) G:=by
 obtain⟨b,hb⟩:=Option.isSome_iff_exists.mp hl;obtain⟨a,h1,h2⟩:=h b;exact⟨a,by rw[lb,hb];exact h1,h2⟩
theorem wa{f:α->KasT β} : ∀ (t:KasT α),oK lt (t.bind f)=(oK lt t).bind fun a=>oK lt (f a)
 | .ret a=>rfl
 | .ask i j k=>by
  show oK lt (.ask i j fun b=>(k b).bind f)=_;rw[lb,lb];cases lt i j with
  | none=>rfl
  | some b=>exact wa (k b)
theorem j0{t:KasT α}{f:α->KasT β}{G:α->Prop}{G':β->Prop}(h:Runs lt t G)(hf:∀ a,G a->Runs lt (f a) G'):Runs lt (t.bind f) G':=by
 obtain⟨a,h1,h2⟩:=h;obtain⟨b,h3,h4⟩:=hf a h2;exact⟨b,by rw[wa,h1];exact h3,h4⟩
theorem Runs.mono{t:KasT α}{G G':α->Prop}(h:Runs lt t G)(k:∀ a,G a->G' a):Runs lt t G':=let⟨a,h1,h2⟩:=h;⟨a,h1,k a h2⟩
noncomputable def PP(N:Nat)(p:Array Nat):Prop:=p.Perm (List.toArray (YE N))
variable(hN:0<N)(hlt:∀ i j,i<N->j<N->(lt i j).isSome=true)
include hN
theorem iO{p:Array Nat}(h:PP N p)(k:Nat):p.getD k 0<N:=by
 rw[Array.getD_eq_getD_getElem?];cases e:p[k]? with
 | none=>exact hN
 | some v =>
  generalize(Array.mem_of_getElem? e:v∈p)=hm;have:=h.mem_iff.mp hm;simpa using this
include hlt
theorem wb{p:Array Nat}(h:PP N p):∀ (f n:Nat),Runs lt (kas_asc p f n) fun _=>True
 | 0,n=>ed trivial
 | f+1,n=>lG (hlt _ _ (iO hN h _) (iO hN h _)) fun b=>by
  cases b with
  | true=>exact ed trivial
  | false=>exact wb h f (n+1)
theorem n9:∀ (f:Nat) {p:Array Nat} (h:PP N p) (n q:Nat),Runs lt (agm f p n q) fun r=>PP N r.1
 | 0,p,h,n,q=>ed h
 | f+1,p,h,n,q=>lG (hlt _ _ (iO hN h _) (iO hN h _)) fun b=>by
  cases b with
  | true =>
   show Runs lt (if q>0 then agm f (kas_rev p (n-(q+1)) n) (n+1) 0 else agm f p (n+1) 0) _;split
   ·exact n9 f ((ab7 _ _ _ _).trans h) _ _
   ·exact n9 f h _ _
  | false =>
   refine lG (hlt _ _ (iO hN h _) (iO hN h _)) fun d=>?_;cases d with
   | true=>exact ed h
   | false=>exact n9 f h _ _
theorem wc{p:Array Nat}(h:PP N p)(n Cq:Nat):Runs lt (kas_tail3 n Cq p) fun r=>PP N r.2 :=
 j0 (wb hN hlt ((ab7 _ _ _ _).trans h) _ _) fun m _=>ed ((ab7 _ _ _ _).trans h)
theorem oP{p:Array Nat}(h:PP N p)(n Cq:Nat):Runs lt (kas_descPart n Cq p) fun r=>PP N r.2:=by
 refine j0 (n9 hN hlt _ h _ _) fun r hr=>?_;split
 ·exact wc hN hlt ((ab7 _ _ _ _).trans hr) _ _
 ·exact wc hN hlt hr _ _
theorem EB{p:Array Nat}(h:PP N p)(Cq:Nat):Runs lt (kas_count Cq p) fun r=>PP N r.2:=by
 refine j0 (wb hN hlt h _ _) fun n _=>?_;split
 ·exact ed h
 ·split
  ·refine lG (hlt _ _ (iO hN h _) (iO hN h _)) fun c=>?_;cases c with
   | true=>exact ed h
   | false=>exact oP hN hlt ((ab7 _ _ _ _).trans h) _ _
  ·exact oP hN hlt h _ _
theorem pG{p:Array Nat}(h:PP N p)(k:Nat):∀ (f l r:Nat),Runs lt (kas_place p k f l r) fun _=>True
 | 0,l,r=>ed trivial
 | f+1,l,r=>by
  unfold kas_place;split
  ·exact ed trivial
  ·refine lG (hlt _ _ (iO hN h _) (iO hN h _)) fun c=>?_;cases c with
   | true=>exact pG h k f _ _
   | false=>exact pG h k f _ _
theorem Cr:∀ (f:Nat) {p:Array Nat} (h:PP N p) (k:Nat),Runs lt (kas_bin f p k) fun r=>PP N r
 | 0,p,h,k=>ed h
 | f+1,p,h,k=>j0 (pG hN hlt h k _ _ _) fun l _=>Cr f ((bubble_perm _ _ _).trans h) (k+1)
theorem Hv:Runs lt (agl N) fun r=>PP N r:=by
 refine j0 (EB hN hlt (agD _) N) fun r hr=>?_;split
 ·exact Cr hN hlt _ hr _
 ·exact ed hr
end
theorem Cs{x y:cG}(hx:x∈pathsL)(hy:y∈pathsL):vb x.key=true/\(LW x.key y.key).isSome=true:=by
 have:=yg Kc x hx;generalize((bM this)).1=h1;generalize((bM this)).2=h2;exact⟨h1,yg h2 y hy⟩
theorem Hw{xs:List cG}(hx:∀ x∈xs,x∈pathsL)(hl:xs.length<64):∃ p:List Nat,pi (xs.map (·.key))=some p/\p.Perm (YE xs.length):=by
 unfold pi;rw[bR];by_cases h2:xs.length<2
 ·rw[if_pos h2];exact⟨_,rfl,List.Perm.refl _⟩
 ·rw[if_neg h2,if_pos ⟨by
   rw[ZF];intro k hk;obtain⟨x,hm,rfl⟩:=iP hk;exact(Cs (hx x hm) (hx x hm)).1,hl⟩]
  obtain⟨a,h3,h4⟩:=Hv (lt:=Bt (xs.map (·.key))) (N:=xs.length) (by exact Uu ‹_›) (fun i j hi hj=>by
   unfold Bt;rw[Yt,Yt,fL hi,fL hj];exact(Cs (hx _ (aa1 hi)) (hx _ (aa1 hj))).2)
  rw[h3];exact⟨a.toList,rfl,by simpa using Array.perm_iff_toList_perm.mp h4⟩
structure KC(ks:List (List Atom))(vs:List V):Prop where
 nd:ks.Nodup
 len:ks.length=vs.length
 path:∀ p∈ks,∃ x∈pathsL,x.path=p
 self:∀ v∈vs,fM v v=some true/\V.clean v=true
 few:ks.length<60
theorem we:∀ {ks:List (List Atom)} {vs:List V} {p:List Atom},ks.length=vs.length->p∈ks->∃ v,(ks.zip vs).lookup p=some v/\v∈vs
 | [],_,_,_,m=>by cases m
 | k::ks,[],_,h,_=>by simp at h
 | k::ks,v::vs,p,h,m=>by
  rw[YK,dR];cases e:p==k with
  | true=>exact⟨v,rfl,aW⟩
  | false =>
   generalize((cn m).resolve_left fun q=>by rw[q]at e;simp at e:p∈ks)=hm;obtain⟨w,h1,h2⟩:=we (ks:=ks) (vs:=vs) (by simpa using h) hm;exact⟨w,h1,bG _ h2⟩
noncomputable def valAt(ks:List (List Atom))(vs:List V)(p:List Atom):V:=((ks.zip vs).lookup p).getD .none
theorem rQ(hl:ks.length=vs.length){p:List Atom}(m:p∈ks):(ks.zip vs).lookup p=some (valAt ks vs p)/\valAt ks vs p∈vs:=by
 obtain⟨v,h1,h2⟩:=we hl m;unfold valAt;rw[h1];exact⟨rfl,h2⟩
theorem wg:∀ {ks:List (List Atom)},(∀ p∈ks,∃ x∈pathsL,x.path=p)->∃ xs:List cG,xs.map (·.path)=ks/\∀ x∈xs,x∈pathsL
 | [],_=>⟨[],rfl,fun x m=>by cases m⟩
 | k::ks,h=>by
  obtain⟨x,hx,e⟩:=h k aW;obtain⟨xs,e2,h2⟩:=wg fun p m=>h p (bG _ m)
  exact⟨x::xs,by rw[kR,e,e2],fun y m=>(cn m).elim (fun q=>q▸hx) (h2 y)⟩
theorem yb:∀ {xs:List cG},(∀ x∈xs,x∈pathsL)->jn bN (xs.map fun x=>aC x.path) O= .ok (xs.map (·.key),O)
 | [],_=>rfl
 | x::xs,h=>by
  have hk:bN [aC x.path] O= .ok (x.key,O):=bz (Em x (h x aW));have ih:=yb (xs:=xs) fun y m=>h y (bG _ m)
  show(match bN [aC x.path] O with | .ok a=>(jn bN (xs.map fun x:cG=>aC x.path) a.2).bind fun r=>.ok (a.1::r.1,r.2)|_=>.stuck)=_;rw[hk];show(jn bN (xs.map fun x:cG=>aC x.path) O).bind _=_;rw[ih];rfl
theorem Hx(hd:O[c]?=some (.dict ks vs))(D:KC ks vs):∃ qs:List (List Atom),qs.Perm ks/\qC [.sett c] O= .ok (.lst (qs.map aC),O):=by
 obtain⟨xs,rfl,hx⟩:=wg D.path;generalize(D.few)=hf;rw[bR]at hf;obtain⟨p,hp,Gj⟩:=Hw hx (by exact lC ‹_<60› rfl);refine⟨p.map fun i=>(xs.map (·.path)).getD i [],?_,?_⟩
 ·generalize(Gj.map _:(p.map fun i=>(xs.map (·.path)).getD i []).Perm ((YE xs.length).map fun i=>(xs.map (·.path)).getD i []))=h1;have h2:(YE xs.length).map (fun i=>(xs.map (·.path)).getD i [])=xs.map (·.path):=by
   have:=range_getD (xs.map (·.path)) [];rw[bR]at this;exact this
  rw[h2]at h1;exact h1
 ·have LG:(xs.map (·.path)).map aC=xs.map fun x=>aC x.path:=by rw[Y7];rfl
  have hg:∀ i∈p,((xs.map fun x=>aC x.path).getD i .none)=aC ((xs.map (·.path)).getD i []):=fun i m=>by
   generalize(List.mem_range.mp (Gj.mem_iff.mp m):i<xs.length)=hi;rw[Yc,Yc,Yt,Yt,fL hi];rfl
  have GN:rh bN ((xs.map (·.path)).map aC) O= .ok (.lst ((p.map fun i=>(xs.map (·.path)).getD i []).map aC),O):=by
   unfold rh;rw[LG,yb hx];dsimp only;rw[hp];dsimp only;rw[Y7];congr 3
   exact adM hg
  have W8:vh bN (.ref c) O= .ok (.lst ((p.map fun i=>(xs.map (·.path)).getD i []).map aC),O):=by
   have e:c6 (.ref c) O=some (xs.map (·.path),vs):=by
    show(match O[c]? with|some (.dict ks vs)=>some (ks,vs)|_=>none)=_;rw[hd]
   show(ah (c6 (.ref c) O)).bind _=_;rw[e];show(if(xs.map (·.path)).length<=1000 then _ else _)=_;rw[bR,if_pos (by exact lD ‹_<60› rfl),GN]
  have e:qC [.sett c] O=(((vh bN (.ref c) O).bind fun b=>.ok ((.ret b.1,[(S "self",some (V.sett c))]),b.2)).bind (Ea (zg T_paths 60 (Bw "paths" []).scope) [])).bind mu:=by rfl'
  rw[e,W8];rfl
noncomputable abbrev W9:Expr:=GY (ro (vv (kD (Bw "told" []).body 0))) 0
theorem EC(hd:O[c]?=some (.dict ks vs))(hl:ks.length=vs.length)(qs:List (List Atom)):∀ (o:Option V),(∀ p∈qs,p∈ks)->mC T_told 56 (Bw "told" []) W9 [(S ".0",none),(S "path",o),(S "self",some (.sett c))] (qs.map aC) O= .ok (qs.map fun p=>.tup [aC p,valAt ks vs p],O):=by
 induction qs with
 | nil=>exact fun o _=>rfl
 | cons q qs ih =>
  intro o h;generalize(ih (some (aC q)) fun p m=>h p (bG _ m))=ih;have hi:bC (.ref c) (aC q) O=some (valAt ks vs q):=by
   generalize(jZ q)=hk;simp only[bC,hd];rw[hk];exact(rQ hl (h q aW)).1
  exact rF (bj:=[(S ".0",none),(S "path",some (aC q)),(S "self",some (.sett c))]) (by rfl') rfl (rC [vO hi] (by rfl') fun z=>A hi z) ih
theorem KD(hd:O[c]?=some (.dict ks vs))(D:KC ks vs):∃ qs:List (List Atom),qs.Perm ks/\zo [.sett c] O= .ok (.tup (qs.map fun p=>.tup [aC p,valAt ks vs p]),O):=by
 have bk:ai=100000:=rfl;obtain⟨qs,hq,hm⟩:=Hx hd D;have X7:qs.length=ks.length:=hq.length_eq;have hf:=D.few;have ht:gI (S "tuple") [.lst (qs.map fun p=>V.tup [aC p,valAt ks vs p])] O=some (.tup (qs.map fun p=>V.tup [aC p,valAt ks vs p])):=vJ rfl (by rw[bR];exact MP ‹_› ‹_›);have hc:=ki (vs:=qs.map aC) (by rw[bR];exact MP ‹_› ‹_›) (EC hd D.len qs none fun p m=>hq.mem_iff.mp m);exact⟨qs,hq,aX [cO hm,lO hc,vO ht] (by rfl') fun z=>A hm (A hc (A ht z))⟩
theorem yc:∀ (qs:List (List Atom)) (f:List Atom->V),cU (qs.map fun p=>.tup [aC p,f p])=some (qs,qs.map f)
 | [],f=>rfl
 | q::qs,f=>by
  show((fg (aC q)).bind fun k=>(cU (qs.map fun p=>.tup [aC p,f p])).map fun r=>(k::r.1,f q::r.2))=_;rw[jZ,cH,yc qs f];rfl
theorem MK{qs:List (List Atom)}{us:List V}(h:cU l=some (qs,us))(hn:qs.Nodup)(hl:l.length<=ai):gI (S "dict") [.tup l] O=some (.dct qs us):=by
 have e:gI (S "dict") [.tup l] O=(match cU l with|some (ks,us)=>if ks.Nodup/\l.length<=ai then some (.dct ks us)else none|none=>none):=by rfl'
 rw[e,h];exact if_pos ⟨hn,hl⟩
theorem Fv(D:KC ks vs):∀ {qs:List (List Atom)},(∀ p∈qs,p∈ks)->jB qs (qs.map (valAt ks vs)) ks vs=some true
 | [],_=>rfl
 | q::qs,h=>by
  generalize((rQ D.len (h q aW))).1=h1;generalize((rQ D.len (h q aW))).2=h2;generalize(Fv D (qs:=qs) fun p m=>h p (bG _ m))=ih;show(match(ks.zip vs).lookup q with|none=>some false|some v'=>(fM (valAt ks vs q) v').bind fun b=>if b=true then jB qs (qs.map (valAt ks vs)) ks vs else some false)=some true;rw[h1];dsimp only;rw[(D.self _ h2).1,cH,if_pos rfl];exact ih
theorem ED(D:KC ks vs){qs:List (List Atom)}(hq:qs.Perm ks):av .NotEq (.dct qs (qs.map (valAt ks vs))) (.dct ks vs) O=some false:=by
 have e:lK qs (qs.map (valAt ks vs)) ks vs=some true:=by
  unfold lK;rw[if_pos hq.length_eq,Fv D fun p m=>hq.mem_iff.mp m]
 show(lK qs (qs.map (valAt ks vs)) ks vs).map (fun x=>!x)=_;rw[e];rfl
section
variable{b:V}
noncomputable def Ex(c i:Nat)(ls:List (List Nat))(ks:List (List Atom))(vs:List V)(b:V)(r:Int):Prop :=
 ∀ (oT oR o1 o2 o3 o4:Option V) (O:U),O[c]?=some (.dict ks vs)->Pk c b oT oR o1 o2 o3 o4 (jf i (ls.map .str)) O= .exc r
theorem Rd.ex{l1 l2:List (List Nat)}{d1:List (List Atom)}{gv:List V}{b':V}{r:Int}(x:Rd c i l1 ks vs b d1 gv b')(y:Ex c (i+l1.length) l2 d1 gv b' r):Ex c i (l1++l2) ks vs b r:=fun oT oR o1 o2 o3 o4 O h=>by
 generalize((iQ h).1:c<O.length)=hc;refine ab fun _ gG=>?_;obtain⟨p1,p2,p3,p4,e⟩:=x (l2.map .str) oT oR o1 o2 o3 o4 O h;refine gG ?_;clear gG
 rw[mf,e];exact y oT oR p1 p2 p3 p4 _ (by simp[hc])
theorem Ct{t:List Nat}{rows:List (List Nat)}(hs:ao 10 t=rows)(hz:t.length<=ai)(hr:rows.length<=10000)(h:Rd O.length 0 rows [] [] .none ks vs b):bH [.str t] O= .ok (.sett O.length,O++[.dict ks vs]):=by
 have bk:ai=100000:=rfl;have sn:g9 [] O= .ok (.sett O.length,O++[.dict [] []]):=rfl;have sp:=mt (T:=fJ) ((qK (O:=O++[.dict [] []]) hz).trans (by rw[hs]));have ln:=ll (O:=O++[.dict [] []]) (rows.map V.str) (by rw[bR];exact lA ‹_<=10000› rfl);have hg:¬(((rows.map V.str).length:Int)>20000):=by rw[bR];exact Int.not_lt.mpr (aE (lA hr rfl))
 have en:yj [.lst (rows.map .str)] (O++[.dict [] []])= .ok (jf 0 (rows.map .str),O++[.dict [] []]):=rfl;refine ab fun _ gG=>?_;obtain⟨p1,p2,p3,p4,e⟩:=h [] (some (.str t)) (some (.lst (rows.map .str))) none none none none (O++[.dict [] []]) (by simp);refine gG ?_;clear gG
 have e3:(O++[Cell.dict [] []]).set O.length (.dict ks vs)=O++[.dict ks vs]:=by rw[abq _ _ (kG _),Z5];rfl
 rw[bP,e3]at e;have e:=e.trans (show _=R.ok ((Fl.next,Cj O.length b (some (.str t)) (some (.lst (rows.map .str))) p1 p2 p3 p4),O++[.dict ks vs])from rfl);exact aX [cO sn,cO sp,vO ln,.t false,lO en,sO e] (by rfl') fun z=>A sn (A sp (A ln (A (dF hg) (A en (A e z)))))
theorem Hy{t:List Nat}{rows:List (List Nat)}{r:Int}(hs:ao 10 t=rows)(hz:t.length<=ai)(hr:rows.length<=10000)(h:Ex O.length 0 rows [] [] .none r):bH [.str t] O= .exc r:=by
 have bk:ai=100000:=rfl;have sn:g9 [] O= .ok (.sett O.length,O++[.dict [] []]):=rfl;have sp:=mt (T:=fJ) ((qK (O:=O++[.dict [] []]) hz).trans (by rw[hs]));have ln:=ll (O:=O++[.dict [] []]) (rows.map V.str) (by rw[bR];exact lA ‹_<=10000› rfl);have hg:¬(((rows.map V.str).length:Int)>20000):=by rw[bR];exact Int.not_lt.mpr (aE (lA hr rfl))
 have en:yj [.lst (rows.map .str)] (O++[.dict [] []])= .ok (jf 0 (rows.map .str),O++[.dict [] []]):=rfl;have e:=h (some (.str t)) (some (.lst (rows.map .str))) none none none none (O++[.dict [] []]) (by simp);exact aX [cO sn,cO sp,vO ln,.t false,lO en,yO e] (by rfl') fun z=>A sn (A sp (A ln (A (dF hg) (A en (A e z)))))
structure yd(p:List Atom)(kind v out:V):Prop where
 hk:∀ τ,cF [aC p] τ= .ok (kind,τ)
 hr:∀ row τ,iZ [.lst (aQ p),.int row] τ= .ok (aC p,τ)
 ho:∀ row τ,c9 [kind,.lst [out],.int row] τ= .ok (v,τ)
 fit:∀ τ,dk [kind,v] τ= .ok (.bool true,τ)
 cl:V.clean v=true
 len:p.length<=10
 nn:∀ τ,av .IsNot v .none τ=some true
theorem Hz{p:List Atom}(M:yd p kind v out)(h:O[c]?=some (.dict ks vs))(hn:p∉ks)(hl:ks.length=vs.length)(hz:ks.length<=1000):fH [.sett c,.lst (aQ p++[out]),.int row] O= .ok (.none,O.set c (.dict (ks++[p]) (vs++[v]))):=by
 generalize(rfl:ai=100000)=bk;generalize(M.len)=hp;have hw:(aQ p++[out]).length<=ai:=by rw[bv,bR,aac];exact MZ ‹_›
 have b1:aI (.int (-1))=some (some (-1)):=by rfl'
 have s1:((aI .none).bind fun i=>(aI (.int (-1))).bind fun j=>bg (.lst (aQ p++[out])) i j)=some (.lst (aQ p)):=by rw[iD,b1,cH,cH,pE hw]
 have s2:((aI (.int (-1))).bind fun i=>(aI .none).bind fun j=>bg (.lst (aQ p++[out])) i j)=some (.lst [out]):=by rw[iD,b1,cH,cH,nJ hw]
 generalize(vY h p)=hg;rw[nI hn]at hg;generalize(rfl:av .IsNot ((none:Option V).getD .none) .none O=some false)=gn;generalize(M.hk O)=k;generalize(M.fit O)=f;generalize(pD h hn hl (show ks.length<=ai by exact lA ‹_<=1000› rfl) M.cl)=st;generalize(aX [cO k,cO f,.t false,kO st] (by rfl') fun z=>A k (A f (A ff (A st z))):vp [.sett c,aC p,v] O= .ok (.none,O.set c (.dict (ks++[p]) (vs++[v]))))=NC;generalize(M.hr row O)=r;generalize(M.ho row O)=w;exact aX [vO s1,cO r,cO k,vO s2,cO w,cO f,.t false,cO hg,bO gn,.t false,cO NC] (by rfl') fun z=>A s1 (A r (A k (A s2 (A w (A f (A ff (A hg (A gn (A ff (A NC z))))))))))
theorem Cu{p:List Atom}{j:Int}(M:yd p kind v out)(h:O[c]?=some (.dict ks vs))(hg:(ks.zip vs).lookup p=some (.int j)):fH [.sett c,.lst (aQ p++[out]),.int row] O= .exc row:=by
 generalize(rfl:ai=100000)=bk;generalize(M.len)=hp;have hw:(aQ p++[out]).length<=ai:=by rw[bv,bR,aac];exact MZ ‹_›
 have b1:aI (.int (-1))=some (some (-1)):=by rfl'
 have s1:((aI .none).bind fun i=>(aI (.int (-1))).bind fun j=>bg (.lst (aQ p++[out])) i j)=some (.lst (aQ p)):=by rw[iD,b1,cH,cH,pE hw]
 have s2:((aI (.int (-1))).bind fun i=>(aI .none).bind fun j=>bg (.lst (aQ p++[out])) i j)=some (.lst [out]):=by rw[iD,b1,cH,cH,nJ hw]
 generalize(vY h p)=Hc;rw[hg,Option.getD_some]at Hc;generalize(M.hk O)=k;generalize(M.fit O)=f;generalize(M.hr row O)=r;generalize(M.ho row O)=w;exact aX [vO s1,cO r,cO k,vO s2,cO w,cO f,.t false,cO Hc,.t true] (by rfl') fun z=>A s1 (A r (A k (A s2 (A w (A f (A ff (A Hc (A tt z))))))))
theorem Cv{l h:List Nat}{r:List Atom}(M:yd (.str h::r) kind v out)(hl:l=ch::lr)(hch:ch≠32)(ha:ch<128)(hz:l.length<=1000)(hw:∀ O,br [.str l,.int ((i+1:Nat):Int)] O= .ok (.lst (aQ (.str h::r)++[out]),O))(hin:∀ O,av .In (.str h) di O=some false)
  (hn:(Atom.str h::r)∉ks) (hk:ks.length=vs.length) (qP:ks.length<=1000):Rd c i [l] ks vs b (ks++[.str h::r]) (vs++[v]) .none:=fun rest oT oR o1 o2 o3 o4 O hd=>by
 subst hl;have bk:ai=100000:=rfl;have hp:=M.len;simp only[cx]at hp;have rr:=Hz (c:=c) (row:=((i+1:Nat):Int)) M hd hn hk qP;have ew:aQ (.str h::r)++[out]=wd h::(aQ r++[out]):=rfl;have Ck:(wd h::(aQ r++[out])).length<=ai:=by simp only[cx,bv,bR,dv];exact MY ‹_› ‹_›
 generalize(kq (by rw[dv,abg];exact Ck):b9 .Add (.lst []) (.lst (wd h::(aQ r++[out])))=some (.lst (wd h::(aQ r++[out]))))=jc;rw[ew]at hw rr;generalize(hw O)=w;generalize(i7 (O:=O) (wd h::(aQ r++[out])))=ne;generalize(jb (O:=O) (ch:=ch) (lr:=lr) (bL hz (by decide)))=f0;generalize((nr ha (by decide)).trans (congrArg some (dF hch)):av .Eq (.str [ch]) (.str [32]) O=some false)=lu;generalize(zY (O:=O) Ck)=i0;generalize(MG (O:=O) (h:=h))=i1;generalize(hin O)=hin;exact⟨some (.int (i:Nat)),some (.str (ch::lr)),some (.lst (wd h::(aQ r++[out]))),some (.bool false),rE (bj:=Cj c b oT oR (some (.int (i:Nat))) (some (.str (ch::lr))) o3 o4) (by rfl')
  (au [cO w,bO ne,.t false,vO f0,bO lu,.t false,.t false,.t true,vO i0,vO i1,bO hin,.t false,.t true,.t false,vO jc,cO rr] (by rfl') fun z=>A w (A ne (A ff (A f0 (A lu (A ff (A ff (A tt (A i0 (A i1 (A hin (A ff (A tt (A ff (A jc (A rr z)))))))))))))))) rfl⟩
theorem KE{l h:List Nat}{r:List Atom}{j:Int}(M:yd (.str h::r) kind v out)(hl:l=ch::lr)(hch:ch≠32)(ha:ch<128)(hz:l.length<=1000)(hw:∀ O,br [.str l,.int ((i+1:Nat):Int)] O= .ok (.lst (aQ (.str h::r)++[out]),O))(hin:∀ O,av .In (.str h) di O=some false)
  (hg:(ks.zip vs).lookup (Atom.str h::r)=some (.int j)):Ex c i [l] ks vs b ((i+1:Nat):Int):=fun oT oR o1 o2 o3 o4 O hd=>by
 subst hl;have bk:ai=100000:=rfl;have hp:=M.len;simp only[cx]at hp;have rr:=Cu (c:=c) (row:=((i+1:Nat):Int)) M hd hg;have ew:aQ (.str h::r)++[out]=wd h::(aQ r++[out]):=rfl;have Ck:(wd h::(aQ r++[out])).length<=ai:=by simp only[cx,bv,bR,dv];exact MY ‹_› ‹_›
 generalize(kq (by rw[dv,abg];exact Ck):b9 .Add (.lst []) (.lst (wd h::(aQ r++[out])))=some (.lst (wd h::(aQ r++[out]))))=jc;rw[ew]at hw rr;generalize(hw O)=w;generalize(i7 (O:=O) (wd h::(aQ r++[out])))=ne;generalize(jb (O:=O) (ch:=ch) (lr:=lr) (bL hz (by decide)))=f0;generalize((nr ha (by decide)).trans (congrArg some (dF hch)):av .Eq (.str [ch]) (.str [32]) O=some false)=lu;generalize(zY (O:=O) Ck)=i0;generalize(MG (O:=O) (h:=h))=i1;generalize(hin O)=hin;exact Mo (bj:=Cj c b oT oR (some (.int (i:Nat))) (some (.str (ch::lr))) o3 o4) (by rfl') (au [cO w,bO ne,.t false,vO f0,bO lu,.t false,.t false,.t true,vO i0,vO i1,bO hin,.t false,.t true,.t false,vO jc,xO rr] (by rfl') fun z=>A w (A ne (A ff (A f0 (A lu (A ff (A ff (A tt (A i0 (A i1 (A hin (A ff (A tt (A ff (A jc (A rr z))))))))))))))))
noncomputable abbrev z7:List Atom:=[.str [115,110,111,111,112,105,110,103],.str [111,110]]
noncomputable abbrev EE:List Atom:=[.str [108,108,100,112],.str [104,111,108,100]]
noncomputable abbrev jd:List Nat:=[115,110,111,111,112,105,110,103,32,111,110,32,111,110]
noncomputable abbrev T8:List Nat:=[108,108,100,112,32,104,111,108,100,32,51]
theorem KG:yd z7 (.tup [.str [116,114,117,116,104]]) (.bool true) (wd [111,110]):=⟨fun τ=>bz (τ:=[]) (by rfl'),fun row τ=>bz (τ:=[]) (by rfl'),fun row τ=>bz (τ:=[]) (by rfl'),fun τ=>bz (τ:=[]) (by rfl'),rfl,by decide,fun τ=>rfl⟩
theorem Cw:yd EE (.tup [.str [110,117,109,98,101,114],.int 2,.int 10,.int 1]) (.int 3) (wd [51]):=⟨fun τ=>bz (τ:=[]) (by rfl'),fun row τ=>bz (τ:=[]) (by rfl'),fun row τ=>bz (τ:=[]) (by rfl'),fun τ=>bz (τ:=[]) (by rfl'),rfl,by decide,fun τ=>rfl⟩
theorem HA(row:Int)(O:U):br [.str jd,.int row] O= .ok (.lst (aQ z7++[wd [111,110]]),O):=bz (τ:=[]) (by rfl')
theorem ye(row:Int)(O:U):br [.str T8,.int row] O= .ok (.lst (aQ EE++[wd [51]]),O):=bz (τ:=[]) (by rfl')
theorem Pq(hn:z7∉ks)(hk:ks.length=vs.length)(qP:ks.length<=1000):Rd c i [jd] ks vs b (ks++[z7]) (vs++[.bool true]) .none :=
 Cv KG rfl (by decide) (by decide) (by decide) (fun O=>HA _ O) (fun O=>by rfl') hn hk qP
theorem qS:∀ {ks:List (List Atom)} {vs:List V} {p:List Atom} {v:V},p∉ks->ks.length=vs.length->((ks++[p]).zip (vs++[v])).lookup p=some v
 | [],[],p,v,_,_=>by simp
 | [],_::_,p,v,_,h=>by simp at h
 | k::ks,[],p,v,_,h=>by simp at h
 | k::ks,w::vs,p,v,hn,hl=>by
  have h1:(p==k)=false:=by simpa using fun e=>hn (by simp[e])
  show((k,w)::(ks++[p]).zip (vs++[v])).lookup p=_;rw[dR,h1];exact qS (fun m=>hn (bG _ m)) (by simpa using hl)
noncomputable def faults:List (List (List Nat)):=[[[104,111,115,116]],[[104,111,115,116,32,97,32,98]],[[98,114,105,100,103,101,32,112,114,105,111,114,105,116,121,32,48,55]],[[98,114,105,100,103,101,32,112,114,105,111,114,105,116,121,32,53]],[[112,111,114,116,32,49],[32,110,97,109,101,32,34,120]],[[32,117,112,32,111,110]],[[112,111,114,116,32,49,32,117,112,32,111,110]],[[108,108,100,112,32,104,111,108,100,32,51],[108,108,100,112,32,104,111,108,100,32,51]],[[118,108,97,110,32,53],[32,107,105,110,100,32,111,100,100]],[[112,111,114,116,32,51],[32,116,97,103,103,101,100,32,53,45,51]],[[112,111,114,116,32,51],[32,116,97,103,103,101,100,32,51,44,51]],[[112,111,114,116,32,51],[32,110,97,116,105,118,101,32,34,52,34]],[[112,111,114,116,32,51],[32,110,97,109,101,32,120]],[[112,111,114,116,32,51],[32,110,97,109,101,32,34,97,34,98]],[[112,111,114,116,32,51],[32,110,97,109,101,32,34,97,92,110,34]],[[112,111,114,116,32,48],[32,117,112,32,111,110]],[[112,111,114,116,32,51],[32,110,97,116,105,118,101,32,49,50,51,52,53,54,55,56,57,48,49]],[[116,97,98,108,101,32,53]],[[112,111,114,116,32,51],[],[32,116,97,103,103,101,100,32,49,45,50,45,51]]]
theorem EF(hn:EE∉ks)(hk:ks.length=vs.length)(qP:ks.length<=900):∀ f∈faults,Ex c i f ks vs .none ((i+f.length:Nat):Int):=fun f m=>by
 unfold faults at m;simp only[j3,eP,or_false]at m;rcases m with rfl|rfl|rfl|rfl|rfl|rfl|rfl|rfl|rfl|rfl|rfl|rfl|rfl|rfl|rfl|rfl|rfl|rfl|rfl
 ·exact fun oT oR o1 o2 o3 o4 O h=>by rfl'
 ·exact fun oT oR o1 o2 o3 o4 O h=>by rfl'
 ·exact fun oT oR o1 o2 o3 o4 O h=>by rfl'
 ·exact fun oT oR o1 o2 o3 o4 O h=>by rfl'
 ·exact fun oT oR o1 o2 o3 o4 O h=>by rfl'
 ·exact fun oT oR o1 o2 o3 o4 O h=>by rfl'
 ·exact fun oT oR o1 o2 o3 o4 O h=>by rfl'
 ·exact(Cv Cw rfl (by decide) (by decide) (by decide) (fun O=>ye _ O) (fun O=>by rfl') hn hk (by exact lA ‹_<=900› rfl)).ex (l2:=[T8]) (KE Cw rfl (by decide) (by decide) (by decide) (fun O=>ye _ O) (fun O=>by rfl') (qS hn hk))
 ·exact fun oT oR o1 o2 o3 o4 O h=>by rfl'
 ·exact fun oT oR o1 o2 o3 o4 O h=>by rfl'
 ·exact fun oT oR o1 o2 o3 o4 O h=>by rfl'
 ·exact fun oT oR o1 o2 o3 o4 O h=>by rfl'
 ·exact fun oT oR o1 o2 o3 o4 O h=>by rfl'
 ·exact fun oT oR o1 o2 o3 o4 O h=>by rfl'
 ·exact fun oT oR o1 o2 o3 o4 O h=>by rfl'
 ·exact fun oT oR o1 o2 o3 o4 O h=>by rfl'
 ·exact fun oT oR o1 o2 o3 o4 O h=>by rfl'
 ·exact fun oT oR o1 o2 o3 o4 O h=>by rfl'
 ·exact fun oT oR o1 o2 o3 o4 O h=>by rfl'
end
theorem Pr:b9 .Pow (.int 10) (.int 18)=some (.int (10 ^ 18)):=by rfl'
noncomputable abbrev lpB:List lI:=(aZ "_law_pool").body
noncomputable abbrev Ps:=ay (ex sJ 60 (aZ "_law_pool").scope)
noncomputable abbrev EG(o1 o2 o3 o4:Option V):af:=[(S "script",o1),(S "k",some (.int 0)),(S "cell",o2),(S "size",o3),(S "stirred",o4)]
theorem wh(o1 o2:Option V)(size:Int):∃ a b:Int,∃ ρ:af,0<=b/\b<2147483647/\Ps (lpB.drop 2) (EG o1 o2 (some (.int size)) none) O= .ok ((.ret (.ref O.length),ρ),O++[.list [.int a,.int b]]):=by
 generalize((@jV size 2147483629 (by decide))).1=f1;generalize((@jV size 2147483629 (by decide))).2=f2;generalize iu:(size.fmod 2147483629+0+0+17)*48271=q;generalize((@jV q 2147483647 (by decide))).1=g1;generalize((@jV q 2147483647 (by decide))).2=g2;generalize(rJ (x:=size) (y:=2147483629) ⟨by decide,by decide⟩)=m0;have m1:b9 .Mult (.int 7919) (.int 0)=some (.int 0):=by rfl'
 have m2:b9 .Mult (.int 0) (.int 0)=some (.int 0):=by rfl'
 have m3:b9 .Mult (.int 31) (.int 0)=some (.int 0):=by rfl'
 have m4:b9 .Mult (.int (size.fmod 2147483629+0+0+17)) (.int 48271)=some (.int q):=by rw[<- iu];exact El ⟨by exact Sg ‹_›,sb f2⟩
 generalize(rJ (x:=q) (y:=2147483647) ⟨by decide,by decide⟩)=m5;generalize(Pr)=pw;by_cases hp:size>=10 ^ 18
 ·exact⟨size,q.fmod 2147483647,_,g1,g2,au (r:=.ok ((.ret (.ref O.length),EG o1 o2 (some (.int size)) (some (.int (q.fmod 2147483647)))),O++[.list [.int size,.int (q.fmod 2147483647)]])) [vO m0,vO m1,vO m2,vO m3,vO m4,vO m5,vO pw,.t true] (by rfl') fun z=>A m0 (A m1 (A m2 (A m3 (A m4 (A m5 (A pw (A (dT hp) z)))))))⟩
 ·exact⟨0,q.fmod 2147483647,_,g1,g2,au (r:=.ok ((.ret (.ref O.length),EG o1 o2 (some (.int size)) (some (.int (q.fmod 2147483647)))),O++[.list [.int 0,.int (q.fmod 2147483647)]])) [vO m0,vO m1,vO m2,vO m3,vO m4,vO m5,vO pw,.t false] (by rfl') fun z=>A m0 (A m1 (A m2 (A m3 (A m4 (A m5 (A pw (A (dF hp) z)))))))⟩
theorem yf(o1:Option V)(cell:Int):∃ a b:Int,∃ ρ:af,0<=b/\b<2147483647/\Ps (lpB.drop 1) (EG o1 (some (.int cell)) none none) O= .ok ((.ret (.ref O.length),ρ),O++[.list [.int a,.int b]]):=by
 by_cases hc:cell>=0
 ·refine ab fun _ gG=>?_;obtain⟨a,b,ρ,h1,h2,h3⟩:=wh (O:=O) o1 (some (.int cell)) cell;refine gG ?_;clear gG
  exact⟨a,b,ρ,h1,h2,(cZ (i:=1) (j:=1) (au [.t true] (by rfl') fun z=>A (dT hc) z)).trans h3⟩
 ·refine ab fun _ gG=>?_;obtain⟨a,b,ρ,h1,h2,h3⟩:=wh (O:=O) o1 (some (.int cell)) (-1-cell);refine gG ?_;clear gG
  exact⟨a,b,ρ,h1,h2,(cZ (i:=1) (j:=1) (au [.t false] (by rfl') fun z=>A (dF hc) z)).trans h3⟩
theorem KH(hl:ns.length<=63):∃ a b:Int,0<=b/\b<2147483647/\jw [.lst (ns.map .int),.int 0] O= .ok (.ref O.length,O++[.list [.int a,.int b]]):=by
 have hz:(ns.map V.int).length<=ai:=by rw[bR];exact bL hl (by decide)
 generalize(ll (O:=O) _ hz)=ln;have e:jw [.lst (ns.map .int),.int 0] O=(Ps (lpB.drop 0) (EG (some (.lst (ns.map .int))) none none none) O).bind mu:=by rfl'
 rw[e];cases ns with
 | nil =>
  refine ab fun _ gG=>?_;obtain⟨a,b,ρ,h1,h2,h3⟩:=yf (O:=O) (some (.lst [])) 0;refine gG ?_;clear gG
  refine⟨a,b,h1,h2,?_⟩;generalize((cZ (i:=0) (j:=1) (ρ:=EG (some (.lst [])) none none none) (O:=O) (au [vO ln,.t false] (by rfl') fun z=>A ln (A (dF (p:=(0:Int)<0) (by decide)) z))).trans h3)=h4;exact(congrArg (fun r:b7=>r.bind mu) h4).trans rfl
 | cons n ns =>
  refine ab fun _ gG=>?_;obtain⟨a,b,ρ,h1,h2,h3⟩:=yf (O:=O) (some (.lst ((n::ns).map .int))) n;refine gG ?_;clear gG
  refine⟨a,b,h1,h2,?_⟩;have hlt:((0:Int)<(((n::ns).map V.int).length:Int)):=by rw[bR,cx];exact Int.ofNat_lt.mpr (adu _)
  generalize(lm (i:=0) rfl hz:bC (.lst ((n::ns).map V.int)) (.int 0) O=some (.int n))=hi;generalize((cZ (i:=0) (j:=1) (ρ:=EG (some (.lst ((n::ns).map .int))) none none none) (O:=O) (au [vO ln,.t true,vO hi] (by rfl') fun z=>A ln (A (dT hlt) (A hi z)))).trans h3)=h4;exact(congrArg (fun r:b7=>r.bind mu) h4).trans rfl
theorem EH:(pathsL.all fun x=>decide (x.path≠z7)&&decide (x.path≠EE))=true:=by rfl'
theorem BInv.dok{lines:List (List Nat)}{bb rb:V}(I:BInv m lines ks vs bb rb)(hm:m<60):KC ks vs/\z7∉ks/\EE∉ks:=by
 have hx:∀ p∈ks,∃ x∈pathsL,x.path=p:=fun p hp=>by
  obtain⟨j,hj⟩:=List.mem_iff_getElem?.mp hp;have Pt:j<vs.length:=by rw[<- I.len];exact(iQ hj).1
  obtain⟨x,raw,h1,h2⟩:=I.each j p vs[j] hj (fL Pt);exact⟨x,h1.1,h2⟩
 have hne:∀ p∈ks,p≠z7/\p≠EE:=fun p hp=>by
  obtain⟨x,h1,rfl⟩:=hx p hp;have:=yg EH x h1;simpa using this
 refine⟨⟨I.nd,I.len,hx,fun v hv=>?_,by have:=I.kz;exact Qf ‹_› ‹_›⟩,fun h=>(hne _ h).1 rfl,fun h=>(hne _ h).2 rfl⟩;obtain⟨j,hj⟩:=List.mem_iff_getElem?.mp hv;have Pt:j<ks.length:=by rw[I.len];exact(iQ hj).1
 obtain⟨x,raw,h1,h2⟩:=I.each j ks[j] v (fL Pt) hj;exact⟨h1.2.self,h1.2.wcl⟩
theorem HB:∀ j:List Nat,ao ch j≠[]
 | []=>by simp[ao]
 | a::j=>by
  show(if a=ch then[]::ao ch j else match ao ch j with | []=>[[a]]|p::ps=>(a::p)::ps)≠[];split
  ·simp
  ·split<;>simp
theorem te{ch:Nat} : ∀ j:List Nat,ao ch (j++[ch])=ao ch j++[[]]
 | []=>by show(if ch=ch then[]::ao ch []else _)=_;rw[if_pos rfl];rfl
 | a::j=>by
  generalize(te (ch:=ch) j)=ih;show(if a=ch then[]::ao ch (j++[ch])else match ao ch (j++[ch])with | []=>[[a]]|p::ps=>(a::p)::ps)=(if a=ch then[]::ao ch j else match ao ch j with | []=>[[a]]|p::ps=>(a::p)::ps)++[[]];rw[ih];by_cases h:a=ch
  ·rw[if_pos h,if_pos h];rfl
  ·rw[if_neg h,if_neg h];cases e:ao ch j with
   | nil=>exact absurd e (HB j)
   | cons p ps=>rfl
theorem KI{l:List Nat}(h:∀ c∈l,32<=c/\c<128):10∉l:=fun m=>absurd (h 10 m).1 (by decide)
theorem je(h:∀ l∈ls,l.length<=300)(hl:ls.length<=100):(an [10] ls).length<=30100/\cT ls<=30000:=by
 generalize(nG (sep:=[10]) ls)=a;generalize(ko h)=b;simp only[cx,dv]at a;exact sc a b hl
noncomputable def KJ(x:R (List V×U)):b7:=match x with
 | .ok a=>if V.cleans a.1=true then match bH a.1 []with
   | .ok _=>.ok ((.ret .none,[]),a.2)
   | .exc row=>.ok ((.ret (.int row),[]),a.2)
   | .stuck=>.stuck
  else .stuck
 | _=>.stuck
theorem tf(v:V):az [v] O=(KJ (((ah (cV (.str [10]) (S "join") [v] O)).bind fun v=>.ok (v,O)).bind fun a=>.ok ([a.1],a.2))).bind mu:=by rfl'
theorem Cx{r:Int}(h:∀ l∈ls,eI l)(hne:ls≠[])(hl:ls.length<=100)(he:Ex 0 0 ls [] [] .none r):az [.lst (ls.map .str)] O= .ok (.int r,O):=by
 have bk:ai=100000:=rfl;generalize((je (fun l m=>(h l m).2) hl)).1=j1;generalize((je (fun l m=>(h l m).2) hl)).2=j2;have hj:cV (.str [10]) (S "join") [.lst (ls.map .str)] O=some (.str (an [10] ls)):=jX rfl (by simp only[cx,dv];exact sd j2 hl) (by exact M1 ‹_› ‹_›);have hr:bH [.str (an [10] ls)] []= .exc r:=Hy (i9 hne fun l m=>KI (h l m).1) (by exact MQ ‹_› ‹_›) (by exact lA ‹_<=100› rfl) he;rw[tf,hj];simp only[JV,no];unfold KJ;simp only[hr];rfl
theorem z8{b:V}(h:∀ l∈ls,eI l)(hne:ls≠[])(hl:ls.length<=100)(he:Rd 0 0 ls [] [] .none ks vs b):az [.lst (ls.map .str)] O= .ok (.none,O):=by
 have bk:ai=100000:=rfl;generalize((je (fun l m=>(h l m).2) hl)).1=j1;generalize((je (fun l m=>(h l m).2) hl)).2=j2;have hj:cV (.str [10]) (S "join") [.lst (ls.map .str)] O=some (.str (an [10] ls)):=jX rfl (by simp only[cx,dv];exact sd j2 hl) (by exact M1 ‹_› ‹_›);have hr:bH [.str (an [10] ls)] []= .ok (.sett 0,[.dict ks vs]):=Ct (O:=[]) (i9 hne fun l m=>KI (h l m).1) (by exact MQ ‹_› ‹_›) (by exact lA ‹_<=100› rfl) he;rw[tf,hj];simp only[JV,no];unfold KJ;simp only[hr];rfl
theorem EI:∀ f∈faults,f.length<=3/\∀ l∈f,eI l:=by
 have h:(faults.all fun f=>decide (f.length<=3)&&f.all fun l=>(l.all fun c=>decide (32<=c)&&decide (c<128))&&decide (l.length<=300))=true:=by rfl'
 intro f hf;have:=yg h f hf;simp only[gT,decide_eq_true_eq,ZF]at this;exact⟨this.1,fun l hl=>⟨fun c m=>(this.2 l hl).1 c m,(this.2 l hl).2⟩⟩
noncomputable abbrev lwB:List lI:=(aZ "law").body
noncomputable abbrev KL:=kg (ex T_law 60 (aZ "law").scope) (lf T_law 60 az (S "_law_faulty_row") (aZ "law").scope)
noncomputable abbrev nL(o1 o2 o3 o4 o5:Option V):af:=[(S "script",o1),(S "source",o2),(S "lines",o3),(S "told",o4),(S "faulty",o5)]
theorem EJ{f g:lI->af->U->b7} : ∀ {l:List lI} {j:Nat} {ρ:af} {O:U},j<l.length->ay f (l.take j) ρ O= .ok ((.next,aU),ar)->kg f g l ρ O=kg f g (l.drop j) aU ar:=fun{l j}=>by
 induction j generalizing l with
 | zero=>intro ρ O _ h;cases(show(R.ok ((Fl.next,ρ),O):b7)=_ from h);rfl
 | succ j ih =>
  intro ρ O hl h;rcases l with _|⟨s,_|⟨t,ss⟩⟩
  ·exact absurd hl (aaw _)
  ·exact absurd (Z6 hl) (aaw _)
  ·have h:(f s ρ O).bind (Ea f ((t::ss).take j))=_:=h;show(f s ρ O).bind _=_;generalize f s ρ O=r at *;rcases r with⟨⟨_|_|_|_,bj⟩,aS⟩|_|_
   ·exact ih (Z6 hl) h
   all_goals (exact nomatch h)
theorem KN(v:V):tU [v] []=(KL (lwB.drop 0) (nL (some v) none none none none) []).bind mu:=by rfl'
noncomputable def wi:Cell:=.dict [[.str [112,111,114,116],.int 7,.str [116,97,103,103,101,100]]] [.tup [.int 2,.int 3,.int 4,.int 9]]
theorem EK(o1 o2 o3 o4 o5:Option V):KL (lwB.drop 0) (nL o1 o2 o3 o4 o5) []=KL (lwB.drop 1) (nL o1 o2 o3 o4 o5) [wi]:=by rfl'
theorem HC(v w:V)(o1 o2 o3:Option V)(O:U):KL (lwB.drop 5) (nL o1 o2 (some v) o3 (some w)) O =
  (((((az [w] O).bind fun(a:V×U)=>((ah (mi w a.2)).bind fun(v:V)=>(R.ok (v,a.2):R (V×U))).bind fun(b:V×U)=>(ah (av .Eq a.1 b.1 b.2)).bind fun(c:Bool)=>(R.ok (V.bool c,b.2):R (V×U))):R (V×U)).bind fun(a:V×U)=>(ah (V.truth a.1)).bind fun(t:Bool)=>match t with
   | true=>((((ah (b9 .Add v (.lst [.str jd]))).bind fun(v:V)=>(R.ok (v,a.2):R (V×U))).bind fun(a:V×U)=>(R.ok ([a.1],a.2):R (List V×U))).bind fun(a:List V×U)=>az a.1 a.2).bind fun(a:V×U)=>(ah (av .Is a.1 .none a.2)).bind fun(c:Bool)=>(R.ok (V.bool c,a.2):R (V×U))
   | false=>(R.ok a:R (V×U))).bind fun(a:V×U)=>(R.ok ((Fl.ret a.1,nL o1 o2 (some v) o3 (some w)),a.2):b7)):=by rfl'
theorem EL{w u:V}{n:Int}(fa:az [w] τ= .ok (.int n,τ))(ck:mi w τ=some (.int n))(ad:b9 .Add v (.lst [.str jd])=some u)(fb:az [u] τ= .ok (.none,τ)) :
  KL (lwB.drop 5) (nL o1 o2 (some v) o3 (some w)) τ= .ok ((.ret (.bool true),nL o1 o2 (some v) o3 (some w)),τ):=by
 have e:av .Eq (.int n) (.int n) τ=some true:=congrArg some (decide_eq_true rfl);have a1:((az [w] τ).bind fun(a:V×U)=>((ah (mi w a.2)).bind fun(v:V)=>(R.ok (v,a.2):R (V×U))).bind fun(b:V×U)=>(ah (av .Eq a.1 b.1 b.2)).bind fun(c:Bool)=>(R.ok (V.bool c,b.2):R (V×U)))= .ok (.bool true,τ):=by
  rw[fa];show((ah (mi w τ)).bind _).bind _=_;rw[ck];exact congrArg (fun r:R Bool=>r.bind fun(c:Bool)=>(R.ok (V.bool c,τ):R (V×U))) (congrArg ah e)
 have a2:((((ah (b9 .Add v (.lst [.str jd]))).bind fun(v:V)=>(R.ok (v,τ):R (V×U))).bind fun(a:V×U)=>(R.ok ([a.1],a.2):R (List V×U))).bind fun(a:List V×U)=>az a.1 a.2).bind (fun(a:V×U)=>(ah (av .Is a.1 .none a.2)).bind fun(c:Bool)=>(R.ok (V.bool c,a.2):R (V×U)))= .ok (.bool true,τ):=by
  rw[ad];show(az [u] τ).bind _=_;rw[fb];rfl
 rw[HC,a1];exact congrArg (fun r:R (V×U)=>r.bind fun(a:V×U)=>(R.ok ((Fl.ret a.1,nL o1 o2 (some v) o3 (some w)),a.2):b7)) a2
theorem Pu(ns:List Int)(hl:ns.length<=63):∃ ar,tU [.lst (ns.map .int)] []= .ok (.bool true,ar):=by
 have bk:ai=100000:=rfl;obtain⟨a,b,p1,p2,p3⟩:=KH (O:=[wi]) hl;have hs:dp 1 [wi,.list [.int a,.int b]]:=⟨a,b,rfl,p1,p2⟩
 obtain⟨lines,ks,vs,bb,rb,bn,I,T9,hb⟩:=w6 hs;obtain⟨D,Xa,Xb⟩:=I.dok (by decide);have MA:=I.lz;have qP:=I.kz;have Ua:bn.length=2:=T9.2.1;obtain⟨e,bf,e1,Ub,e3⟩:=gu (O:=bn) (k:=1) (l:=[.str [],.str [10]]) T9.1 (by simp) (dZ (by decide));have AW:bf.length=2:=Ub.2.1.trans Ua;obtain⟨ex,rfl,hex⟩:∃ ex,e= .str ex/\(ex=[]\/ex=[10]):=by
  simp only[j3,eP,or_false]at e3;rcases e3 with rfl|rfl
  ·exact⟨_,rfl,.inl rfl⟩
  ·exact⟨_,rfl,.inr rfl⟩
 obtain⟨j1,j2⟩:=je (fun l m=>(I.ok l m).2) (show lines.length<=100 by exact lA ‹_<=3*16› rfl);have hj:=mt (T:=T_law) (show cV (.str [10]) (S "join") [.lst (lines.map .str)] bn=some (.str (an [10] lines))from jX rfl (by simp only[cx,dv];exact sd j2 (lA ‹_<=3*16› rfl)) (by exact RX ‹_› ‹_›));have Xl:ex.length<=1:=by rcases hex with rfl|rfl<;>simp
 have vK:b9 .Add (.str (an [10] lines)) (.str ex)=some (.str (an [10] lines++ex)):=l9 (by exact PL ‹_› ‹_› ‹_›);have Pw:∃ bl:List (List Nat),(∀ l∈bl,l=[])/\bl.length<=2/\ao 10 (an [10] lines++ex)=lines++bl:=by
  have h0:∃ bl:List (List Nat),(∀ l∈bl,l=[])/\bl.length<=1/\ao 10 (an [10] lines)=lines++bl:=by
   by_cases hn:lines=[]
   ·rw[hn];exact⟨[[]],by simp,by simp,rfl⟩
   ·exact⟨[],by simp,by simp,by rw[bP];exact i9 hn fun l m=>KI (I.ok l m).1⟩
  obtain⟨bl,b1,b2,b3⟩:=h0;rcases hex with rfl|rfl
  ·exact⟨bl,b1,by exact lA ‹_<=1› rfl,by rw[bP];exact b3⟩
  ·refine⟨bl++[[]],fun l m=>?_,by simp;assumption,by rw[te,b3,cJ]⟩;rcases bU m with m|m
   ·exact b1 l m
   ·exact a8 m
 obtain⟨bl,b1,b2,Pd⟩:=Pw;have hbl:∀ (bl:List (List Nat)),(∀ l∈bl,l=[])->∀ c i,Rd c i bl ks vs rb ks vs rb:=fun bl=>by
  induction bl with
  | nil=>intro _ c i;exact Rd.nil
  | cons l bl ih =>
   intro h c i;have e:=h l aW;subst e;exact((nK (l:=[]) (by simp[blanks])).2 c i ks vs rb).app (l1:=[[]]) (ih (fun x m=>h x (bG _ m)) c _)
 have hrd:∀ c,Rd c 0 (lines++bl) [] [] .none ks vs rb:=fun c=>(I.rd c).app (hbl bl b1 c _)
 have KO:bH [.str (an [10] lines++ex)] bf= .ok (.sett 2,bf++[.dict ks vs]):=by
  have:=Ct (O:=bf) Pd (by rw[bv];exact PL ‹_› ‹_› ‹_›) (by rw[bv];exact QU ‹_› ‹_›) (hrd _);rw[AW]at this;exact this
 obtain⟨qs,hq,KP⟩:=KD (c:=2) (O:=bf++[.dict ks vs]) (ks:=ks) (vs:=vs) (by rw[<- AW];simp) D;have KQ:gI (S "dict") [.tup (qs.map fun p=>.tup [aC p,valAt ks vs p])] (bf++[.dict ks vs])=some (.dct qs (qs.map (valAt ks vs))):=MK (yc qs _) (hq.nodup_iff.mpr D.nd) (by rw[bR,hq.length_eq];exact Qz ‹_› ‹_›);have Pa:dp 1 (bf++[.dict ks vs]):=nH Ub.1;obtain⟨fv,gl,f1,X8,f3⟩:=gu (O:=bf++[.dict ks vs]) (k:=1) (l:=faults.map fun f=>.lst (f.map .str)) Pa (by simp[faults]) (by show 19<=100000;decide);obtain⟨f,hf,rfl⟩:=iP f3;have Fw:kC [.ref 1] (bf++[.dict ks vs])= .ok (.lst (f.map .str),gl):=by
  exact aX [cO f1] (by rfl') fun z=>A f1 z
 obtain⟨X9,Xc⟩:=EI f hf;have Px:eI jd:=⟨by decide,by decide⟩
 have MJ:∀ l∈lines++[jd],eI l:=fun l m=>by
  rcases bU m with m|m
  ·exact I.ok l m
  ·rw[a8 m];exact Px
 have Xd:∀ l∈(lines++[jd])++f,eI l:=fun l m=>by
  rcases bU m with m|m
  ·exact MJ l m
  ·exact Xc l m
 have rd2:Rd 0 0 (lines++[jd]) [] [] .none (ks++[z7]) (vs++[.bool true]) .none:=(I.rd 0).app (Pq Xa D.len (by exact lA ‹_<=16› rfl));have Uc:EE∉ks++[z7]:=fun m=>by
  rcases bU m with m|m
  ·exact Xb m
  ·exact absurd (a8 m) (by decide)
 have Xe:Ex 0 0 ((lines++[jd])++f) [] [] .none ((((lines++[jd])++f).length:Nat):Int):=by
  have:=rd2.ex (EF (c:=0) (i:=0+(lines++[jd]).length) Uc (by simp[D.len]) (by simp;exact lA ‹_<=16› rfl) f hf);have en:0+(lines++[jd]).length+f.length=((lines++[jd])++f).length:=by simp only[bv,abg]
  rw[en]at this;exact this
 have Py:b9 .Add (.lst (lines.map V.str)) (.lst [.str jd])=some (.lst ((lines++[jd]).map V.str)):=by
  rw[kq (by simp;exact R6 ‹_› ‹_›),mf (l₂:=[jd])];rfl
 have Ud:b9 .Add (.lst ((lines++[jd]).map V.str)) (.lst (f.map V.str))=some (.lst (((lines++[jd])++f).map V.str)):=by
  rw[kq (by simp;exact Rz ‹_› ‹_› ‹_›),mf (l₂:=f)]
 have fa:az [.lst (((lines++[jd])++f).map .str)] gl= .ok (.int ((((lines++[jd])++f).length:Nat):Int),gl):=Cx Xd (by simp) (by simp;exact Q3 ‹_› ‹_›) Xe;have fb:az [.lst ((lines++[jd]).map .str)] gl= .ok (.none,gl):=z8 MJ (by simp) (by simp;exact lA ‹_<=3*16› rfl) rd2;have ck:mi (.lst (((lines++[jd])++f).map V.str)) gl=some (.int ((((lines++[jd])++f).length:Nat):Int)):=by
  rw[ll _ (by simp;exact Sk ‹_› ‹_› ‹_›),bR]
 refine⟨gl,?_⟩;generalize(hb:iK [.ref 1] [wi,.list [.int a,.int b]]=_)=hb;generalize(e1:aw [.ref 1,.lst [.str [],.str [10]]] bn=_)=e1;generalize(ED (O:=bf++[.dict ks vs]) D hq)=st;have h5:(lwB.drop 1).length=5:=by rfl'
 have h4:4<(lwB.drop 1).length:=by rw[h5];decide
 have m:=EJ (f:=Mine.ex T_law 60 (aZ "law").scope) (aU:=nL (some (.lst (ns.map .int))) (some (.ref 1)) (some (.lst (lines.map .str))) (some (.dct ks vs)) (some (.lst (((lines++[jd])++f).map .str)))) (ar:=gl) (g:=lf T_law 60 az (S "_law_faulty_row") (aZ "law").scope) (l:=lwB.drop 1) (j:=4) (ρ:=nL (some (.lst (ns.map .int))) none none none none) (O:=[wi]) h4
  (au [cO p3,cO hb,cO hj,cO e1,vO vK,cO KO,cO KP,vO KQ,bO st,.t false,vO Py,cO Fw,vO Ud] (by rfl') fun z=>A p3 (A hb (A hj (A e1 (A vK (A KO (A KP (A KQ (A st (A ff (A Py (A Fw (A Ud z)))))))))))))
 generalize(rfl:V.truth (.bool true)=some true)=Yb;rw[KN,EK];refine(congrArg (fun r:b7=>r.bind mu) (m.trans ?_)).trans (show(R.ok ((Fl.ret (.bool true),nL (some (.lst (ns.map .int))) (some (.ref 1)) (some (.lst (lines.map .str))) (some (.dct ks vs)) (some (.lst (((lines++[jd])++f).map .str)))),gl):b7).bind mu=_ from rfl);exact EL fa ck Py fb
end Mine
theorem PySem.Challenge.cw_pc0380_01_holds : PySem.Challenge.rw_pc0380_01.Holds :=
  Mine.O0 Mine.Pu
