import PyProof.Rows.All
import Wide.All
import OpenK.AllK
import Wide.FinOn
import Open.Tops
import Lean
import PySem.Challenge.RW_pq0589_01
set_option Elab.async false
set_option maxRecDepth 100000
set_option maxHeartbeats 0
set_option linter.all false
set_option tactic.hygienic false
set_option genSizeOf false
set_option genInjectivity false
set_option backward.match.sparseCases false
set_option bootstrap.genMatcherCode false
namespace Internal.Mine
noncomputable section
open _root_.Array renaming find?→adC,find?_toList→adD,getElem?_eq_getElem→Ay,getElem?_eq_some_iff→E3,getElem?_toList→adK,length_toList→NY,mem_toList_iff→E6,mk→uN,size_push→adJ
open _root_.Bool renaming and_assoc→acV,and_eq_true→ol,and_eq_true_iff→ec,and_false→mW,casesOn→xx,eq_false_iff→qc,eq_iff_iff→Af,false_and→ac6,false_eq_true→mX,false_ne_true→sP,not_and→acW,not_eq_false'→acX,not_eq_true'→Ae,or_eq_false_iff→kl,or_eq_true→uK,or_eq_true_iff→jr,or_false→oj,or_true→uL,false→C,true→I
open Classical renaming byContradiction→M8
open Decidable renaming byContradiction→NL
open ForInStep renaming yield→adW
open _root_.Int renaming add_assoc→Nk,add_zero→Nn,eq_ofNat_of_zero_le→Al,le_of_lt→NO,le_refl→Nm,le_trans→EY,natCast_nonneg→qa,natCast_pos→adh,ne_of_gt→NB,not_le→EZ,not_lt→ra,ofNat→N2,ofNat_le→sN,ofNat_lt→uI,sub_zero→adU,zero_add→adb
open _root_.List renaming all_eq_true→lr,any_cons→ady,any_eq_false→adG,append_assoc→b6,append_cons→kP,append_eq_append_iff→EU,append_eq_nil_iff→xz,append_nil→cM,casesOn→aW,concat_eq_append→Ah,cons_append→kR,cons_ne_nil→ac9,contains_cons→Ag,countP→adm,countP_append→Ni,countP_cons→Ai,dropLast_concat→ac0,drop_eq_getElem_cons→N0,drop_length→Np,eq_nil_of_length_eq_zero→xD,eq_nil_or_concat→Nc,find?_cons→adz,find?_some→E8,flatten_cons→adr,forall_mem_cons→add,getD_eq_getElem?_getD→Ad,getElem?_append_left→p7,getElem?_append_right→qY,getElem?_concat_length→mT,getElem?_eq_getElem→li,getElem?_eq_none→EP,getElem?_eq_some_iff→fM,getElem?_map→qb,getElem?_set_ne→mS,getElem?_set_self→oi,getElem_mem→adf,getLast?_append→uM,getLast?_cons→No,getLast?_eq_none_iff→Nj,getLastD_eq_getLast?→acT,head?_append→EV,head_eq_of_cons_eq→ada,isEmpty_iff→lq,length→Nt,length_append→bx,length_cons→gS,length_drop→Ao,length_map→c3,length_nil→lj,length_range→adT,length_set→sK,length_take_le→adn,length_take_le'→N5,lookup→E7,lookup_append→aeb,lookup_cons→ot,map_append→dz,map_cons→iP,map_eq_nil_iff→adk,map_fst_zip→adY,map_inj_left→E9,map_map→rc,mem_append→eT,mem_append_left→fh,mem_append_right→dj,mem_cons→d2,mem_cons_of_mem→Ak,mem_cons_self→ET,mem_filterMap→ND,mem_flatten→NK,mem_map→eh,mem_map_of_mem→om,mem_of_getElem?→mi,mem_of_mem_take→adi,mem_range→adg,mem_singleton→iv,nil_append→EX,nodup_append→mY,nodup_cons→iQ,nodup_nil→xB,not_mem_nil→eU,of_mem_zip→ad1,pairwise_map→adq,pairwise_singleton→E5,perm_append_comm→sS,perm_middle→NJ,range→kj,range'→ll,range_eq_range'→xy,replicate→jp,set_append_right→acS,set_cons_succ→ads,set_getElem_self→Nu,set_set→oo,size_toArray→NX,take_of_length_le→ade
open List.Perm renaming append_left→sR,append_right→uQ,cons→As,swap→ou,trans→adt
open List.cons renaming inj→mV
open Nat renaming add_assoc→kn,add_comm→km,add_le_add→gq,add_le_add_left→jo,add_le_add_right→sO,add_mul→adc,add_right_comm→ER,add_sub_cancel→acU,add_sub_cancel_left→M9,ble_eq→Nh,casesOn→fW,le_add_left→hG,le_add_right→d7,le_antisymm→Am,le_max_left→Na,le_max_right→acZ,le_of_add_le_add_right→acR,le_of_add_right_le→Nd,le_of_eq→b7,le_of_lt→sQ,le_of_lt_succ→An,le_of_not_lt→sL,le_of_succ_le→iw,le_of_succ_le_succ→jT,le_refl→bF,le_sub_of_add_le→ac7,le_succ→et,le_succ_of_le→f4,le_trans→aE,log2_lt→NN,lt_irrefl→NA,lt_of_le_of_lt→jq,lt_of_lt_of_le→iO,lt_of_succ_lt_succ→Nq,lt_succ_of_lt→Nv,lt_succ_self→sM,lt_trans→uJ,max_assoc→ac2,max_zero→Ng,mul_le_mul_left→ac1,mul_le_mul_right→ES,ne_of_gt→mU,ne_of_lt→e9,noConfusion→ac4,not_lt→rb,not_lt_zero→Nb,not_succ_le_zero→kQ,one_mul→EW,sub_add_cancel→Aj,sub_le→ac8,sub_lt_sub_left→adS,sub_self→p9,succ_add→ac5,succ_le_of_lt→Ny,succ_le_succ→gs,succ_mul→adl,succ_ne_self→Nz,succ_pos→Nr,zero_add→c9,zero_le→dG,zero_max→EQ
open Nat.succ renaming inj→Nw
open Ne renaming symm→eG
open _root_.Option renaming bind→acY,bind_eq_some_iff→oq,bind_some→E0,casesOn→gD,isNone_iff_eq_none→E4,isSome_iff_exists→Aw,map→NP,map_eq_some_iff→fX,some→ac3,some→O,none→U
open Option.some renaming inj→cS
open Prod renaming fst→adj
open PyProof.Rows renaming Below→lu,Call_→xJ,CellsAre→s0,Top→oz,cellsFrom_names→Oe,dflt→Az,envOfC→jU,lookup_of_mem_nodup→aem,modules_low→aeM,seen→ae4,subscriptTail→AP
open PySem renaming Addr→aH,Around→dN,BindsTo→AH,BoolOp→Ob,Comprehension→FP,DictEntry→eA,Env→dA,ExceptHandler→ae8,Expr→aX,Flow→ku,FuncData→ow,Heap→cz,IsRangeIter→Oo,Model→uR,NameKind→AB,Operator→Oa,OsState→iR,Params→bX,Pos→dq,Program→kv,Result→s1,Scope→c4,Shared→ay,Stmt→cA,Str→aw,StrKeys→Fo,Value→ak,World→ed,assign→Fa,assignEach→FJ,assignInOrder→aeH,attributeBase→aer,behindInMarks→Of,binaryOp→Fp,bindArgs→FR,bindL→xG,bootBuiltins→aeo,builtinsNs→uS,cLine→m0,call_meetsIn→aet,callerA→Fb,cellsFrom→AI,checkBuiltinCall→Ox,closureFor→Oq,codeAny→ky,codeAny_builtin→aeA,codeAny_call_function→aej,codeAny_func→ael,compPost→aec,compareOp→oB,comprehension→ae7,eval→kw,eval_ListComp→aeL,firstArgMember→ae6,foldedSetIterable→uW,getAttr→Ft,getItem→uX,getMethod_builtin→FC,importedModules→xH,importedNames→aeh,intKind→ae5,intKind_is→AK,interactive→FD,isInstance→Oy,keeperOf→Oj,letTemporaryGo→FI,mainGlobals→ey,meets_dict_get_default→aeu,merged→FL,methodCallForm→aes,model→du,moduleNames→aef,newFunctionEnv→Ot,newList→AC,noteFrame→AF,nsFind→Fc,operate→AO,pastItsLine_dict→aeT,plainObj_wpAny_Assign_Attribute→Om,pyIter→FF,pyNext→AN,rawInt→ls,recursionLimit→qd,relabel→Ov,seqIndex?→Op,setFlight→Fi,sizeLine→eH,sizeLine_eq→iy,slot_listiter_next→aeB,standAt→Og,starEach→Oi,storeName→Ol,strKind_is→AL,subscripted→xK,swappedStores→aeJ,swapsWith→oy,swapsWithSole→aeI,treeTable→sY,typeLookup→aee,unpackItems→aeG,wpAny→bl,wpAny_Assign_Name→aex,wpAny_Constant_int→Oh,wpAny_Expr_any→aev,wpAny_Name→Fv,wpAny_Try_except→aeV,wpAny_assign_Name→FE,wpAny_bind→bu,wpAny_call→FO,wpAny_comprehension_free→FK,wpAny_execs_cons→AM,wpAny_execs_nil→s6,wpAny_field→sZ,wpAny_getItem_of→aeF,wpAny_holding→mn,wpAny_in_of→aep,wpAny_isSubtype_exc→Ow,wpAny_loadName_local→AJ,wpAny_loadPart→aeO,wpAny_loadPart_at→FN,wpAny_lookBehind→aeS,wpAny_mono→mm,wpAny_newFunctionEnv_cells→aek,wpAny_newObj_type→uT,wpAny_notIn_of→aeq,wpAny_nsSet1→aeR,wpAny_passesOwn→On,wpAny_pure→dB,wpAny_pyIter_list→FH,wpAny_pyIter_listiter→aeK,wpAny_pyIter_range→aeD,wpAny_pyNext_list_item→aeC,wpAny_runValue→aez,wpAny_setField→AE,wpAny_specialOf→aeE,wpAny_standAt→uV,wpAny_storeName_local→aew,wpAny_throw→aey,wpAny_typeOf→aeN,Obj→jS,Tok→qX,call→kq,setAttr→NQ,strKind→adA,truthy→Au,wpAt_bind→ad3,wpAt_of_wpAny→ad4
open PySem.Around renaming frames_deeper→adF
open PySem.AutoIntOps renaming floordiv_1→ae0,mod_1→ae1,pow_0→ae2,pow_4→ae3
open PySem.Builtin renaming bitAnd→adw
open PySem.Builtin.Int renaming intBits→NM
open PySem.Builtin.ObjectAttr renaming newKeyGuard→aeQ,storeInDict→aed
open PySem.Builtin.Range renaming rangeSize→N1
open PySem.Builtin.Str renaming strSliceIndices→N4
open PySem.Calls renaming spliced_cons→Fz,spliced_nil→Fw
open PySem.Challenge renaming rw_pq0589_01→Ar
open PySem.Code renaming body→lm,quiet_builtin→ad5
open PySem.Data.func renaming elim→N9
open PySem.Data.seq renaming elim→adu
open PySem.EntryCells renaming newEntry→adp
open PySem.Expr renaming Call→aea
open PySem.F renaming args_dict_get_3→adO,entry_dict_get→adN,excBase_Exception→ad2,plainAttrs_list→adI,slot_dict_get→NZ,slot_list_pop→adL
open PySem.Heap renaming ExtBut→Ax,SameBut→sU,get?_none_of_le→N6,get?_push_at→ad6,get?_push_of_some→hJ,get?_push_size→kt,get?_update_ne→ad7,get?_update_other→xE,get?_update_self→E1,lt_size→mZ,size_push→adR
open PySem.Heap.SameBut renaming update→adM
open PySem.Heap.UpToSlots renaming of_keeps→NR
open PySem.Keeper renaming boundFrame→NW,frame→NT,machine→NV
open PySem.NameKind renaming cell→adX,free→xF
open PySem.Obj renaming mapFields→adQ,data_mapFields→NG,dict→ad8,isFreed_of_fields→E2,mapFields→NE
open PySem.PassesOwn renaming never→ad9
open PySem.PyData renaming keyHash→ado
open PySem.SeqAt.EqAt renaming int_int→adx
open PySem.Str renaming ofString→Aq
open PySem.StrLaws renaming sliceText→adV
open PySem.Txt renaming slice→N3
open PySem.Value renaming bool→adv,casesOn→sW,isInt→adB,isInt_shape→ad0,isStrOf→adE,isStrOf_shape→adZ,none→uO,ref→uP
open PySem.W renaming Frag→cT,KtsDicts→s5,KtsTurn→mj,Looks→uU,behindTheImports→Oc,boot_drawn→Fe,boot_heap→rh,boot_toks→Ff,builtinNamed→aeg,cellsFrom_some→FM,dictOf→Fs,findIn→gF,hideAll→ml,hideAll_get→Fu,hideAll_none→aen,instObj→sX,isFn→xL,keepIn→mo,keeps_K→FA,ktsIn→xN,kts_self→AG,kts_turn_at→aei,look_both→gE,looks_clsIn→aeP,looks_findIn→aeU,looseW→xI,namesMeet→Fh,nsIn→gu,of_hideAll→Fj,openSeen→Od,peek→xM,piece_app→AD,topFrame→Fd,wellAll_cons_inv→aeW,isFn→adH
open PySem.W.Fast renaming tw10110043849684766642→rf,tw14364793385576792824→rg
open PySem.W.KIN renaming call_text→adP
open PySem.Within renaming cons→N7,nil→N8
open True renaming intro→dr
section
open PySem PySem.W PyProof.Rows
noncomputable abbrev pw:kv:=PySem.Challenge.pw_pq0589_01
noncomputable abbrev q0:dq:=⟨0,0,0,0⟩
noncomputable def vS(s:String)(t:Nat):ak:=.str (Aq s) t
noncomputable def vI(n:Int):ak:=.int n 0
noncomputable abbrev vN:ak:=.none
noncomputable def vE(P:bX)(s:String)(t:Nat)(v:ak):eA:=⟨ado P<|Aq s,.str (Aq s) t,v⟩
noncomputable def zm:List cA->Nat->cA
 |[],_=>.Pass ⟨0,0,0,0⟩
 |s::_,0=>s
 |_::r,n+1=>zm r n
noncomputable def Bd:List cA:=Oc pw
noncomputable def aF(i:Nat):cA:=zm Bd i
noncomputable def aM(i j:Nat):cA:=match zm Bd i with
 |.ClassDef _ _ _ b _ _ _ _ _ _ _=>zm b j
 |s=>s
noncomputable def vF(s:cA)(q:String)(g:aH)(d m c:ak):ow:=match s with
 |.FunctionDef n args body _ _ _ scope _ _ _=>{name:=n,qualname:=Aq q,params:=args,body:=.stmts body,scope:=scope,globals:=g,closure:=[],defaults:=d,kwdefaults:=.none,pyModule:=m,code:=c}
 |_=>default
noncomputable def oT:Obj:=⟨.type "tuple",none,.seq #[] 0,#[]⟩
noncomputable def oN:Obj:=⟨.none,none,.fields #[],#[]⟩
noncomputable def Ke:Nat->List String->List ak
 |_,[]=>[]
 |t,s::r=>vS s t::Ke (t+1) r
noncomputable def oS(t:Nat)(l:List String):Obj:=⟨.type "tuple",none,.seq ⟨Ke t l⟩ 0,#[]⟩
noncomputable def oH(s:cA)(q:String):Obj:=⟨.none,none,.func<|vF s q 0 .none .none .none,#[]⟩
noncomputable def oF(s:cA)(q:String)(d m:ak)(c:aH):Obj:=⟨.type "function",none,.func<|vF s q 3 d m<|.ref c,#[]⟩
noncomputable def oC(n q:String)(t:Nat)(line argc fl:Int)(a:aH)(b:Bool)(x y z:ak)(c:Int):Obj:=⟨.type "code",none,.fields #[vS n t,vS q (t+1),vS "/claim/cut.py" (t+2),vI line,vI argc,vI 0,vI 0,vI fl,.ref a,.bool b,vI 181,.ref (a+1),.none,x,y,z,vI c,vI line,vS "/claim/cut.py" (c.toNat+1)],#[]⟩
noncomputable def Xe:List ak:=[vS "kindkeep.ptypes" 1065,vS "kindkeep.pcore" 592,vS "kindkeep.diags" 330,vS "kindkeep.pmembers" 1369,vS "kindkeep.nodes" 194,vS "kindkeep.scanner" 535,vS "law_pq0589_01" 1648,vS "__main__" 164]
noncomputable def md(k:Nat):ak:=Xe.getD k .none
noncomputable def oP(i:Nat)(q:String)(k:Nat)(c:aH):Obj:=oF (aF i) q vN (md k) c
noncomputable def oM(i j:Nat)(q:String)(k:Nat)(c:aH):Obj:=oF (aM i j) q vN (md k) c
noncomputable def hF(i:Nat)(q:String):Obj:=oH (aF i) q
noncomputable def hM(i j:Nat)(q:String):Obj:=oH (aM i j) q
noncomputable def oD(n q:String)(t:Nat)(line argc:Int)(a:aH)(b:Int):Obj:=oC n q t line argc 3 a true (.ref<|a+2) (.ref<|a+3) (.ref<|a+4) b
noncomputable def bW(n:String)(t:Nat)(line argc:Int)(a:aH)(b:Int):Obj:=oD n n t line argc a b
noncomputable def oK(n:String)(t:Nat)(line:Int)(a:aH):Obj:=oC n n t line 0 0 a false vN vN vN<|t+3
noncomputable def oO(c:String)(l:List ak):Obj:=⟨.type c,none,.fields ⟨l⟩,#[]⟩
noncomputable def oI(a:aH):Obj:=oO "builtin_function_or_method" [.builtin "object.__init_subclass__",.ref a]
noncomputable def oJ:Obj:=oO "builtin_function_or_method" [.builtin "type.__prepare__",.type "type"]
noncomputable def oU(a:aH):Obj:=oO "super" [.ref a,.ref a,.ref a]
noncomputable def oY(t:Nat)(a:aH):Obj:=oO "getset_descriptor" [vS "__dict__" t,.ref a,.builtin "function.__dict__",.builtin "function.__dict__#set"]
noncomputable def oZ(t:Nat)(a:aH):Obj:=oO "getset_descriptor" [vS "__weakref__" t,.ref a,.builtin "ExceptionGroup.__weakref__",vN]
noncomputable def si:List (Int×aH)->List ak
 |[]=>[]
 |p::r=>vI p.1::vI 4:: .ref p.2::si r
noncomputable def oV(l:List<|Int×aH):Obj:=⟨.none,none,.fields ⟨si l⟩,#[]⟩
noncomputable def oQ(l:List ak):Obj:=⟨.type "tuple",none,.seq ⟨l⟩ 0,#[]⟩
noncomputable def ip(a:aH)(k:Nat):Obj:=⟨.type "frame",none,.plain,#[some (.ref<|a+3),some (.ref 3),some (.ref a),none,some (md k),none,some (.ref 0)]⟩
noncomputable def tO:List ak:=[.type "object"]
noncomputable def oX(n:String)(b m:List ak)(d:aH)(u:List ak)(x:Option ak)(t:Nat)(f:String):Obj:=⟨.type "type",none,.cls ⟨.ofString n,b,.ref (d+1)::m,d,.ofString n,true,[],u,false,none,false⟩,#[x,none,some (vS n t),some (vS n<|t+8),some (.builtin f),some (.bool true)]⟩
noncomputable def ev(s:String)(t:Nat)(v:ak)(P:bX):eA:=vE P s t v
noncomputable def er(s:String)(t:Nat)(a:aH):bX->eA:=ev s t<|.ref a
noncomputable def ei(s:String)(t:Nat)(i:Int):bX->eA:=ev s t<|.int i<|t-1
noncomputable def eQ(t:Nat)(s:String):bX->eA:=ev "__qualname__" t<|vS s<|t-1
noncomputable def Kg(P:bX):List (bX->eA)->List eA
 |[]=>[]
 |e::r=>e P::Kg P r
noncomputable def dc(P:bX)(l:List<|bX->eA)(n:Nat):Obj:=⟨.type "dict",none,.dict ⟨Kg P l⟩ n,#[]⟩
noncomputable def Bl(x:Obj):BT:=.node x .nil .nil
noncomputable def Be(x:Obj)(y:BT):BT:=.node x y .nil
noncomputable def Bn(x:Obj)(y z:BT):BT:=.node x y z
noncomputable def Xf(P:bX):BT:=(Bn (oS 269 ["self","kind","a","kids","flags","at"]) (Bn (oP 34 "flagged" 4 62) (Bn (oS 413 ["number","text"]) (Bn (oZ 646 253) (Be oN<|Bl oN)<|Bl<|oX "ObjectKindRule" [.ref 591] [.ref 591,.type "object"] 766 [] (some<|.ref 751) 1308 "object.__new__")<|Bn (oM 71 11 "Parser.need_word" 1 382) (Bl oT)<|Bl oT)<|Bn oT (Bn (oD "ahead" "Parser.ahead" 739 197 2 314 745) (Be oT<|Bl<|oP 154 "_law_kinds" 6 1086)<|Bl<|oP 116 "read_member" 3 830)<|Bn oT (Bl<|oI 701)<|Bl<|bW "check_params" 1596 719 2 954 1604)<|Bn oT (Bn oT (Bn oN (Be (bW "literal_in_brackets" 1026 343 1 538 1030)<|Bl<|bW "_law_params" 1762 899 2 1050 1775)<|Bl<|oQ [.ref 253])<|Bn oT (Bl oT)<|Bl oN)<|Bn (oS 568 ["self","kind","text","num","at","end","line_before"]) (Bn (oS 783 ["self","text"]) (Bl<|hM 89 0 "TypePart.parse")<|Bl oT)<|Bn (oZ 946 477) (Bl<|bW "read_dotted" 1281 496 1 730 1288)<|Bl oT)
noncomputable def Xg(P:bX):BT:=(Bn (hF 32 "leaf") (Bn oT (Bn oT (Bn (oM 69 0 "Mark.__init__" 1 270) (Be oT<|Bl oT)<|Bl<|oP 108 "starts_func_kind" 0 782)<|Bn oN (Bl<|bW "ret_annotation" 1173 421 1 650 1177)<|Bl<|hM 125 0 "RetPart.parse")<|Bn (oS 525 ["file","rows"]) (Bn oT (Be (oX "KindRule" tO tO 590 [.ref 701,.ref 720,.ref 767,.ref 897] none 1080 "object.__new__")<|Bl oN)<|Bl oN)<|Bn (oS 908 ["self","number"]) (Bl<|dc P [ev "__module__" 1252 (md 0),ei "__firstlineno__" 1256 475,er "take" 1268 717,er "__static_attributes__" 1269 718,ev "__doc__" 1270 vN] 2)<|Bl oT)<|Bn (oI 109) (Bn (oX "Diag" tO tO 174 [] none 446 "object.__new__") (Bn oT (Be oT<|Bl<|oS 1797 ["r","kid","name","q","flags"])<|Bl<|oX "MembersPart" [.ref 253] [.ref 253,.type "object"] 814 [] (some<|.ref 799) 1383 "object.__new__")<|Bn (oD "end_statement" "Parser.end_statement" 868 258 1 426 872) (Bl<|dc P [ev "__module__" 1225 (md 0),eQ 1227 "ParenKindRule",ei "__firstlineno__" 1229 468,er "take" 1240 698,er "__static_attributes__" 1241 699] 5)<|Bl oT)<|Bn (dc P [ev "__module__" 630 (md 1),eQ 632 "Part",ei "__firstlineno__" 634 126,er "parse" 642 250,er "__static_attributes__" 643 251] 5) (Bn (hM 71 9 "Parser.eat_name") (Bl oN)<|Bl<|bW "read_index_sig" 1479 627 3 874 1488)<|Bn (oP 73 "read_apart" 1 494) (Bl<|oQ [.ref 591])<|Bl<|hF 142 "_law_tight")
noncomputable def Xh(P:bX):BT:=(Bn (oY 285 38) (Bn (oQ [.type "Exception"]) (Bn oT (Bn (oK "Mark" 653 130 261) (Be (oS 1006 ["p","kind","text"])<|Bl<|oS 1733 ["tokens","way","out","fresh","i","token","bars","parted"])<|Bl<|bW "mapped_ahead" 1334 526 1 770 1340)<|Bn oT (Bl<|hF 94 "annotation")<|Bl oT)<|Bn (hM 42 1 "Diags.put") (Bn (oM 71 3 "Parser.step" 1 326) (Be oN<|Bl oT)<|Bl oT)<|Bn oN (Bl oT)<|Bl<|oP 132 "read_access" 3 966)<|Bn oT (Bn oN (Bn (dc P [ev "__module__" 718 (md 1),eQ 720 "Parser",ei "__firstlineno__" 722 168,er "__init__" 731 306,er "now" 738 313,er "ahead" 747 320,er "step" 755 327,er "is_sign" 763 334,er "is_word" 771 341,er "is_name" 779 348,er "eat_sign" 787 355,er "eat_word" 795 362,er "eat_name" 803 369,er "need_sign" 811 376,er "need_word" 819 383,er "need_name" 826 390,er "prop_name" 833 397,er "member_name" 840 404,er "fault" 849 411,er "fault_at" 859 418,er "can_end" 867 425,er "end_statement" 874 432,er "down" 881 439,er "up" 888 446,er "part" 897 453,er "mark" 904 460,er "back" 912 467,er "keep" 920 474,er "__static_attributes__" 943 475] 29) (Be (oP 81 "read_prop_name" 1 550)<|Bl<|oP 150 "_law_ret" 6 1062)<|Bl oN)<|Bn (hM 71 17 "Parser.can_end") (Bl oN)<|Bl<|oS 1566 ["p","at","rows"])<|Bn (oY 585 230) (Bn oT (Bl oT)<|Bl<|hF 122 "index_sig_ahead")<|Bn (bW "take_mark" 951 293 2 482 957) (Bl<|oP 104 "read_new_name" 0 742)<|Bl oN)
noncomputable def Xi(P:bX):BT:=(Bn (bW "twig" 301 45 4 50 308) (Bn (dc P [ev "__module__" 339 (md 2),ei "__firstlineno__" 343 52,er "__init__" 352 85,er "__static_attributes__" 355 86,er "__weakref__" 357 89,ev "__doc__" 358 vN] 3) (Bn (oI 149) (Bn (oS 681 ["allow_in","at","covers","deep","in_func","in_literal","in_loop","in_switch","labels","no_cond","pending","ret_bar","splits","told"]) (Be (hF 79 "starts_prop")<|Bl<|hF 148 "_law_tparams")<|Bl oT)<|Bn (oS 844 ["self","number","args"]) (Bl<|oP 96 "read_union" 0 662)<|Bl oT)<|Bn oJ (Bn oN (Be oT<|Bl<|hF 158 "_law_told")<|Bl<|oS 1452 ["p","flags","at","name"])<|Bn oT (Bl<|hF 102 "refuse_odd_kind")<|Bl oN)<|Bn (oS 404 [""]) (Bn oT (Bn (hM 71 1 "Parser.now") (Be oN<|Bl oT)<|Bl<|bW "read_members" 1407 577 1 818 1413)<|Bn (oM 71 19 "Parser.down" 1 438) (Bl oT)<|Bl<|hF 130 "read_params")<|Bn oT (Bn (oD "need_sign" "Parser.need_sign" 804 227 2 370 809) (Bl<|oS 1151 ["p","check"])<|Bl<|ip 883 3)<|Bn oT (Bl oN)<|Bl<|bW "_law_signed" 1698 785 2 1010 1708)
noncomputable def Xj(P:bX):BT:=(Bn (oM 31 0 "Node.__init__" 4 34) (Bn oT (Bn (oI 129) (Bn oJ (Be (bW "check_height" 991 323 2 510 1000)<|Bl<|bW "_law_tokens" 1717 829 1 1022 1727)<|Bl oN)<|Bn oT (Bl oT)<|Bl<|oI 897)<|Bn oT (Bn (oS 751 ["self","token"]) (Be (oV [(392,587)])<|Bl oT)<|Bl oT)<|Bn (hM 71 21 "Parser.part") (Bl oT)<|Bl<|oS 1610 ["p","flags","token","flag"])<|Bn (oQ [.int 2589 375,vS "" 376]) (Bn (hM 41 0 "Diag.__init__") (Bn (bW "cut_rows" 703 165 2 286 708) (Be (oS 1036 ["p","name"])<|Bl<|oS 1781 ["d","flags","rest","kind"])<|Bl<|oV [(575,811)])<|Bn oT (Bl<|hF 98 "read_operator")<|Bl<|bW "read_ret" 1552 654 1 926 1560)<|Bn (oM 52 0 "Token.__init__" 5 226) (Bn (oM 71 7 "Parser.eat_sign" 1 354) (Bl<|dc P [ev "__module__" 1116 (md 0),ei "__firstlineno__" 1120 394,er "parse" 1128 609,er "__static_attributes__" 1129 610,ev "__doc__" 1130 vN] 2)<|Bl oT)<|Bn oN (Bl<|oS 1294 ["p","token","name"])<|Bl<|hF 140 "_law_name")
noncomputable def Xk(P:bX):BT:=(Bn oN (Bn (hM 37 0 "KeepError.__init__") (Bn (oS 440 ["number","text"]) (Bn oT (Be oT<|Bl oT)<|Bl oT)<|Bn (oD "member_name" "Parser.member_name" 834 242 1 398 838) (Bl<|oS 1183 ["p","node","parts"])<|Bl<|dc P [ev "__module__" 1528 (md 3),ei "__firstlineno__" 1532 648,er "parse" 1540 913,er "__static_attributes__" 1541 914,ev "__doc__" 1542 vN] 2)<|Bn (oZ 530 209) (Bn (hM 71 5 "Parser.is_word") (Be (oI 591)<|Bl<|bW "_law_without" 1842 1008 2 1102 1850)<|Bl<|bW "accessor_ahead" 1441 608 2 846 1446)<|Bn (oM 71 23 "Parser.back" 1 466) (Bl oT)<|Bl<|hF 134 "read_target")<|Bn oT (Bn (oI 175) (Bn oT (Be (hF 83 "token_key")<|Bl<|oP 152 "_law_member" 6 1074)<|Bl oN)<|Bn (oS 878 ["self"]) (Bl<|ip 687 0)<|Bl oT)<|Bn (ip 239 1) (Bn oN (Bl<|bW "read_branch" 1141 403 1 622 1145)<|Bl<|dc P [ev "__module__" 1498 (md 3),eQ 1500 "FuncKindRule",ei "__firstlineno__" 1502 636,er "take" 1516 894,er "__static_attributes__" 1517 895] 5)<|Bn oT (Bl<|oV [(521,763)])<|Bl oN)
noncomputable def Xl(P:bX):BT:=(Bn oT (Bn (oV [(54,84)]) (Bn (oS 431 [""]) (Bn (oS 666 ["self","p"]) (Be (oP 77 "eat_token" 1 522)<|Bl<|oP 146 "_law_ends" 6 1034)<|Bl<|oS 1346 ["p","head"])<|Bn (hM 71 13 "Parser.prop_name") (Bl oN)<|Bl oT)<|Bn oN (Bn oT (Be (oD "take" "KindRule.take" 1092 392 3 582 1098)<|Bl<|hF 156 "_law_fits")<|Bl<|hF 118 "word_before_name")<|Bn (oD "mark" "Parser.mark" 898 284 1 454 902) (Bl<|hM 101 0 "NameKindRule.take")<|Bl oT)<|Bn (oS 386 ["number","text"]) (Bn (oD "row" "Diag.row" 469 80 1 166 473) (Bn (ip 295 1) (Be oT<|Bl<|oC "_law_sig" "_law_sig" 1788 932 4 3 1064 true vN vN (.ref 1066) 1791)<|Bl<|oD "parse" "MembersPart.parse" 1395 575 2 806 1400)<|Bn oN (Bl<|bW "read_hanging" 1206 448 1 678 1215)<|Bl<|oP 128 "read_tparams" 3 938)<|Bn (oS 600 ["=>","==","==="]) (Bn oT (Bl<|hF 90 "ptypes_read_kind")<|Bl oN)<|Bn (oS 963 ["p","part","allow_in","no_cond","ret_bar","in_literal","covers","node"]) (Bl oT)<|Bl oT)
noncomputable def Xm(P:bX):BT:=(Bn (oS 314 ["kind","a","kids","flags","at"]) (Bn (oI 88) (Bn oT (Bn (oZ 698 281) (Be oN<|Bl oN)<|Bl<|hF 110 "pattern_ahead")<|Bn (oM 71 15 "Parser.fault" 1 410) (Bl oT)<|Bl<|hF 126 "may_be_judged")<|Bn (oK "Token" 555 102 217) (Bn (oD "is_name" "Parser.is_name" 772 215 2 342 777) (Be oT<|Bl oN)<|Bl<|oP 120 "read_named_member" 3 858)<|Bn (oS 921 ["allow_in","at","commas","covers","deep","diags","firsts","in_func","in_literal","in_loop","in_switch","labels","no_cond","not_arrow","parts","pending","ret_bar","saved","splits","tails","tokens","types"]) (Bl oN)<|Bl<|bW "read_param" 1635 757 2 982 1645)<|Bn oT (Bn (oS 500 [""]) (Bn oN (Be (bW "need_angle" 1055 372 1 566 1062)<|Bl oT)<|Bl<|oS 1419 ["p","at","flags"])<|Bn oT (Bl oT)<|Bl oN)<|Bn oT (Bn (oS 815 ["self","text"]) (Bl<|oP 92 "extends_here" 0 634)<|Bl oT)<|Bn (hF 75 "check_chain") (Bl<|oD "take" "ObjectKindRule.take" 1320 521 3 758 1327)<|Bl<|hF 144 "_law_text")
noncomputable def Xn(P:bX):BT:=(Bn (hM 31 0 "Node.__init__") (Bn oN (Bn (oX "ParseStop" [.ref 88] [.ref 88,.type "Exception",.type "BaseException",.type "object"] 128 [] (some<|.ref 112) 392 "Exception.__new__") (Bn (oI 253) (Be oT<|Bl oT)<|Bl<|oI 767)<|Bn oN (Bl<|bW "kind_with" 1156 411 2 636 1163)<|Bl<|oX "FuncKindRule" [.ref 591] [.ref 591,.type "object"] 896 [] (some<|.ref 881) 1491 "object.__new__")<|Bn (oD "__init__" "Diags.__init__" 501 84 2 188 506) (Bn oT (Be (dc P [ev "__module__" 1087 (md 0),eQ 1089 "KindRule",ei "__firstlineno__" 1091 390,er "take" 1100 588,er "__static_attributes__" 1101 589] 5)<|Bl oN)<|Bl oN)<|Bn (oS 892 ["self","n","node"]) (Bl oJ)<|Bl oT)<|Bn (oK "TooDeep" 365 57 95) (Bn (oS 461 ["self","number","at","args","file"]) (Bn oT (Be oT<|Bl oT)<|Bl<|dc P [ev "__module__" 1390 (md 3),eQ 1392 "MembersPart",ei "__firstlineno__" 1394 573,er "parse" 1402 812,er "__static_attributes__" 1403 813] 5)<|Bn (oD "fault_at" "Parser.fault_at" 850 248 4 412 857) (Bl<|oS 1201 ["p","token"])<|Bl oT)<|Bn (hM 52 0 "Token.__init__") (Bn (hM 71 7 "Parser.eat_sign") (Bl<|oM 89 0 "TypePart.parse" 0 608)<|Bl<|bW "read_sig" 1459 618 4 860 1469)<|Bn (oI 477) (Bl oT)<|Bl<|oS 1679 ["name"])
noncomputable def Xo(P:bX):BT:=(Bn (oP 32 "leaf" 4 48) (Bn (oS 348 ["self","text"]) (Bn (oD "__init__" "HostFault.__init__" 432 69 2 140 437) (Bn oN (Be (bW "names_prop" 1012 339 1 524 1016)<|Bl<|bW "_law_plain" 1744 887 1 1036 1748)<|Bl oN)<|Bn oT (Bl oT)<|Bl<|oM 125 0 "RetPart.parse" 3 912)<|Bn (oX "Diags" tO tO 208 [] none 488 "object.__new__") (Bn (oS 767 ["self","text"]) (Be (oZ 1104 591)<|Bl oT)<|Bl oT)<|Bn (hM 71 23 "Parser.back") (Bl<|oU 720)<|Bl<|oS 1630 ["p","token"])<|Bn oJ (Bn (oZ 483 175) (Bn (oD "__init__" "Parser.__init__" 723 170 3 300 729) (Be (oS 1051 ["token"])<|Bl<|hF 152 "_law_member")<|Bl<|oI 815)<|Bn oT (Bl<|oV [(470,697)])<|Bl<|bW "read_tparam" 1572 682 1 940 1581)<|Bn (oV [(128,249)]) (Bn (oM 71 9 "Parser.eat_name" 1 368) (Bl oT)<|Bl<|oQ [.ref 591])<|Bn oN (Bl<|dc P [ev "__module__" 1315 (md 0),eQ 1317 "ObjectKindRule",ei "__firstlineno__" 1319 519,er "take" 1329 764,er "__static_attributes__" 1330 765] 5)<|Bl<|oP 142 "_law_tight" 6 1008)
noncomputable def Xp(P:bX):BT:=(Bn (oU 38) (Bn (dc P [ev "__module__" 339 (md 2),eQ 341 "KeepError",ei "__firstlineno__" 343 52,er "__init__" 352 85,er "__static_attributes__" 355 86] 5) (Bn (oK "HostFault" 421 67 135) (Bn oT (Be (hF 77 "eat_token")<|Bl<|hF 146 "_law_ends")<|Bl oT)<|Bn (oS 830 ["self"]) (Bl<|oP 94 "annotation" 0 648)<|Bl<|oK "RetPart" 1523 648 903)<|Bn (oM 42 1 "Diags.put" 2 200) (Bn oN (Be oT<|Bl<|oS 1835 ["d","r","own","i"])<|Bl<|oS 1435 ["p","word","behind"])<|Bn oT (Bl<|oS 1260 ["self","p","left","token","name","args"])<|Bl oN)<|Bn (oD "__init__" "TooDeep.__init__" 377 59 3 100 383) (Bn oT (Bn (oV [(170,305),(194,312),(197,319),(203,326),(209,333),(212,340),(215,347),(218,354),(221,361),(224,368),(227,375),(231,382),(234,389),(239,396),(242,403),(245,410),(248,417),(252,424),(258,431),(262,438),(268,445),(271,452),(284,459),(288,466),(291,473)]) (Be oN<|Bl oN)<|Bl oT)<|Bn (oM 71 17 "Parser.can_end" 1 424) (Bl oT)<|Bl<|hF 128 "read_tparams")<|Bn (oU 230) (Bn (oD "eat_word" "Parser.eat_word" 788 221 2 356 793) (Bl<|oS 1136 ["p","node"])<|Bl<|oP 122 "index_sig_ahead" 3 872)<|Bn oT (Bl oN)<|Bl<|oC "_law_row" "_law_row" 1683 780 2 3 998 true vN vN (.ref 1000) 1686)
noncomputable def Xq(P:bX):BT:=(Bn oT (Bn (oZ 356 88) (Bn oJ (Bn (oX "Mark" tO tO 280 [] none 651 "object.__new__") (Be (oP 79 "starts_prop" 1 536)<|Bl<|oP 148 "_law_tparams" 6 1048)<|Bl<|oS 1363 ["p","spot","found"])<|Bn (hM 71 15 "Parser.fault") (Bl oN)<|Bl<|oS 1548 ["token"])<|Bn oT (Bn oT (Be (oK "TypePart" 1111 394 599)<|Bl<|oP 158 "_law_told" 6 1112)<|Bl<|hF 120 "read_named_member")<|Bn (oD "keep" "Parser.keep" 913 291 2 468 918) (Bl<|oP 102 "refuse_odd_kind" 0 728)<|Bl oT)<|Bn oN (Bn (oK "Diags" 490 82 183) (Bn (oM 71 1 "Parser.now" 1 312) (Be oT<|Bl<|bW "_law_pop" 1805 951 2 1076 1812)<|Bl oT)<|Bn oN (Bl<|oD "take" "ParenKindRule.take" 1230 470 3 692 1238)<|Bl<|oP 130 "read_params" 3 952)<|Bn (oD "parse" "Part.parse" 635 128 2 244 640) (Bn oT (Bl<|hF 92 "extends_here")<|Bl oN)<|Bn (oS 986 ["p","count"]) (Bl oT)<|Bl oT)
noncomputable def Xr(P:bX):BT:=(Bn (dc P [ev "__module__" 261 (md 4),ei "__firstlineno__" 265 34,er "__init__" 277 35,er "__static_attributes__" 284 36,er "__dict__" 286 39,er "__weakref__" 288 40,ev "__doc__" 289 vN] 4) (Bn (bW "list_of" 322 49 2 64 327) (Bn oJ (Bn oT (Be oT<|Bl oT)<|Bl oT)<|Bn (oD "need_name" "Parser.need_name" 820 234 1 384 824) (Bl<|oS 1169 ["p"])<|Bl oJ)<|Bn (oS 512 ["self","number","at","args"]) (Bn (hM 71 3 "Parser.step") (Be (ip 577 0)<|Bl<|bW "_law_read" 1821 983 3 1088 1829)<|Bl<|bW "opens_sig" 1425 603 1 832 1429)<|Bn (oM 71 21 "Parser.part" 1 452) (Bl<|oK "NameKindRule" 1247 475 707)<|Bl<|hF 132 "read_access")<|Bn oN (Bn (oM 41 0 "Diag.__init__" 2 164) (Bn oT (Be (hF 81 "read_prop_name")<|Bl<|hF 150 "_law_ret")<|Bl<|ip 801 3)<|Bn (oS 863 ["self","token"]) (Bl<|oP 98 "read_operator" 0 676)<|Bl oT)<|Bn (dc P [ev "__module__" 560 (md 5),ei "__firstlineno__" 564 102,er "__init__" 577 227,er "__static_attributes__" 584 228,er "__dict__" 586 231,er "__weakref__" 588 232,ev "__doc__" 589 vN] 4) (Bn oN (Bl<|oU 612)<|Bl<|oS 1475 ["p"])<|Bn oT (Bl<|hF 104 "read_new_name")<|Bl<|oP 140 "_law_name" 6 996)
noncomputable def Xu(P:bX):BT:=(Bn oT (Bn (oF (aM 37 0) "KeepError.__init__" (.ref 78) (md 2) 84) (Bn (oX "HostFault" [.ref 88] [.ref 88,.type "Exception",.type "BaseException",.type "object"] 148 [] (some<|.ref 132) 419 "Exception.__new__") (Bn (oD "put_back" "Mark.put_back" 671 148 2 272 678) (Be (oS 1022 ["token"])<|Bl<|oS 1754 ["d","name","rest","bound","last"])<|Bl<|bW "follows_param" 1351 551 2 784 1357)<|Bn oT (Bl<|hF 96 "read_union")<|Bl<|oU 916)<|Bn (oI 209) (Bn (oM 71 5 "Parser.is_word" 1 340) (Be oJ<|Bl oT)<|Bl oT)<|Bn oN (Bl<|oS 1276 ["p","behind"])<|Bl<|oP 134 "read_target" 3 980)<|Bn (oK "ParseStop" 394 62 115) (Bn oJ (Bn (oS 735 ["self"]) (Be (oP 83 "token_key" 1 564)<|Bl oN)<|Bl oT)<|Bn (hM 71 19 "Parser.down") (Bl oN)<|Bl<|oS 1587 ["p","whole","at","allow_in","no_cond","rows"])<|Bn oN (Bn oT (Bl oT)<|Bl<|oV [(638,893)])<|Bn (bW "is_token" 974 317 3 496 980) (Bl<|ip 753 0)<|Bl oT)
noncomputable def Xv(P:bX):BT:=(Bn (oS 295 ["kind","a","at"]) (Bn (ip 73 2) (Bn oN (Bn (hM 69 0 "Mark.__init__") (Be oN<|Bl oN)<|Bl<|hF 108 "starts_func_kind")<|Bn (oM 71 13 "Parser.prop_name" 1 396) (Bl oT)<|Bl<|oS 1536 ["self","p"])<|Bn (oC "numbers" "Diags.numbers" 519 91 1 3 202 true vN vN (.ref 204) 522) (Bn (oD "is_sign" "Parser.is_sign" 756 209 2 328 761) (Be oT<|Bl<|oP 156 "_law_fits" 6 1100)<|Bl<|oP 118 "word_before_name" 3 844)<|Bn oT (Bl<|oM 101 0 "NameKindRule.take" 0 716)<|Bl<|bW "access_fits" 1617 740 4 968 1624)<|Bn (oX "TooDeep" [.ref 88] [.ref 88,.type "Exception",.type "BaseException",.type "object"] 108 [] (some<|.ref 92) 363 "Exception.__new__") (Bn (oS 476 ["args","at","file","number"]) (Bn oN (Be (bW "read_member_name" 1041 356 1 552 1045)<|Bl oT)<|Bl oT)<|Bn oT (Bl<|oQ [.ref 591])<|Bl oN)<|Bn oT (Bn (oS 799 ["self","text"]) (Bl<|oP 90 "ptypes_read_kind" 0 620)<|Bl oT)<|Bn (hF 73 "read_apart") (Bl<|bW "read_type_args" 1300 512 1 744 1305)<|Bl<|oS 1692 ["node","kinds","text"])
noncomputable def Xw(P:bX):BT:=(Bn (hF 34 "flagged") (Bn oJ (Bn (oK "Diag" 448 72 155) (Bn (oI 281) (Be oT<|Bl oT)<|Bl<|oP 110 "pattern_ahead" 0 796)<|Bn oN (Bl<|bW "read_inter" 1189 434 1 664 1195)<|Bl<|oP 126 "may_be_judged" 3 924)<|Bn oT (Bn oT (Be (oS 1124 ["self","p"])<|Bl<|oC "law" "law" 1859 1046 1 3 1114 true vN vN (.ref 1116) 1862)<|Bl oN)<|Bn (oX "Parser" tO tO 476 [] none 711 "object.__new__") (Bl oT)<|Bl<|oS 1652 ["extends","void","null","in","new","this"])<|Bn (oD "__init__" "ParseStop.__init__" 405 64 2 120 410) (Bn oN (Bn oT (Be (oS 1067 ["any","unknown","never","undefined","string","number","boolean","object"])<|Bl<|hF 154 "_law_kinds")<|Bl<|hF 116 "read_member")<|Bn (oD "up" "Parser.up" 882 268 1 440 886) (Bl<|oX "ParenKindRule" [.ref 591] [.ref 591,.type "object"] 700 [] (some<|.ref 685) 1218 "object.__new__")<|Bl oT)<|Bn (oX "Part" tO tO 252 [.ref 612,.ref 815,.ref 916] none 623 "object.__new__") (Bn (hM 71 11 "Parser.need_word") (Bl oN)<|Bl<|oD "take" "FuncKindRule.take" 1503 638 3 888 1514)<|Bn (oP 75 "check_chain" 1 508) (Bl oT)<|Bl<|oP 144 "_law_text" 6 1020)
noncomputable def Xx(P:bX):BT:=(Bn oT (Bn oT (Bn (dc P [ev "__module__" 399 (md 2),ei "__firstlineno__" 403 62,er "__init__" 412 126,er "__static_attributes__" 415 127,ev "__doc__" 416 vN] 2) (Bn (oU 253) (Be (oS 994 ["p","root","stack","node","level","kid"])<|Bl<|oS 1720 ["text","out","at","start","c","word","cooked"])<|Bl<|oU 767)<|Bn oT (Bl<|hF 93 "kind_with")<|Bl<|dc P [ev "__module__" 1498 (md 3),ei "__firstlineno__" 1502 636,er "take" 1516 894,er "__static_attributes__" 1517 895,ev "__doc__" 1518 vN] 2)<|Bn (hM 42 0 "Diags.__init__") (Bn (oM 71 2 "Parser.ahead" 1 319) (Be oJ<|Bl oT)<|Bl oT)<|Bn oN (Bl<|oQ [.ref 591])<|Bl<|oP 131 "check_params" 3 959)<|Bn (oV [(59,105)]) (Bn oN (Bn (oS 706 ["rows","count"]) (Be (oP 80 "literal_in_brackets" 1 543)<|Bl<|oP 149 "_law_params" 6 1055)<|Bl oJ)<|Bn (hM 71 16 "Parser.fault_at") (Bl oN)<|Bl<|oS 1555 ["p","token","behind","name","kind"])<|Bn oT (Bn oT (Bl<|oD "parse" "TypePart.parse" 1121 396 2 603 1126)<|Bl<|hF 121 "read_sig")<|Bn (oU 477) (Bl<|oP 103 "read_dotted" 0 735)<|Bl oN)
noncomputable def Xy(P:bX):BT:=(Bn (bW "leaf" 292 43 3 43 298) (Bn oN (Bn (hM 40 0 "HostFault.__init__") (Bn oT (Be (hF 78 "names_prop")<|Bl<|hF 147 "_law_plain")<|Bl oT)<|Bn (oS 837 ["self"]) (Bl<|oP 95 "ret_annotation" 0 655)<|Bl<|oD "parse" "RetPart.parse" 1533 650 2 907 1538)<|Bn (dc P [ev "__module__" 495 (md 2),ei "__firstlineno__" 499 82,er "__init__" 508 194,er "put" 518 201,er "numbers" 524 206,er "__static_attributes__" 527 207,er "__dict__" 529 210,er "__weakref__" 531 211,ev "__doc__" 532 vN] 4) (Bn oN (Be (oY 1102 591)<|Bl<|oS 1845 ["tokens","at","out","depth","token"])<|Bl<|oS 1444 ["p","word"])<|Bn oT (Bl<|oX "NameKindRule" [.ref 591] [.ref 591,.type "object"] 719 [] (some<|.ref 704) 1245 "object.__new__")<|Bl oN)<|Bn (oQ [.ref 88]) (Bn (oY 481 175) (Bn (hM 71 0 "Parser.__init__") (Be oN<|Bl oT)<|Bl<|oU 815)<|Bn (oM 71 18 "Parser.end_statement" 1 431) (Bl oT)<|Bl<|hF 129 "read_tparam")<|Bn oT (Bn (oD "eat_name" "Parser.eat_name" 796 224 2 363 801) (Bl<|oS 1144 ["p"])<|Bl<|oP 123 "read_index_sig" 3 879)<|Bn oT (Bl oJ)<|Bl<|bW "_law_tight" 1689 782 2 1003 1695)
noncomputable def Xz(P:bX):BT:=(Bn (oZ 287 38) (Bn oJ (Bn (oV [(69,145)]) (Bn (ip 260 1) (Be oT<|Bl oT)<|Bl<|oP 107 "mapped_ahead" 0 775)<|Bn oN (Bl<|bW "annotation" 1166 417 1 643 1170)<|Bl<|oV [(650,912)])<|Bn (oD "put" "Diags.put" 509 88 4 195 516) (Bn oT (Be (oS 1095 ["self","p","left"])<|Bl oN)<|Bl oN)<|Bn (oS 901 ["self"]) (Bl oN)<|Bl oT)<|Bn (hM 38 0 "TooDeep.__init__") (Bn (oS 472 ["self"]) (Bn oT (Be oT<|Bl oT)<|Bl<|oS 1398 ["self","p"])<|Bn (oD "can_end" "Parser.can_end" 860 252 1 419 865) (Bl<|oS 1209 ["p","saved","key","node","links","index"])<|Bl oT)<|Bn (oZ 587 230) (Bn (hM 71 8 "Parser.eat_word") (Bl oN)<|Bl<|bW "index_sig_ahead" 1472 623 1 867 1476)<|Bn (oP 72 "take_mark" 1 487) (Bl oT)<|Bl<|hF 141 "_law_row")
noncomputable def XA(P:bX):BT:=(Bn (oP 33 "twig" 4 55) (Bn (oX "KeepError" [.type "Exception"] [.type "Exception",.type "BaseException",.type "object"] 87 [.ref 109,.ref 129,.ref 149] (some<|.ref 71) 332 "Exception.__new__") (Bn oT (Bn (dc P [ev "__module__" 658 (md 1),ei "__firstlineno__" 662 130,er "__init__" 670 271,er "put_back" 680 278,er "__static_attributes__" 695 279,er "__dict__" 697 282,er "__weakref__" 699 283,ev "__doc__" 700 vN] 4) (Be (bW "starts_prop" 1019 341 1 531 1023)<|Bl<|bW "_law_tparams" 1751 889 3 1043 1759)<|Bl oN)<|Bn oT (Bl oT)<|Bl oN)<|Bn (dc P [ev "__module__" 560 (md 5),eQ 562 "Token",ei "__firstlineno__" 564 102,er "__init__" 577 227,er "__static_attributes__" 584 228] 5) (Bn (oS 775 ["self","text"]) (Be (oV [(396,608)])<|Bl<|oC "_law_told" "_law_told" 1853 1024 3 3 1109 true vN vN (.ref 1111) 1856)<|Bl oT)<|Bn (hM 71 24 "Parser.keep") (Bl<|bW "refuse_odd_kind" 1273 488 1 723 1278)<|Bl<|oS 1638 ["p","whole","flags","at","target","kind","init"])<|Bn oT (Bn (oV [(84,193),(88,200),(91,205)]) (Bn (oD "now" "Parser.now" 732 194 1 307 736) (Be (oS 1058 ["p","token","behind","joined"])<|Bl<|hF 153 "_law_pop")<|Bl<|oP 115 "read_members" 3 823)<|Bn oT (Bl<|hM 100 0 "ParenKindRule.take")<|Bl<|bW "read_params" 1584 700 2 947 1593)<|Bn (hM 68 0 "Part.parse") (Bn (oM 71 10 "Parser.need_sign" 1 375) (Bl oT)<|Bl oT)<|Bn oN (Bl<|oS 1323 ["self","p","left","at"])<|Bl<|oP 143 "_law_signed" 6 1015)
noncomputable def XC(P:bX):BT:=(Bn (oS 278 ["a","at","flags","kids","kind","nid"]) (Bn (hF 35 "list_of") (Bn (oQ [.ref 88]) (Bn (dc P [ev "__module__" 658 (md 1),eQ 660 "Mark",ei "__firstlineno__" 662 130,er "__init__" 670 271,er "put_back" 680 278,er "__static_attributes__" 695 279] 6) (Be (oP 76 "check_height" 1 515)<|Bl<|oP 145 "_law_tokens" 6 1027)<|Bl<|oS 1337 ["p","n","head"])<|Bn (hM 71 12 "Parser.need_name") (Bl oN)<|Bl<|oQ [.ref 253])<|Bn oN (Bn oT (Be (oK "KindRule" 1082 390 578)<|Bl<|hF 155 "_law_read")<|Bl<|hF 117 "opens_sig")<|Bn (oD "part" "Parser.part" 889 271 2 447 895) (Bl<|oV [(477,716)])<|Bl oT)<|Bn oT (Bn (oD "__init__" "Diag.__init__" 458 74 5 159 466) (Bn (oP 70 "cut_rows" 1 291) (Be oT<|Bl oT)<|Bl<|oK "MembersPart" 1385 573 802)<|Bn oN (Bl<|bW "read_operator" 1198 443 1 671 1203)<|Bl<|oP 127 "read_ret" 3 931)<|Bn (oS 578 ["at","end","kind","line_before","num","text"]) (Bn oT (Bl<|oX "TypePart" [.ref 253] [.ref 253,.type "object"] 611 [] (some<|.ref 596) 1109 "object.__new__")<|Bl oN)<|Bn (oS 954 ["p","number","mark"]) (Bl oT)<|Bl<|bW "_law_name" 1676 776 1 991 1680)
noncomputable def XD(P:bX):BT:=(Bn (oS 304 ["kind","a","kids","at"]) (Bn (oD "__init__" "KeepError.__init__" 345 54 2 79 350) (Bn (dc P [ev "__module__" 426 (md 2),ei "__firstlineno__" 430 67,er "__init__" 439 146,er "__static_attributes__" 442 147,ev "__doc__" 443 vN] 2) (Bn (hM 69 1 "Mark.put_back") (Be oN<|Bl oN)<|Bl<|hF 109 "follows_param")<|Bn (oM 71 14 "Parser.member_name" 1 403) (Bl oT)<|Bl<|oX "RetPart" [.ref 253] [.ref 253,.type "object"] 915 [] (some<|.ref 900) 1521 "object.__new__")<|Bn (oU 209) (Bn (oD "is_word" "Parser.is_word" 764 212 2 335 769) (Be (oQ [.ref 253])<|Bl<|oP 157 "_law_without" 6 1107)<|Bl<|oP 119 "accessor_ahead" 3 851)<|Bn oT (Bl oN)<|Bl<|bW "read_target" 1627 751 1 975 1632)<|Bn (oV [(64,125)]) (Bn oT (Bn oN (Be (bW "token_key" 1048 360 1 559 1052)<|Bl oT)<|Bl<|oS 1410 ["p","at","members"])<|Bn oT (Bl oT)<|Bl oN)<|Bn oT (Bn (oS 807 ["self","text"]) (Bl<|oP 91 "read_branch" 0 627)<|Bl oT)<|Bn (hF 74 "is_token") (Bl<|oK "ObjectKindRule" 1310 519 754)<|Bl<|oS 1701 ["node","between","tparams","params","ret","body","text"])
noncomputable def XE(P:bX):BT:=(Bn oN (Bn (oK "KeepError" 334 52 74) (Bn oT (Bn oT (Be oT<|Bl oT)<|Bl oT)<|Bn (oD "prop_name" "Parser.prop_name" 827 239 1 391 831) (Bl<|oS 1176 ["p"])<|Bl oN)<|Bn (hM 42 2 "Diags.numbers") (Bn (hM 71 4 "Parser.is_sign") (Be (oM 88 0 "KindRule.take" 0 587)<|Bl<|bW "_law_fits" 1832 994 3 1095 1839)<|Bl<|bW "word_before_name" 1432 605 2 839 1438)<|Bn (oM 71 22 "Parser.mark" 1 459) (Bl<|oD "take" "NameKindRule.take" 1257 477 3 711 1266)<|Bl<|hF 133 "access_fits")<|Bn (dc P [ev "__module__" 370 (md 2),ei "__firstlineno__" 374 57,er "__init__" 385 106,er "__static_attributes__" 388 107,ev "__doc__" 389 vN] 2) (Bn (oM 41 1 "Diag.row" 2 171) (Bn oT (Be (hF 82 "read_member_name")<|Bl<|oP 151 "_law_sig" 6 1067)<|Bl<|oM 114 0 "MembersPart.parse" 3 811)<|Bn (oS 871 ["self"]) (Bl<|oP 99 "read_hanging" 0 683)<|Bl oT)<|Bn (oQ [.int 3 608,.int 4 610,.int 5 612,.int 6 614]) (Bn oN (Bl<|bW "ptypes_read_kind" 1133 398 1 615 1138)<|Bl<|oS 1482 ["p","flags","at","name","key","value"])<|Bn oT (Bl<|hF 105 "read_type_args")<|Bl oN)
noncomputable def XF(P:bX):BT:=(Bn oT (Bn (oQ [.ref 88]) (Bn (oV [(74,164),(80,171)]) (Bn (oU 281) (Be (oS 1029 ["p"])<|Bl<|oS 1765 ["ds","rest","out","lax","count","i","d","flags","name","kind"])<|Bl<|bW "pattern_ahead" 1360 558 1 791 1366)<|Bn oT (Bl<|hF 97 "read_inter")<|Bl<|bW "may_be_judged" 1545 652 1 919 1549)<|Bn (ip 216 5) (Bn (oM 71 6 "Parser.is_name" 1 347) (Be oN<|Bl<|hF 159 "law")<|Bl oT)<|Bn (dc P [ev "__module__" 718 (md 1),ei "__firstlineno__" 722 168,er "__init__" 731 306,er "now" 738 313,er "ahead" 747 320,er "step" 755 327,er "is_sign" 763 334,er "is_word" 771 341,er "is_name" 779 348,er "eat_sign" 787 355,er "eat_word" 795 362,er "eat_name" 803 369,er "need_sign" 811 376,er "need_word" 819 383,er "need_name" 826 390,er "prop_name" 833 397,er "member_name" 840 404,er "fault" 849 411,er "fault_at" 859 418,er "can_end" 867 425,er "end_statement" 874 432,er "down" 881 439,er "up" 888 446,er "part" 897 453,er "mark" 904 460,er "back" 912 467,er "keep" 920 474,er "__static_attributes__" 943 475,er "__dict__" 945 478,er "__weakref__" 947 479,ev "__doc__" 948 vN] 4) (Bl<|oS 1284 ["p","at","name","links"])<|Bl<|oP 135 "read_param" 3 987)<|Bn (hM 39 0 "ParseStop.__init__") (Bn oT (Bn (oS 742 ["self","n","place"]) (Be (oP 84 "need_angle" 1 571)<|Bl oN)<|Bl oT)<|Bn (hM 71 20 "Parser.up") (Bl<|dc P [ev "__module__" 1225 (md 0),ei "__firstlineno__" 1229 468,er "take" 1240 698,er "__static_attributes__" 1241 699,ev "__doc__" 1242 vN] 2)<|Bl<|oS 1599 ["p","rows","seen","place","row"])<|Bn (dc P [ev "__module__" 630 (md 1),ei "__firstlineno__" 634 126,er "parse" 642 250,er "__static_attributes__" 643 251,er "__dict__" 645 254,er "__weakref__" 647 255,ev "__doc__" 648 vN] 4) (Bn oT (Bl oT)<|Bl<|hM 124 0 "FuncKindRule.take")<|Bn (bW "check_chain" 983 319 2 503 988) (Bl<|oM 106 0 "ObjectKindRule.take" 0 763)<|Bl<|oC "_law_text" "_law_text" 1711 790 1 3 1017 true vN vN (.ref 1019) 1714)
noncomputable def XG(P:bX):BT:=(Bn (oD "__init__" "Node.__init__" 266 36 6 29 275) (Bn (oS 325 ["nodes","at"]) (Bn (oU 129) (Bn oT (Be (hF 76 "check_height")<|Bl<|hF 145 "_law_tokens")<|Bl oT)<|Bn (oS 823 ["self"]) (Bl<|oP 93 "kind_with" 0 641)<|Bl<|oU 897)<|Bn (oF (aM 42 0) "Diags.__init__" (.ref 187) (md 2) 193) (Bn oN (Be oT<|Bl<|oS 1824 ["parts","types","tokens","p","node"])<|Bl<|oS 1428 ["token"])<|Bn oT (Bl<|dc P [ev "__module__" 1252 (md 0),eQ 1254 "NameKindRule",ei "__firstlineno__" 1256 475,er "take" 1268 717,er "__static_attributes__" 1269 718] 5)<|Bl oN)<|Bn (ip 94 2) (Bn oT (Bn (hF 70 "cut_rows") (Be oN<|Bl oN)<|Bl oT)<|Bn (oM 71 16 "Parser.fault_at" 1 417) (Bl oT)<|Bl<|hF 127 "read_ret")<|Bn (oD "__init__" "Token.__init__" 565 104 7 221 575) (Bn (oD "eat_sign" "Parser.eat_sign" 780 218 2 349 785) (Bl oT)<|Bl<|oP 121 "read_sig" 3 865)<|Bn oT (Bl oN)<|Bl oT)
noncomputable def XH(P:bX):BT:=(Bn oT (Bn oT (Bn (oF (aM 40 0) "HostFault.__init__" (.ref 139) (md 2) 145) (Bn (oS 674 ["self","p","place","token"]) (Be (oP 78 "names_prop" 1 529)<|Bl<|oP 147 "_law_plain" 6 1041)<|Bl<|oS 1354 ["p","n","token"])<|Bn (hM 71 14 "Parser.member_name") (Bl oN)<|Bl oT)<|Bn (oY 528 209) (Bn oT (Be (oU 591)<|Bl<|hF 157 "_law_without")<|Bl<|hF 119 "accessor_ahead")<|Bn (oD "back" "Parser.back" 905 288 2 461 910) (Bl<|oI 720)<|Bl oT)<|Bn (dc P [ev "__module__" 399 (md 2),eQ 401 "ParseStop",ei "__firstlineno__" 403 62,er "__init__" 412 126,er "__static_attributes__" 415 127] 5) (Bn (oU 175) (Bn (oM 71 0 "Parser.__init__" 1 305) (Be oT<|Bl<|bW "_law_member" 1794 938 2 1069 1802)<|Bl oT)<|Bn oN (Bl<|oK "ParenKindRule" 1220 468 688)<|Bl<|oP 129 "read_tparam" 3 945)<|Bn (oK "Part" 625 126 240) (Bn oT (Bl<|hF 91 "read_branch")<|Bl oJ)<|Bn (oS 977 ["token","kind","text"]) (Bl oT)<|Bl oT)
noncomputable def XI(P:bX):BT:=(Bn (oI 38) (Bn oT (Bn (ip 134 2) (Bn oN (Be (bW "eat_token" 1003 334 3 517 1009)<|Bl<|bW "_law_ends" 1730 870 2 1029 1741)<|Bl oN)<|Bn oT (Bl oT)<|Bl<|ip 902 3)<|Bn oT (Bn (oS 759 ["self","text"]) (Be (hM 88 0 "KindRule.take")<|Bl oT)<|Bl oT)<|Bn (hM 71 22 "Parser.mark") (Bl oT)<|Bl<|oS 1620 ["p","token","flags","flag"])<|Bn (oF (aM 38 0) "TooDeep.__init__" (.ref 99) (md 2) 105) (Bn (hM 41 1 "Diag.row") (Bn (oK "Parser" 713 168 296) (Be (oS 1044 ["p"])<|Bl<|hF 151 "_law_sig")<|Bl<|hM 114 0 "MembersPart.parse")<|Bn oT (Bl<|hF 99 "read_hanging")<|Bl<|bW "read_tparams" 1563 673 1 933 1569)<|Bn (oI 230) (Bn (oM 71 8 "Parser.eat_word" 1 361) (Bl oT)<|Bl oT)<|Bn oN (Bl<|oS 1303 ["p","args"])<|Bl<|oP 141 "_law_row" 6 1001)
noncomputable def XJ(P:bX):BT:=(Bn oN (Bn (oU 88) (Bn (dc P [ev "__module__" 453 (md 2),eQ 455 "Diag",ei "__firstlineno__" 457 72,er "__init__" 468 165,er "row" 475 172,er "__static_attributes__" 480 173] 6) (Bn (oY 696 281) (Be oT<|Bl oT)<|Bl oT)<|Bn (oD "fault" "Parser.fault" 841 245 3 405 847) (Bl<|oS 1192 ["p","node","parts"])<|Bl oT)<|Bn (oV [(104,226)]) (Bn (hM 71 6 "Parser.is_name") (Be (ip 598 0)<|Bl oT)<|Bl<|bW "read_named_member" 1449 610 2 853 1456)<|Bn (oM 71 24 "Parser.keep" 1 473) (Bl oT)<|Bl<|hF 135 "read_param")<|Bn (oS 408 ["self","text"]) (Bn (ip 182 2) (Bn oT (Be (hF 84 "need_angle")<|Bl<|oP 153 "_law_pop" 6 1081)<|Bl oN)<|Bn (oS 885 ["self"]) (Bl<|oM 100 0 "ParenKindRule.take" 0 697)<|Bl oT)<|Bn (oM 68 0 "Part.parse" 1 249) (Bn oN (Bl<|bW "extends_here" 1148 407 2 629 1153)<|Bl<|oS 1506 ["self","p","left","at","flags","tparams","params","ret"])<|Bn oT (Bl<|hM 106 0 "ObjectKindRule.take")<|Bl oN)
noncomputable def XK(P:bX):BT:=(Bn (oX "Node" tO tO 37 [] none 254 "object.__new__") (Bn (oP 35 "list_of" 4 69) (Bn (dc P [ev "__module__" 426 (md 2),eQ 428 "HostFault",ei "__firstlineno__" 430 67,er "__init__" 439 146,er "__static_attributes__" 442 147] 5) (Bn (oV [(132,270),(148,277)]) (Be oN<|Bl oN)<|Bl<|hF 107 "mapped_ahead")<|Bn (oM 71 12 "Parser.need_name" 1 389) (Bl oT)<|Bl<|dc P [ev "__module__" 1528 (md 3),eQ 1530 "RetPart",ei "__firstlineno__" 1532 648,er "parse" 1540 913,er "__static_attributes__" 1541 914] 5)<|Bn oT (Bn (oD "step" "Parser.step" 748 203 1 321 753) (Be oT<|Bl<|oP 155 "_law_read" 6 1093)<|Bl<|oP 117 "opens_sig" 3 837)<|Bn oT (Bl<|ip 706 0)<|Bl<|bW "read_access" 1607 729 1 961 1614)<|Bn (oS 380 ["self","number","text"]) (Bn oT (Bn oJ (Be (bW "read_prop_name" 1033 345 1 545 1038)<|Bl<|bW "_law_ret" 1778 919 3 1057 1785)<|Bl oT)<|Bn oT (Bl oT)<|Bl oN)<|Bn (oX "Token" tO tO 229 [] none 553 "object.__new__") (Bn (oS 791 ["self","text"]) (Bl<|oI 612)<|Bl oT)<|Bn (hF 72 "take_mark") (Bl<|bW "read_new_name" 1291 506 1 737 1297)<|Bl oT)
noncomputable def XM(P:bX):BT:=(Bn (hF 33 "twig") (Bn (oS 353 ["number","text"]) (Bn (oU 149) (Bn (oM 69 1 "Mark.put_back" 1 277) (Be oT<|Bl oT)<|Bl<|oP 109 "follows_param" 0 789)<|Bn oN (Bl<|bW "read_union" 1180 425 1 657 1186)<|Bl<|oI 916)<|Bn oT (Bn oT (Be (dc P [ev "__module__" 1116 (md 0),eQ 1118 "TypePart",ei "__firstlineno__" 1120 394,er "parse" 1128 609,er "__static_attributes__" 1129 610] 5)<|Bl oN)<|Bl oN)<|Bn (oS 916 ["self","number"]) (Bl oT)<|Bl oT)<|Bn (ip 114 2) (Bn (dc P [ev "__module__" 495 (md 2),eQ 497 "Diags",ei "__firstlineno__" 499 82,er "__init__" 508 194,er "put" 518 201,er "numbers" 524 206,er "__static_attributes__" 527 207] 7) (Bn oT (Be oT<|Bl<|oS 1808 ["stack","roots","node","height"])<|Bl<|hF 115 "read_members")<|Bn (oD "down" "Parser.down" 875 262 1 433 879) (Bl<|oS 1233 ["self","p","left","at","inner"])<|Bl oT)<|Bn (oS 638 ["self","p"]) (Bn (hM 71 10 "Parser.need_sign") (Bl oN)<|Bl<|oK "FuncKindRule" 1493 636 884)<|Bn (oP 74 "is_token" 1 501) (Bl oT)<|Bl<|hF 143 "_law_signed")
noncomputable def XN(P:bX):BT:=(Bn oT (Bn (oS 344 [""]) (Bn (oS 435 ["self","text"]) (Bn (oD "__init__" "Mark.__init__" 663 132 2 265 668) (Be (oS 1015 ["token"])<|Bl<|oS 1747 ["name"])<|Bl<|bW "starts_func_kind" 1343 538 1 777 1348)<|Bn oT (Bl<|hF 95 "ret_annotation")<|Bl oT)<|Bn (oM 42 2 "Diags.numbers" 2 205) (Bn (oM 71 4 "Parser.is_sign" 1 333) (Be (dc P [ev "__module__" 1087 (md 0),ei "__firstlineno__" 1091 390,er "take" 1100 588,er "__static_attributes__" 1101 589,er "__dict__" 1103 592,er "__weakref__" 1105 593,ev "__doc__" 1106 vN] 4)<|Bl oT)<|Bl oT)<|Bn oN (Bl oT)<|Bl<|oP 133 "access_fits" 3 973)<|Bn (oU 109) (Bn (dc P [ev "__module__" 453 (md 2),ei "__firstlineno__" 457 72,er "__init__" 468 165,er "row" 475 172,er "__static_attributes__" 480 173,er "__dict__" 482 176,er "__weakref__" 484 177,ev "__doc__" 485 vN] 4) (Bn (oS 726 ["self","tokens","diags"]) (Be (oP 82 "read_member_name" 1 557)<|Bl oN)<|Bl<|dc P [ev "__module__" 1390 (md 3),ei "__firstlineno__" 1394 573,er "parse" 1402 812,er "__static_attributes__" 1403 813,ev "__doc__" 1404 vN] 2)<|Bn (hM 71 18 "Parser.end_statement") (Bl oJ)<|Bl<|oS 1575 ["p","flags","at","name","bound","given"])<|Bn oJ (Bn oT (Bl oT)<|Bl<|hF 123 "read_index_sig")<|Bn (bW "read_apart" 960 299 2 489 971) (Bl<|oP 105 "read_type_args" 0 749)<|Bl oT)
noncomputable def XO(P:bX):BT:=(Bn (bW "flagged" 311 47 5 57 319) (Bn (dc P [ev "__module__" 370 (md 2),eQ 372 "TooDeep",ei "__firstlineno__" 374 57,er "__init__" 385 106,er "__static_attributes__" 388 107] 5) (Bn (ip 154 2) (Bn oT (Be (hF 80 "literal_in_brackets")<|Bl<|hF 149 "_law_params")<|Bl<|dc P [ev "private" 1371 (.int 16384 240),ev "protected" 1372 (.int 32768 242),ev "public" 1373 (.int 65536 244),ev "readonly" 1374 (.int 131072 246)] 4)<|Bn (oS 853 ["self","number","at","args"]) (Bl<|oP 97 "read_inter" 0 669)<|Bl oT)<|Bn oN (Bn oN (Be oT<|Bl<|oP 159 "law" 6 1117)<|Bl<|oS 1462 ["p","name","flags","at","tparams","params","ret"])<|Bn (oY 944 477) (Bl<|hF 103 "read_dotted")<|Bl<|oS 1659 ["a","readonly","new","get","set","is","a-b","","0","07","1e3","in","\"\\\n\x02","out","42","$_"])<|Bn (oF (aM 39 0) "ParseStop.__init__" (.ref 119) (md 2) 125) (Bn (oS 504 ["self","file"]) (Bn (hM 71 2 "Parser.ahead") (Be (oS 1076 ["keyof","readonly","infer"])<|Bl<|oC "_law_kinds" "_law_kinds" 1815 958 1 3 1083 true vN vN (.ref 1085) 1818)<|Bl<|bW "read_member" 1416 587 1 825 1422)<|Bn (oM 71 20 "Parser.up" 1 445) (Bl<|oU 701)<|Bl<|hF 131 "check_params")<|Bn (oY 644 253) (Bn (oD "need_word" "Parser.need_word" 812 231 2 377 817) (Bl<|oS 1159 ["p","no_cond","saved","node"])<|Bl<|oM 124 0 "FuncKindRule.take" 3 893)<|Bn oT (Bl<|dc P [ev "__module__" 1315 (md 0),ei "__firstlineno__" 1319 519,er "take" 1329 764,er "__static_attributes__" 1330 765,ev "__doc__" 1331 vN] 2)<|Bl oT)
noncomputable def TF(P:bX):BT:=(Bn (boot_o_0 P) (Bn (boot_o_1 P) (Bn (dc P [ev "__name__" 165 (md 6),ev "__doc__" 166 vN,ev "__package__" 167 vN,ev "__loader__" 168 (.builtin "__main__.__loader__#opaque"),ev "__spec__" 169 vN,er "__annotations__" 170 6,er "__builtins__" 171 4,ev "__file__" 173 (vS "/claim/cut.py" 172),ev "__cached__" 174 vN,er "_wall" 193 21,ei "K_NAME" 197 8,ei "K_FUNC" 199 27,ei "K_PARAM" 201 28,ei "K_INDEXSIG" 203 63,ei "K_LIST" 205 71,ei "K_TKEY" 207 80,ei "K_TREF" 209 81,ei "K_TUNION" 211 83,ei "K_TINTER" 213 84,ei "K_TARRAY" 215 85,ei "K_TOBJ" 217 88,ei "K_TINDEX" 219 90,ei "K_TPRED" 221 96,ei "K_TPAREN" 223 98,ei "K_PROPSIG" 225 99,ei "K_TPARAM" 227 100,ei "F_METHOD" 229 32,ei "F_CALLSIG" 231 512,ei "F_CTORSIG" 233 1024,ei "F_TYPE" 235 2048,ei "F_OPT" 237 4096,ei "F_REST" 239 8192,ei "F_PRIVATE" 241 16384,ei "F_PROTECTED" 243 32768,ei "F_PUBLIC" 245 65536,ei "F_READONLY" 247 131072,ei "F_ASSERTS" 249 16777216,ei "F_IN" 251 268435456,ei "F_OUT" 253 536870912,er "Node" 291 38,er "leaf" 300 49,er "twig" 310 56,er "flagged" 321 63,er "list_of" 329 70,er "KeepError" 362 88,er "TooDeep" 391 109,er "ParseStop" 418 129,er "HostFault" 445 149,er "Diag" 487 175,er "Diags" 534 209,ei "T_END" 538 0,ei "T_NAME" 540 1,ei "T_WORD" 542 2,ei "T_NUM" 544 3,ei "T_STR" 546 4,ei "T_SIGN" 548 5,ei "T_TPL_WHOLE" 550 6,ei "T_TPL_HEAD" 552 7,er "Token" 591 230,ei "MAX_DEEP" 595 40,ei "MAX_CHAIN" 597 60,ei "MAX_HEIGHT" 599 160,er "JOINED" 603 235,ei "PART_TYPE" 605 1,ei "PART_EXPR" 607 2,ei "PART_STMT" 609 3,ei "PART_BLOCK" 611 4,ei "PART_FUNC" 613 5,ei "PART_CLASS" 615 6,ei "PART_MEMBERS" 617 9,ei "PART_PATTERN" 619 10,ei "PART_RETTYPE" 621 11,er "OWN_PARTS" 622 236,er "Part" 650 253,er "Mark" 702 281,er "cut_rows" 710 292,er "Parser" 950 477,er "take_mark" 959 488,er "read_apart" 973 495,er "is_token" 982 502,er "check_chain" 990 509,er "check_height" 1002 516,er "eat_token" 1011 523,er "names_prop" 1018 530,er "starts_prop" 1025 537,er "literal_in_brackets" 1032 544,er "read_prop_name" 1040 551,er "read_member_name" 1047 558,er "token_key" 1054 565,er "need_angle" 1064 572,er "KIND_WORDS" 1075 573,er "OPERATOR_WORDS" 1079 574,er "KindRule" 1108 591,er "TypePart" 1132 612,er "ptypes_read_kind" 1140 621,er "read_branch" 1147 628,er "extends_here" 1155 635,er "kind_with" 1165 642,er "annotation" 1172 649,er "ret_annotation" 1179 656,er "read_union" 1188 663,er "read_inter" 1197 670,er "read_operator" 1205 677,er "read_hanging" 1217 684,er "ParenKindRule" 1244 701,er "NameKindRule" 1272 720,er "refuse_odd_kind" 1280 729,er "read_dotted" 1290 736,er "read_new_name" 1299 743,er "read_type_args" 1307 750,er "ObjectKindRule" 1333 767,er "mapped_ahead" 1342 776,er "starts_func_kind" 1350 783,er "follows_param" 1359 790,er "pattern_ahead" 1368 797,er "PARAM_WORDS" 1379 798,ei "ACCESS_FLAGS" 1382 114688,er "MembersPart" 1406 815,er "read_members" 1415 824,er "read_member" 1424 831,er "opens_sig" 1431 838,er "word_before_name" 1440 845,er "accessor_ahead" 1448 852,er "read_named_member" 1458 859,er "read_sig" 1471 866,er "index_sig_ahead" 1478 873,er "read_index_sig" 1490 880,er "FuncKindRule" 1520 897,er "RetPart" 1544 916,er "may_be_judged" 1551 925,er "read_ret" 1562 932,er "read_tparams" 1571 939,er "read_tparam" 1583 946,er "read_params" 1595 953,er "check_params" 1606 960,er "read_access" 1616 967,er "access_fits" 1626 974,er "read_target" 1634 981,er "read_param" 1647 988,ev "_law_letters" 1651 (vS "abcdefghijklmnopqrstuvwxyzABCDEFGHIJKLMNOPQRSTUVWXYZ0123456789_$" 1650),er "_law_words" 1658 989,er "_law_names" 1675 990,er "_law_name" 1682 997,er "_law_row" 1688 1002,er "_law_tight" 1697 1009,er "_law_signed" 1710 1016,er "_law_text" 1716 1021,er "_law_tokens" 1729 1028,er "_law_ends" 1743 1035,er "_law_plain" 1750 1042,er "_law_tparams" 1761 1049,er "_law_params" 1777 1056,er "_law_ret" 1787 1063,er "_law_sig" 1793 1068,er "_law_member" 1804 1075,er "_law_pop" 1814 1082,er "_law_kinds" 1820 1087,er "_law_read" 1831 1094,er "_law_fits" 1841 1101,er "_law_without" 1852 1108,er "_law_told" 1858 1113,er "law" 1864 1118] 162) (Bn (boot_o_7 P) (Bn oT (Xf P)<|Xg P)<|Bn oJ (Xh P)<|Xi P)<|Bn oT (Bn (hF 0 "_wall") (Xj P)<|Xk P)<|Bn (oK "Node" 256 34 25) (Xl P)<|Xm P)<|Bn (boot_o_5 P) (Bn (boot_o_9 P) (Bn (oS 190 ["k"]) (Xn P)<|Xo P)<|Bn oT (Xp P)<|Xq P)<|Bn (oK "<module>" 182 1 11) (Bn (oP 0 "_wall" 7 20) (Xr P)<|Xu P)<|Bn oT (Xv P)<|Xw P)<|Bn ⟨vN,none,.dict #[(vE P "type.__subclasses__.Exception.0" 359<|vI 88),vE P "type.__subclasses__.Exception.n" 360 (vI 1)] 2,#[]⟩ (Bn (boot_o_4 P) (Bn (boot_o_8 P) (Bn oN (Xx P)<|Xy P)<|Bn (dc P [ev "__module__" 261 (md 4),eQ 263 "Node",ei "__firstlineno__" 265 34,er "__init__" 277 35,er "__static_attributes__" 284 36] 5) (Xz P)<|XA P)<|Bn ⟨vN,none,.fields #[(vI 1),vI 0,.ref 20,vI 34,vI 0,.ref 27,vI 43,vI 0,.ref 48,vI 45,vI 0,.ref 55,vI 47,vI 0,.ref 62,vI 49,vI 0,.ref 69,vI 52,vI 0,.ref 76,vI 57,vI 0,.ref 97,vI 62,vI 0,.ref 117,vI 67,vI 0,.ref 137,vI 72,vI 0,.ref 157,vI 82,vI 0,.ref 185,vI 102,vI 0,.ref 219,vI 126,vI 0,.ref 242,vI 130,vI 0,.ref 263,vI 165,vI 0,.ref 291,vI 168,vI 0,.ref 298,vI 293,vI 0,.ref 487,vI 299,vI 0,.ref 494,vI 317,vI 0,.ref 501,vI 319,vI 0,.ref 508,vI 323,vI 0,.ref 515,vI 334,vI 0,.ref 522,vI 339,vI 0,.ref 529,vI 341,vI 0,.ref 536,vI 343,vI 0,.ref 543,vI 345,vI 0,.ref 550,vI 356,vI 0,.ref 557,vI 360,vI 0,.ref 564,vI 372,vI 0,.ref 571,vI 390,vI 0,.ref 580,vI 394,vI 0,.ref 601,vI 398,vI 0,.ref 620,vI 403,vI 0,.ref 627,vI 407,vI 0,.ref 634,vI 411,vI 0,.ref 641,vI 417,vI 0,.ref 648,vI 421,vI 0,.ref 655,vI 425,vI 0,.ref 662,vI 434,vI 0,.ref 669,vI 443,vI 0,.ref 676,vI 448,vI 0,.ref 683,vI 468,vI 0,.ref 690,vI 475,vI 0,.ref 709,vI 488,vI 0,.ref 728,vI 496,vI 0,.ref 735,vI 506,vI 0,.ref 742,vI 512,vI 0,.ref 749,vI 519,vI 0,.ref 756,vI 526,vI 0,.ref 775,vI 538,vI 0,.ref 782,vI 551,vI 0,.ref 789,vI 558,vI 0,.ref 796,vI 573,vI 0,.ref 804,vI 577,vI 0,.ref 823,vI 587,vI 0,.ref 830,vI 603,vI 0,.ref 837,vI 605,vI 0,.ref 844,vI 608,vI 0,.ref 851,vI 610,vI 0,.ref 858,vI 618,vI 0,.ref 865,vI 623,vI 0,.ref 872,vI 627,vI 0,.ref 879,vI 636,vI 0,.ref 886,vI 648,vI 0,.ref 905,vI 652,vI 0,.ref 924,vI 654,vI 0,.ref 931,vI 673,vI 0,.ref 938,vI 682,vI 0,.ref 945,vI 700,vI 0,.ref 952,vI 719,vI 0,.ref 959,vI 729,vI 0,.ref 966,vI 740,vI 0,.ref 973,vI 751,vI 0,.ref 980,vI 757,vI 0,.ref 987,vI 776,vI 0,.ref 996,vI 780,vI 0,.ref 1001,vI 782,vI 0,.ref 1008,vI 785,vI 0,.ref 1015,vI 790,vI 0,.ref 1020,vI 829,vI 0,.ref 1027,vI 870,vI 0,.ref 1034,vI 887,vI 0,.ref 1041,vI 889,vI 0,.ref 1048,vI 899,vI 0,.ref 1055,vI 919,vI 0,.ref 1062,vI 932,vI 0,.ref 1067,vI 938,vI 0,.ref 1074,vI 951,vI 0,.ref 1081,vI 958,vI 0,.ref 1086,vI 983,vI 0,.ref 1093,vI 994,vI 0,.ref 1100,vI 1008,vI 0,.ref 1107,vI 1024,vI 0,.ref 1112,vI 1046,vI 0,.ref 1117],#[]⟩ (Bn (bW "_wall" 187 1 1 15 191) (XC P)<|XD P)<|Bn (ip 24 4) (XE P)<|XF P)<|Bn (boot_o_6 P) (Bn (boot_o_10 P) (Bn oT (XG P)<|XH P)<|Bn (oV [(36,34)]) (XI P)<|XJ P)<|Bn ⟨.type "frame",none,.plain,#[(some<|.ref 13),some (.ref 3),some (.ref 3),none,some (vS "__main__" 164),none,some (.ref 0)]⟩ (Bn oT (XK P)<|XM P)<|Bn oN (XN P)<|XO P)
noncomputable def sj:BT->Nat->BT
 |.nil,_=>.nil
 |.node v l r,n=>match Nat.beq n 0 with
  |true=>.nil
  |false=>.node v (sj l<|n/2)<|sj r<|(n-1)/2
noncomputable def wJ(o:Obj)(m:Nat)(nm:ak)(a:Nat):Obj:=match o.data with
 |.dict b _=>{o with data:=.dict ⟨match b.toList.take m with|e::r=>{e with val:=nm}::r|[]=>[]⟩ a}
 |_=>o
noncomputable def wK(o:Obj)(m:Nat):Obj:=match o.data with
 |.fields a=>{o with data:=.fields ⟨a.toList.take m⟩}
 |_=>o
noncomputable def ur(o:Obj)(m:Nat):Obj:=match o.data with
 |.cls c=>{o with data:=.cls {c with subclasses:=c.subclasses.take m}}
 |_=>o
noncomputable def DB(P:bX):BT:=((((sj (TF P) 15).set 2 λ_=>boot_o_2 P).set 3 λo=>wJ o 9 (vS "__main__" 164) 9).set 12 λo=>wK o 0)
noncomputable def zo(P:bX):BT:=(((sj (TF P) 235).set 3 λo=>wJ o 59 (vS "kindkeep.scanner" 535) 59).set 12 λo=>wK o 39)
noncomputable def zp(P:bX):BT:=(((((sj (TF P) 704).set 3 λo=>wJ o 105 (vS "kindkeep.ptypes" 1065) 105).set 12 λo=>wK o 129).set 253 λo=>ur o 1).set 591 λo=>ur o 1)
noncomputable def ut(P:bX):BT:=(((((sj (TF P) 798).set 3 λo=>wJ o 115 (vS "kindkeep.pmembers" 1369) 115).set 12 λo=>wK o 159).set 253 λo=>ur o 1).set 591 λo=>ur o 3)
noncomputable def uu(P:bX):BT:=(((((sj (TF P) 799).set 3 λo=>wJ o 116 (vS "kindkeep.pmembers" 1369) 116).set 12 λo=>wK o 159).set 253 λo=>ur o 1).set 591 λo=>ur o 3)
noncomputable abbrev zq(P:bX):BT:=TF P
noncomputable def ji:dA:={scope:=pw.main.scope,locals:=mainNs,globals:=mainNs,cells:=[],code:=.ref 13,frame:=some 14}
noncomputable def wL(l:List cA)(a n:Nat):List cA:=(l.drop a).take n
noncomputable def bA:List cA:=wL Bd 0 53
noncomputable def bB:List cA:=wL Bd 53 48
noncomputable def bC:List cA:=wL Bd 101 11
noncomputable def bD:List cA:=wL Bd 112 1
noncomputable def bE:List cA:=wL Bd 113 47
noncomputable abbrev sT(t:bX->BT)(n tk:Nat)(w:ed)(os:iR):SharedT:=⟨t w.params,n,{},uN [],{},tk,os⟩
noncomputable abbrev lU(l b:List cA)(p:dq):Thread:=piecesOf l ji (lm b ji) p [Fd q0]
theorem pA:∀w:ed,(λ(p:kv) (b:List cA) (os:iR)=>rf rg p w 11 (some<|.ref 6) 1 2502 (sT DB 15 187 w os)<|lU bA b q0)=λp b os=>some (.next,sT zo 235 592 w os,lm b ji,⟨102,0,110,38⟩):=λw=>by kernel_rfl
theorem pB:∀w:ed,(λ(p:kv) (b:List cA) (os:iR)=>rf rg p w 11 (some<|.ref 6) 1 3136 (sT zo 235 592 w os)<|lU bB b ⟨102,0,110,38⟩)=λp b os=>some (.next,sT zp 704 1245 w os,lm b ji,⟨468,0,474,46⟩):=λw=>by kernel_rfl
theorem pC:∀w:ed,(λ(p:kv) (b:List cA) (os:iR)=>rf rg p w 11 (some<|.ref 6) 1 750 (sT zp 704 1245 w os)<|lU bC b ⟨468,0,474,46⟩)=λp b os=>some (.next,sT ut 798 1371 w os,lm b ji,⟨570,0,570,8⟩):=λw=>by kernel_rfl
noncomputable abbrev wf(w:ed)(b:Bool):ed:=w.withFollow "special-get-raises" b
theorem XQ:∀w:ed,(λ(p:kv) (b:List cA) (os:iR)=>rf rg p (wf w false) 11 (some<|.ref 6) 1 75 (sT ut 798 1371 (wf w false) os)<|lU bD b ⟨570,0,570,8⟩)=λp b os=>some (.next,sT uu 799 1380 (wf w false) os,lm b ji,⟨571,0,571,11⟩):=λw=>by kernel_rfl
theorem XR:∀w:ed,(λ(p:kv) (b:List cA) (os:iR)=>rf rg p (wf w true) 11 (some<|.ref 6) 1 75 (sT ut 798 1371 (wf w true) os)<|lU bD b ⟨570,0,570,8⟩)=λp b os=>some (.next,sT uu 799 1380 (wf w true) os,lm b ji,⟨571,0,571,11⟩):=λw=>by kernel_rfl
theorem pE:∀w:ed,(λ(p:kv) (b:List cA) (os:iR)=>rf rg p w 11 (some<|.ref 6) 1 2045 (sT uu 799 1380 w os)<|lU bE b ⟨571,0,571,11⟩)=λp b os=>some (.next,sT zq 1119 1865 w os,lm b ji,⟨1046,0,1066,40⟩):=λw=>by kernel_rfl
theorem hb:Oc pw=bA++(bB++(bC++(bD++(bE++[])))):=by kernel_rfl
noncomputable abbrev cE:Code:=lm (bA++(bB++(bC++(bD++(bE++[]))))) ji
noncomputable abbrev SB(w:ed)(os:iR):ay:=(sT DB 15 187 w os).abs
noncomputable abbrev SK(w:ed)(os:iR):ay:=(sT zq 1119 1865 w os).abs
theorem XS:∀(w:ed) (os:iR),topGo sY pw w 11 (some<|.ref 6) 12 ⟨rh w.params,uN [],Fe,Ff,os⟩ (topStub pw)=some (SB w os,⟨denote sY cE,cE,q0,[Fd q0]⟩):=λw os=>by kernel_rfl
theorem XT:∀(w:ed) (os:iR),segRun sY pw w 11 (some<|.ref 6) 1 1 (SB w os) (blockOf (bA++(bB++(bC++(bD++(bE++[]))))) ji cE q0 [Fd q0])=some (.next,SB w os,cE,q0):=λw os=>by kernel_rfl
theorem XU:∀(w:ed) (os:iR),topRun sY pw w 11 (some<|.ref 6) 2 (SK w os) (restOf [] ji cE ⟨1046,0,1066,40⟩ [Fd q0])=some (SK w os):=λw os=>by kernel_rfl
theorem XV: @segRunT= @rf:=Fast.te10110043849684766642
theorem XW:sY=rg:=Fast.te14364793385576792824
theorem wM{os:iR}{s s':iR->SharedT}{t:List cA->Thread}{c:List cA->Code}(h:(λ(p:kv) (b:List cA) (os:iR)=>rf rg p w 11 (some<|.ref 6) 1 n (s os)<|t b)=λp b os=>some (.next,s' os,c b,q)):
  segRun sY p w 11 (some<|.ref 6) 1 n (s os).abs (t b)=some (.next,(s' os).abs,c b,q):=
 segRun_of (by rw[XV,XW];exact congrFun (congrFun (congrFun h p) b) os)
theorem pD:∀w:ed,(λ(p:kv) (b:List cA) (os:iR)=>rf rg p w 11 (some<|.ref 6) 1 75 (sT ut 798 1371 w os)<|lU bD b ⟨570,0,570,8⟩)=λp b os=>some (.next,sT uu 799 1380 w os,lm b ji,⟨571,0,571,11⟩):=
 byRow2 "special-get-raises" XQ XR
theorem XX:∀(w:ed) (os:iR),topRun sY pw w 11 (some<|.ref 6) (12+(1+(2502+(3136+(750+(75+(2045+2))))))) ⟨rh w.params,uN [],Fe,Ff,os⟩ (topStub pw)=some (SK w os):=λw os=>
 go_top (XS w os) (piece_block (XT w os)<|AD (wM (s:=sT DB 15 187 w) (s':=sT zo 235 592 w) (t:=λb=>lU bA b q0) (c:=λb=>lm b ji)<|pA w)<|AD (wM (s:=sT zo 235 592 w) (s':=sT zp 704 1245 w) (t:=λb=>lU bB b ⟨102,0,110,38⟩) (c:=λb=>lm b ji)<|pB w)<|AD (wM (s:=sT zp 704 1245 w) (s':=sT ut 798 1371 w) (t:=λb=>lU bC b ⟨468,0,474,46⟩) (c:=λb=>lm b ji)<|pC w)<|AD (wM (s:=sT ut 798 1371 w) (s':=sT uu 799 1380 w) (t:=λb=>lU bD b ⟨570,0,570,8⟩) (c:=λb=>lm b ji)<|pD w)<|AD (wM (s:=sT uu 799 1380 w) (s':=sT zq 1119 1865 w) (t:=λb=>lU bE b ⟨571,0,571,11⟩) (c:=λb=>lm b ji)<|pE w)<|XU w os)
theorem XY:∀w:ed,(fencedOpening sY pw w 20000).map (λs=>(s.heap,s.gens,s.drawn,s.toks))=some (rh w.params,uN [],Fe,Ff):=boot_open rfl (by decide) λ_=>rfl
theorem XZ:∀w:ed,((rh w.params).isNs ey&&(uN []:Array GenState).size==0,(rh w.params).objs.size,(rh w.params).nsMap ey "__annotations__")=(true,11,some<|.ref 6):=λw=>by kernel_rfl
noncomputable abbrev qv:kv:={pw with main:={pw.main with body:=pw.main.body.drop 159}}
noncomputable def f3:List aw:=(["_wall","K_NAME","K_FUNC","K_PARAM","K_INDEXSIG","K_LIST","K_TKEY","K_TREF","K_TUNION","K_TINTER","K_TARRAY","K_TOBJ","K_TINDEX","K_TPRED","K_TPAREN","K_PROPSIG","K_TPARAM","F_METHOD","F_CALLSIG","F_CTORSIG","F_TYPE","F_OPT","F_REST","F_PRIVATE","F_PROTECTED","F_PUBLIC","F_READONLY","F_ASSERTS","F_IN","F_OUT","Node","leaf","twig","flagged","list_of","KeepError","TooDeep","ParseStop","HostFault","Diag","Diags","T_END","T_NAME","T_WORD","T_NUM","T_STR","T_SIGN","T_TPL_WHOLE","T_TPL_HEAD","Token","MAX_DEEP","MAX_CHAIN","MAX_HEIGHT","JOINED","PART_TYPE","PART_EXPR","PART_STMT","PART_BLOCK","PART_FUNC","PART_CLASS","PART_MEMBERS","PART_PATTERN","PART_RETTYPE","OWN_PARTS","Part","Mark","cut_rows","Parser","take_mark","read_apart","is_token","check_chain","check_height","eat_token","names_prop","starts_prop","literal_in_brackets","read_prop_name","read_member_name","token_key","need_angle","KIND_WORDS","OPERATOR_WORDS","KindRule","TypePart","ptypes_read_kind","read_branch","extends_here","kind_with","annotation","ret_annotation","read_union","read_inter","read_operator","read_hanging","ParenKindRule","NameKindRule","refuse_odd_kind","read_dotted","read_new_name","read_type_args","ObjectKindRule","mapped_ahead","starts_func_kind","follows_param","pattern_ahead","PARAM_WORDS","ACCESS_FLAGS","MembersPart","read_members","read_member","opens_sig","word_before_name","accessor_ahead","read_named_member","read_sig","index_sig_ahead","read_index_sig","FuncKindRule","RetPart","may_be_judged","read_ret","read_tparams","read_tparam","read_params","check_params","read_access","access_fits","read_target","read_param","_law_letters","_law_words","_law_names","_law_name","_law_row","_law_tight","_law_signed","_law_text","_law_tokens","_law_ends","_law_plain","_law_tparams","_law_params","_law_ret","_law_sig","_law_member","_law_pop","_law_kinds","_law_read","_law_fits","_law_without","_law_told"]:List String).map Aq
theorem X0:∀w:ed,∀os,(staticsOk (xH pw.main.body) (rh w.params) (SK w os).heap&&namesBound pw (SK w os).heap&&gensDone (SK w os)&&laidKept (rh w.params) (SK w os).heap)=true:=λw os=>by kernel_rfl
theorem X1:∀w:ed,∀os,ae4 ((recsOf qv).map (·.name)) (ownsOf qv) [] (SK w os)=expectedOf qv:=λw os=>by kernel_rfl
theorem X2:∀w:ed,∀os,(SK w os).heap.bltView=bltViewBooted:=λw os=>by kernel_rfl
theorem X3:∀w:ed,∀os,(SK w os).heap.keysOk (xI qv f3) ((recsOf qv).map (·.name)) ((litsOf qv).map (·.1)) ((clssOf qv<|xI qv f3).map (·.name))=true:=λw os=>by kernel_rfl
theorem X4:∀w:ed,∀os,((SK w os).heap.accountedOkI (xH pw.main.body)&&(SK w os).heap.isNs ey&&(SK w os).heap.isNs uS)=true:=λw os=>by kernel_rfl
theorem X5:∀w:ed,∀os,tablesOk qv (SK w os).heap=true:=λw os=>by kernel_rfl
theorem X6:∀w:ed,∀os,tabsOk qv (SK w os)=true:=λw os=>by kernel_rfl
theorem X7:∀w:ed,∀os,pinSeenD qv (drecsOf qv) (SK w os)=pinGoodD (drecsOf qv):=λw os=>by kernel_rfl
theorem X8:∀w:ed,∀os,plainSeenE qv (xI qv f3) (SK w os)=plainGoodE qv (xI qv f3):=λw os=>by kernel_rfl
theorem X9:∀w:ed,∀os,plainSeenD qv f3 (SK w os)=plainGoodD qv f3:=λw os=>by kernel_rfl
theorem Yb:∀w:ed,∀os,wideSeen qv (SK w os)=wideGood qv:=λw os=>by kernel_rfl
theorem Yc:∀w:ed,∀os,clsSeenW qv f3 (SK w os)=clsGoodW qv f3:=λw os=>by kernel_rfl
noncomputable def Yd(P:bX)(a:aH):Obj:=((TF P).get a).getD default
noncomputable def KA:List aH:=[3,6,20,21,34,35,36,37,38,39,40,48,49,55,56,62,63,69,70,78,84,85,86,87,88,89,99,105,106,107,108,109,119,125,126,127,128,129,139,145,146,147,148,149,164,165,171,172,173,174,175,176,177,187,193,194,200,201,205,206,207,208,209,210,211,226,227,228,229,230,231,232,235,236,249,250,251,252,253,254,255,270,271,277,278,279,280,281,282,283,291,292,305,306,312,313,319,320,326,327,333,334,340,341,347,348,354,355,361,362,368,369,375,376,382,383,389,390,396,397,403,404,410,411,417,418,424,425,431,432,438,439,445,446,452,453,459,460,466,467,473,474,475,476,477,478,479,487,488,494,495,501,502,508,509,515,516,522,523,529,530,536,537,543,544,550,551,557,558,564,565,571,572,573,574,587,588,589,590,591,592,593,608,609,610,611,612,620,621,627,628,634,635,641,642,648,649,655,656,662,663,669,670,676,677,683,684,697,698,699,700,701,716,717,718,719,720,728,729,735,736,742,743,749,750,763,764,765,766,767,775,776,782,783,789,790,796,797,798,811,812,813,814,815,823,824,830,831,837,838,844,845,851,852,858,859,865,866,872,873,879,880,893,894,895,896,897,912,913,914,915,916,924,925,931,932,938,939,945,946,952,953,959,960,966,967,973,974,980,981,987,988,989,990,996,997,1001,1002,1008,1009,1015,1016,1020,1021,1027,1028,1034,1035,1041,1042,1048,1049,1055,1056,1062,1063,1067,1068,1074,1075,1081,1082,1086,1087,1093,1094,1100,1101,1107,1108,1112,1113,1117,1118]
noncomputable def KF(P:bX):cT:=KA.map λa=>(a,Yd P a)
theorem ka:∀P,KA=(KF P).map (·.1):=λP=>by unfold KF;rw[rc];exact(List.map_id _).symm
noncomputable abbrev HK:Hook:=kHook KF KA ka
theorem Ye:∀(w:ed) (os:iR),HK.obs (SK w os)=HK.val w:=λw os=>by kernel_rfl
noncomputable abbrev H1(P:bX):cz:=absHeap (zq P) 1119 {}
noncomputable abbrev wN:OpenRow:=Ar.row
noncomputable abbrev wO:ay->Bool:=λs=>recOk (RowW.records wN.toRowW) s
theorem Yg:LeftO wN.prog qv f3 wO HK.obs HK.val 20000:=by
 refine LeftO.of_pieces (p:=pw) (g0:=true) (H₀:=rh) (H₁:=H1) (gs₀:=uN []) (gs₁:=uN []) (d₀:=Fe) (d₁:={}) (k₀:=Ff) (k₁:=1865) XY XZ XX (by decide) λw=>funext λos=>?_;have a:((SK w os).heap.keysOk (xI qv f3) ((recsOf qv).map (·.name)) ((litsOf qv).map (·.1)) ((clssOf qv<|xI qv f3).map (·.name))&&(SK w os).heap.accountedOkI (xH pw.main.body)&&(SK w os).heap.isNs ey&&(SK w os).heap.isNs uS&&tablesOk qv (SK w os).heap&&wO (SK w os)&&(if true then(SK w os).gens.size==0 else !leftWithCleanup (SK w os).gens))=true:=by
  have b:=X4 w os;simp only[ol] at b;rw[X3 w os,b.1.1,b.1.2,b.2,X5 w os]
  rfl
 have z:Od qv f3 (xH pw.main.body) wO true (SK w os)=openGood qv f3:=by
  unfold Od openGood;rw[a,X2 w os,X6 w os,X7 w os,X8 w os,X9 w os,Yb w os,Yc w os];exact congrArg (λx=>(x,_))<|X1 w os
 show(_,Od qv f3 (xH pw.main.body) wO true<|SK w os,HK.obs<|SK w os)=_;rw[z,Ye w os];exact congrArg (λx=>(x,_))<|X0 w os
noncomputable abbrev lw:OpenLaw:=Ar
theorem v1:sreFenced lw.prog.main=true:=by kernel_rfl
theorem v2:((aef lw.prog.main.body).isEmpty||lookedIntoSs (aef lw.prog.main.body) lw.prog.main.body)=true:=by kernel_rfl
theorem v3:namesResolve lw.prog=true:=by kernel_rfl
theorem v4:lw.prog.boundNames.all (λn=> !worldNames.contains n)=true:=by kernel_rfl
theorem v5:noRoadLSs {strict:= !(xH lw.prog.main.body).all cThrough.contains,foot:=none,bare:=(["vars","dir","locals"]:List aw).filter<|readsOut lw.prog lw.prog.main.body} lw.prog.main.body=true:=by kernel_rfl
theorem v6:(Fh lw.prog lw.prog.main.body λ_ n=>attrL n)=true:=by kernel_rfl
theorem Yh:looksOpen lw.prog=true:=gE (gE (gE (gE (gE v1 v2) v3) v4) v5) v6
theorem w1:lw.row.wellSaid=true:=by
 unfold OpenRow.wellSaid OpenRow.partSaid;rw[show looksOpen lw.row.prog=true from Yh]
 kernel_rfl
theorem w2:decide (lw.foot<=(Oc lw.prog).length)=true:=by kernel_rfl
theorem w3:lw.footing.all footLine=true:=by kernel_rfl
theorem w4:noClassBlock lw.prog lw.footing=true:=by kernel_rfl
theorem w5:lw.most.all (λn=>decide (63<=n))=true:=by kernel_rfl
theorem w6:lw.bound.all (λn=>decide (2^63<=n))=true:=by kernel_rfl
theorem w7:noRoadLSs {strict:=true,foot:=some lw.bound',writes:=lw.writes,may:=lw.may} lw.footing=true:=by kernel_rfl
theorem w8:defStands lw.about lw.above=true:=by kernel_rfl
theorem w9:lw.namesIt=true:=by kernel_rfl
theorem Yi:(["type","isinstance","issubclass","getattr","hasattr"]:List aw).all (λn=>lw.about !=[n])=true:=by kernel_rfl
theorem Yj:lw.bound'.all (λn=> !aeg n||lw.about==[n]|| !lw.reads n)=true:=by kernel_rfl
theorem Yk:(!lw.writes||(lw.prog.main.body.flatMap aeh).all λn=> !lw.reads n)=true:=by kernel_rfl
theorem Yl:(lw.prog.main.body.flatMap aeh).all (λn=> !lw.reads n||(drawsOf n lw.prog.main.body).all λa=>a.2 !=("attrgetter":aw)&&a.2 !=("methodcaller":aw))=true:=by kernel_rfl
theorem Ym:Fh lw.prog lw.footing (λsc n=>(!(["type","isinstance","issubclass","getattr","hasattr"]:List aw).contains n||sc.names.lookup n==some .globalImplicit)&&(lw.may !=some n||sc.kind== .module||sc.names.lookup n==some .globalImplicit))=true:=by kernel_rfl
theorem Yn:lw.own.contains lw.name=true:=by kernel_rfl
theorem Yo:(lw.own.eraseDups.length==lw.own.length)=true:=by kernel_rfl
theorem w17:lw.own.all (λn=> !aeg n)=true:=by kernel_rfl
theorem w18:Fh lw.prog lw.above (λ_ n=> !lw.own.contains n)=true:=by kernel_rfl
theorem w19:(Fh lw.prog lw.footing λsc n=>sc.kind== .module||sc.names.lookup n !=some .globalExplicit)=true:=by kernel_rfl
theorem Yp:lw.wellSaid=true:=gE (gE (gE (gE (gE (gE (gE (gE (gE (gE (gE (gE (gE (gE (gE (gE (gE (gE w1 w2) w3) w4) w5) w6) w7) w8) w9) Yi) Yj) Yk) Yl) Ym) Yn) Yo) w17) w18) w19
theorem Yq(a:∀d b,defOf qv wN.name=some (d,b)->WalkO qv f3 (λ_ _=>True) HK.says wN.toRowW d b λf c=>kq f c):Ar.Holds:=by
 refine holds_law Yp λsaid=>holds_open (r:=wN) (q:=qv) (loose:=f3) (Xt:=wO) (XP:=λ_ _=>True) (Yf:=HK.obs) (Ya:=HK.val) (YP:=HK.says) (N:=20000) Yg HK.of HK.keeps (λ_ _=>trivial) (λ_ _ _ _ _=>trivial) (by rfl) (by rfl) (by rfl) (λs e=>recFacts_of e) (by rfl) (said) (by decide+kernel) ⟨rfl,rfl,rfl,rfl,rfl,by decide+kernel⟩ ?hw ?hc
 case hw=>exact⟨[.list [.int 3,.int 1]],by decide+kernel,by decide+kernel⟩
 case hc=>exact a _ _<|by rfl
end
universe i j q M N u6
section
variable{P Q R S T L V W:Prop}{Z:Prop}
theorem ly(h:P/\Q/\R)(k:P->Q->R->Z):Z:=k h.1 h.2.1 h.2.2
theorem u0(h:P/\Q/\R/\S)(k:P->Q->R->S->Z):Z:=k h.1 h.2.1 h.2.2.1 h.2.2.2
theorem OE(h:P/\Q/\R/\S/\T)(k:P->Q->R->S->T->Z):Z:=k h.1 h.2.1 h.2.2.1 h.2.2.2.1 h.2.2.2.2
theorem OF(h:P/\Q/\R/\S/\T/\L/\V/\W)(k:P->Q->R->S->T->L->V->W->Z):Z:=k h.1 h.2.1 h.2.2.1 h.2.2.2.1 h.2.2.2.2.1 h.2.2.2.2.2.1 h.2.2.2.2.2.2.1 h.2.2.2.2.2.2.2
end
section
variable{A:Sort i}{P Q R S T L V:A->Prop}{Z:Prop}(x:A)
theorem aB(h:∃x,P x/\Q x)(k:∀x,P x->Q x->Z):Z:=h.elim λx h=>k x h.1 h.2
theorem cF(h:∃x,P x/\Q x/\R x)(k:∀x,P x->Q x->R x->Z):Z:=h.elim λx h=>k x h.1 h.2.1 h.2.2
theorem FU(h:∃x,P x/\Q x/\R x/\S x)(k:∀x,P x->Q x->R x->S x->Z):Z:=h.elim λx h=>k x h.1 h.2.1 h.2.2.1 h.2.2.2
theorem AZ(h:∃x,P x/\Q x/\R x/\S x/\T x/\L x/\V x)(k:∀x,P x->Q x->R x->S x->T x->L x->V x->Z):Z:=h.elim λx h=>k x h.1 h.2.1 h.2.2.1 h.2.2.2.1 h.2.2.2.2.1 h.2.2.2.2.2.1 h.2.2.2.2.2.2
theorem aD(a:P x)(b:Q x):∃x,P x/\Q x:=⟨x,a,b⟩
theorem df(a:P x)(b:Q x)(c:R x):∃x,P x/\Q x/\R x:=⟨x,a,b,c⟩
theorem FV(a:P x)(b:Q x)(c:R x)(d:S x):∃x,P x/\Q x/\R x/\S x:=⟨x,a,b,c,d⟩
theorem FW(a:P x)(b:Q x)(c:R x)(d:S x)(e:T x):∃x,P x/\Q x/\R x/\S x/\T x:=⟨x,a,b,c,d,e⟩
theorem OG(a:P x)(b:Q x)(c:R x)(d:S x)(e:T x)(f:L x)(g:V x):∃x,P x/\Q x/\R x/\S x/\T x/\L x/\V x:=⟨x,a,b,c,d,e,f,g⟩
end
section
variable{A:Sort i}{B:Sort j}{P Q R S T:A->B->Prop}{Z:Prop}(x:A)(y:B)
theorem jV(h:∃x y,P x y)(k:∀x y,P x y->Z):Z:=h.elim λx h=>h.elim λy h=>k x y h
theorem eB(h:∃x y,P x y/\Q x y)(k:∀x y,P x y->Q x y->Z):Z:=h.elim λx h=>h.elim λy h=>k x y h.1 h.2
theorem cU(h:∃x y,P x y/\Q x y/\R x y)(k:∀x y,P x y->Q x y->R x y->Z):Z:=h.elim λx h=>h.elim λy h=>k x y h.1 h.2.1 h.2.2
theorem A0(h:∃x y,P x y/\Q x y/\R x y/\S x y)(k:∀x y,P x y->Q x y->R x y->S x y->Z):Z:=h.elim λx h=>h.elim λy h=>k x y h.1 h.2.1 h.2.2.1 h.2.2.2
theorem xW(h:∃x y,P x y/\Q x y/\R x y/\S x y/\T x y)(k:∀x y,P x y->Q x y->R x y->S x y->T x y->Z):Z:=h.elim λx h=>h.elim λy h=>k x y h.1 h.2.1 h.2.2.1 h.2.2.2.1 h.2.2.2.2
theorem gH(a:P x y):∃x y,P x y:=⟨x,y,a⟩
theorem cJ(a:P x y)(b:Q x y):∃x y,P x y/\Q x y:=⟨x,y,a,b⟩
theorem cK(a:P x y)(b:Q x y)(c:R x y):∃x y,P x y/\Q x y/\R x y:=⟨x,y,a,b,c⟩
theorem m1(a:P x y)(b:Q x y)(c:R x y)(d:S x y):∃x y,P x y/\Q x y/\R x y/\S x y:=⟨x,y,a,b,c,d⟩
theorem A1(a:P x y)(b:Q x y)(c:R x y)(d:S x y)(e:T x y):∃x y,P x y/\Q x y/\R x y/\S x y/\T x y:=⟨x,y,a,b,c,d,e⟩
end
section
variable{A:Sort i}{B:Sort j}{E:Sort q}{P Q R S T L:A->B->E->Prop}{Z:Prop}(x:A)(y:B)(z:E)
theorem A3(h:∃x y z,P x y z)(k:∀x y z,P x y z->Z):Z:=h.elim λx h=>h.elim λy h=>h.elim λz h=>k x y z h
theorem iU(h:∃x y z,P x y z/\Q x y z)(k:∀x y z,P x y z->Q x y z->Z):Z:=h.elim λx h=>h.elim λy h=>h.elim λz h=>k x y z h.1 h.2
theorem xX(h:∃x y z,P x y z/\Q x y z/\R x y z)(k:∀x y z,P x y z->Q x y z->R x y z->Z):Z:=h.elim λx h=>h.elim λy h=>h.elim λz h=>k x y z h.1 h.2.1 h.2.2
theorem ej(h:∃x y z,P x y z/\Q x y z/\R x y z/\S x y z)(k:∀x y z,P x y z->Q x y z->R x y z->S x y z->Z):Z:=h.elim λx h=>h.elim λy h=>h.elim λz h=>k x y z h.1 h.2.1 h.2.2.1 h.2.2.2
theorem xY(h:∃x y z,P x y z/\Q x y z/\R x y z/\S x y z/\T x y z)(k:∀x y z,P x y z->Q x y z->R x y z->S x y z->T x y z->Z):Z:=h.elim λx h=>h.elim λy h=>h.elim λz h=>k x y z h.1 h.2.1 h.2.2.1 h.2.2.2.1 h.2.2.2.2
theorem xZ(h:∃x y z,P x y z/\Q x y z/\R x y z/\S x y z/\T x y z/\L x y z)(k:∀x y z,P x y z->Q x y z->R x y z->S x y z->T x y z->L x y z->Z):Z:=h.elim λx h=>h.elim λy h=>h.elim λz h=>k x y z h.1 h.2.1 h.2.2.1 h.2.2.2.1 h.2.2.2.2.1 h.2.2.2.2.2
theorem A4(a:P x y z):∃x y z,P x y z:=⟨x,y,z,a⟩
theorem lz(a:P x y z)(b:Q x y z):∃x y z,P x y z/\Q x y z:=⟨x,y,z,a,b⟩
theorem u4(a:P x y z)(b:Q x y z)(c:R x y z):∃x y z,P x y z/\Q x y z/\R x y z:=⟨x,y,z,a,b,c⟩
theorem f8(a:P x y z)(b:Q x y z)(c:R x y z)(d:S x y z):∃x y z,P x y z/\Q x y z/\R x y z/\S x y z:=⟨x,y,z,a,b,c,d⟩
theorem m2(a:P x y z)(b:Q x y z)(c:R x y z)(d:S x y z)(e:T x y z):∃x y z,P x y z/\Q x y z/\R x y z/\S x y z/\T x y z:=⟨x,y,z,a,b,c,d,e⟩
theorem u5(a:P x y z)(b:Q x y z)(c:R x y z)(d:S x y z)(e:T x y z)(f:L x y z):∃x y z,P x y z/\Q x y z/\R x y z/\S x y z/\T x y z/\L x y z:=⟨x,y,z,a,b,c,d,e,f⟩
end
section
variable{A:Sort i}{B:Sort j}{E:Sort q}{F:Sort M}{P Q R S T:A->B->E->F->Prop}{Z:Prop}(x:A)(y:B)(z:E)(u:F)
theorem FX(h:∃x y z u,P x y z u)(k:∀x y z u,P x y z u->Z):Z:=h.elim λx h=>h.elim λy h=>h.elim λz h=>h.elim λu h=>k x y z u h
theorem u7(h:∃x y z u,P x y z u/\Q x y z u)(k:∀x y z u,P x y z u->Q x y z u->Z):Z:=h.elim λx h=>h.elim λy h=>h.elim λz h=>h.elim λu h=>k x y z u h.1 h.2
theorem A5(h:∃x y z u,P x y z u/\Q x y z u/\R x y z u/\S x y z u/\T x y z u)(k:∀x y z u,P x y z u->Q x y z u->R x y z u->S x y z u->T x y z u->Z):Z:=h.elim λx h=>h.elim λy h=>h.elim λz h=>h.elim λu h=>k x y z u h.1 h.2.1 h.2.2.1 h.2.2.2.1 h.2.2.2.2
theorem OH(a:P x y z u)(b:Q x y z u):∃x y z u,P x y z u/\Q x y z u:=⟨x,y,z,u,a,b⟩
theorem A6(a:P x y z u)(b:Q x y z u)(c:R x y z u)(d:S x y z u)(e:T x y z u):∃x y z u,P x y z u/\Q x y z u/\R x y z u/\S x y z u/\T x y z u:=⟨x,y,z,u,a,b,c,d,e⟩
end
section
variable{A:Sort i}{B:Sort j}{E:Sort q}{F:Sort M}{G:Sort N}{P Q R S T L V:A->B->E->F->G->Prop}{Z:Prop}(x:A)(y:B)(z:E)(u:F)(v:G)
theorem lB(h:∃x y z u v,P x y z u v/\Q x y z u v/\R x y z u v)(k:∀x y z u v,P x y z u v->Q x y z u v->R x y z u v->Z):Z:=h.elim λx h=>h.elim λy h=>h.elim λz h=>h.elim λu h=>h.elim λv h=>k x y z u v h.1 h.2.1 h.2.2
theorem u8(a:P x y z u v)(b:Q x y z u v)(c:R x y z u v):∃x y z u v,P x y z u v/\Q x y z u v/\R x y z u v:=⟨x,y,z,u,v,a,b,c⟩
theorem OI(a:P x y z u v)(b:Q x y z u v)(c:R x y z u v)(d:S x y z u v)(e:T x y z u v):∃x y z u v,P x y z u v/\Q x y z u v/\R x y z u v/\S x y z u v/\T x y z u v:=⟨x,y,z,u,v,a,b,c,d,e⟩
theorem OJ(a:P x y z u v)(b:Q x y z u v)(c:R x y z u v)(d:S x y z u v)(e:T x y z u v)(f:L x y z u v)(g:V x y z u v):∃x y z u v,P x y z u v/\Q x y z u v/\R x y z u v/\S x y z u v/\T x y z u v/\L x y z u v/\V x y z u v:=⟨x,y,z,u,v,a,b,c,d,e,f,g⟩
end
theorem ba{c:Type i}{a:c}{b:Prop}(h:none=some a):b:=nomatch h
theorem u9{c:Type i}{a:c}{b:Prop}(h:some a=none):b:=nomatch h
theorem c5{a:Prop}(h:true=false):a:=nomatch h
theorem bc{a:Prop}(h:false=true):a:=nomatch h
theorem ju{c:Type i}{a:c}{l:List c}{b:Prop}(h:a::l=[]):b:=nomatch h
theorem L1{l r t u:Nat}(h:l<=r)(e:t+r<=u+l:=by simp+arith only):t<=u:=acR (aE e (jo h u))
theorem L2{l r a r' t u:Nat}(h:l<=r)(b:a<=r')(e:t+(r+r')<=u+(l+a):=by simp+arith only):t<=u:=L1 (gq h b) e
theorem L3{l r d r' a b t u:Nat}(h:l<=r)(f:d<=r')(c:a<=b)(e:t+(r+(r'+b))<=u+(l+(d+a)):=by simp+arith only):t<=u:=L2 h (gq f c) e
theorem L4{l r d r' a b k f t u:Nat}(h:l<=r)(i:d<=r')(c:a<=b)(g:k<=f)(e:t+(r+(r'+(b+f)))<=u+(l+(d+(a+k))):=by simp+arith only):t<=u:=L3 h i (gq c g) e
theorem F1{l r:Nat}(h:l<=r)(e:r+1<=l:=by simp+arith only):False:=Nat.not_succ_le_self _ (aE e h)
theorem F2{l r a r':Nat}(h:l<=r)(b:a<=r')(e:r+r'+1<=l+a:=by simp+arith only):False:=F1 (gq h b) e
@[elab_as_elim] theorem va{c:Sort i}{a b:c}{motive:c->Prop}(e:a=b)(h:motive b):motive a:=e▸h
@[elab_as_elim] theorem rwl{c:Sort i}{a b:c}{motive:c->Prop}(e:a=b)(h:motive a):motive b:=e▸h
theorem J{α:Sort u1}{a:α}:a=a:=rfl
theorem D{p:Prop}[Decidable p](h:decide p=true):p:=of_decide_eq_true h
abbrev bH:List Nat:=[110,101,119]
abbrev dP:List Nat:=[97,115,115,101,114,116,115]
abbrev eV:List Nat:=[116,104,105,115]
abbrev eW:List Nat:=[105,115]
abbrev fc:List Nat:=[111,117,116]
abbrev fN:List Nat:=[114,101,97,100,111,110,108,121]
abbrev fB:List Nat:=[61,62]
abbrev fO:List Nat:=[34,110,101,119,34]
abbrev f5:List Nat:=[105,110]
abbrev f6:List Nat:=[103,101,116]
abbrev gG:List Nat:=[69,46,105,110]
abbrev gv:List Nat:=[115,101,116]
abbrev hN:List Nat:=[46,46,46]
abbrev iS:List Nat:=[101,120,116,101,110,100,115]
abbrev kS:List Nat:=[115,116,114,105,110,103]
abbrev kT:List Nat:=[44,32]
abbrev kz:List Nat:=[58,32]
abbrev qe:List Nat:=[110,117,109,98,101,114]
abbrev ri:List Nat:=[111,102]
abbrev rj:List Nat:=[62,61]
abbrev s7:List Nat:=[97,110,121]
abbrev uY:List Nat:=[35,110,97,109,101]
abbrev uZ:List Nat:=[32,101,120,116,101,110,100,115,32]
abbrev xO:List Nat:=[35,102,117,110,99]
abbrev xP:List Nat:=[117,110,100,101,102,105,110,101,100]
abbrev xQ:List Nat:=[111,98,106,101,99,116]
abbrev xS:List Nat:=[110,101,118,101,114]
abbrev xT:List Nat:=[118,111,105,100]
abbrev xU:List Nat:=[110,117,108,108]
abbrev xV:List Nat:=[115,121,109,98,111,108]
abbrev AQ:List Nat:=[34,92,10,2]
abbrev AR:List Nat:=[97,115,115,101,114,116,115,32]
abbrev AS:List Nat:=[32,105,115,32]
abbrev AT:List Nat:=[105,110,32]
abbrev AU:List Nat:=[111,117,116,32]
abbrev AV:List Nat:=[110,101,119,32]
abbrev AW:List Nat:=[114,101,97,100,111,110,108,121,32]
abbrev AX:List Nat:=[97,98,99,100,101,102,103,104,105,106,107,108,109,110,111,112,113,114,115,116,117,118,119,120,121,122,65,66,67,68,69,70,71,72,73,74,75,76,77,78,79,80,81,82,83,84,85,86,87,88,89,90,48,49,50,51,52,53,54,55,56,57,95,36]
abbrev AY:List Nat:=[98,105,103,105,110,116]
abbrev FS:List Nat:=[117,110,107,110,111,119,110]
abbrev FT:List Nat:=[98,111,111,108,101,97,110]
abbrev Oz:List Nat:=[105,110,32,111,117,116,32]
abbrev OA:List Nat:=[114,101,97,100,111,110,108,121,32,91]
abbrev OB:List Nat:=[34,92,34,92,92,92,110,92,120,48,50,34]
abbrev OC:List Nat:=[117,110,105,113,117,101]
abbrev OD:List Nat:=[97,98,115,116,114,97,99,116]
abbrev aeX:List Nat:=[97,32,110,97,109,101,115,112,97,99,101]
abbrev aeY:List Nat:=[97,110,32,97,99,99,101,115,115,111,114,32,105,110,32,97,32,107,105,110,100]
theorem ax{a b:Prop}(h:a)(k:¬a):b:=absurd h k
theorem aN{c:Prop}{h:Decidable c}(hc:c){α:Sort u1}{t e:α}:ite c t e=t:=if_pos hc
theorem a9{c:Prop}{h:Decidable c}(hnc:¬c){α:Sort u1}{t e:α}:ite c t e=e:=if_neg hnc
theorem bJ{α:Sort u1}{β:Sort u2}{a₁ a₂:α}(f:α→β)(h:a₁=a₂):f a₁=f a₂:=congrArg f h
theorem dH{p:Prop}[inst:Decidable p](h:p):decide p=true:=decide_eq_true h
theorem dO{p:Prop}[inst:Decidable p](h:¬p):decide p=false:=decide_eq_false h
theorem jt{p:Prop}[inst:Decidable p](h:decide p=false):¬p:=of_decide_eq_false h
theorem bk:True:=trivial
local macro_rules
  | `(tactic| rewrite [$e:term]) => `(tactic| first | refine va ($e ..) ?_ | rewrite (config := {}) [$e:term])
  | `(tactic| rewrite [← $e:term]) => `(tactic| first | refine rwl ($e ..) ?_ | rewrite (config := {}) [← $e:term])
  | `(tactic| rw [$r:rwRule, $rs:rwRule,*]) => `(tactic| (rewrite [$r]; rw [$rs,*]))
theorem dn{P:Prop}(h:¬P->False):P:=M8 h
noncomputable abbrev At:=List Nat
noncomputable def At.bO:At:=[107,105,100,115]
noncomputable def At.q:At:=[97,112,112,101,110,100]
noncomputable def At.hO:At:=[112,111,112]
noncomputable def At.aq:At:=[107,105,110,100]
noncomputable def At.a_:At:=[97]
noncomputable def At.jW:At:=[106,111,105,110]
noncomputable def At.cj:At:=[102,108,97,103,115]
noncomputable def At.cN:At:=f6
noncomputable def At.aP:At:=[116,101,120,116]
noncomputable def At.aJ:At:=[97,116]
noncomputable def At.jv:At:=[101,110,100]
noncomputable def At.kA:At:=[110,117,109]
noncomputable def At.gT:At:=[112,97,114,116,115]
noncomputable def At.fY:At:=[116,121,112,101,115]
noncomputable def At.i:At:=[110,111,119]
noncomputable def At.dU:At:=[100,105,97,103,115]
noncomputable def At.lC:At:=[114,111,119,115]
noncomputable def At.bS:At:=[100,101,101,112]
noncomputable def At.oG:At:=qe
noncomputable def At.rm:At:=[102,105,108,101]
noncomputable def At.iz:At:=[116,111,107,101,110,115]
noncomputable def At.qg:At:=[102,105,114,115,116,115]
noncomputable def At.qh:At:=[116,97,105,108,115]
noncomputable def At.rn:At:=[112,101,110,100,105,110,103]
noncomputable def At.lD:At:=[97,108,108,111,119,95,105,110]
noncomputable def At.rq:At:=[105,110,95,102,117,110,99]
noncomputable def At.rt:At:=[105,110,95,108,111,111,112]
noncomputable def At.s8:At:=[105,110,95,115,119,105,116,99,104]
noncomputable def At.s9:At:=[108,97,98,101,108,115]
noncomputable def At.hQ:At:=[110,111,95,99,111,110,100]
noncomputable def At.tb:At:=[114,101,116,95,98,97,114]
noncomputable def At.vb:At:=[105,110,95,108,105,116,101,114,97,108]
noncomputable def At.vc:At:=[99,111,118,101,114,115]
noncomputable def At.vd:At:=[99,111,109,109,97,115]
noncomputable def At.ve:At:=[110,111,116,95,97,114,114,111,119]
noncomputable def At.tc:At:=[115,112,108,105,116,115]
noncomputable def At.x0:At:=[115,97,118,101,100]
noncomputable def At.b8:At:=[102,97,117,108,116]
noncomputable def At.j:At:=[115,116,101,112]
noncomputable def At.FY:At:=[102,97,117,108,116,95,97,116]
noncomputable def At.gx:At:=[112,117,116]
noncomputable def At.m3:At:=[108,105,110,101,95,98,101,102,111,114,101]
noncomputable def At.y:At:=[101,97,116,95,115,105,103,110]
noncomputable def At.FZ:At:=[99,97,110,95,101,110,100]
noncomputable def At.F0:At:=[100,111,119,110]
noncomputable def At.x4:At:=[112,97,114,115,101]
noncomputable def At.up:At:=[117,112]
noncomputable def At.fZ:At:=[105,115,95,115,105,103,110]
noncomputable def At.iV:At:=[110,101,101,100,95,115,105,103,110]
noncomputable def At.u:At:=[97,104,101,97,100]
noncomputable def At.fC:At:=[116,97,107,101]
noncomputable def At.td:At:=[105,115,95,119,111,114,100]
noncomputable def At.be:At:=[112,97,114,116]
noncomputable def At.mq:At:=[105,115,95,110,97,109,101]
noncomputable def At.vf:At:=[110,101,101,100,95,110,97,109,101]
noncomputable def At.A7:At:=[109,101,109,98,101,114,95,110,97,109,101]
noncomputable def At.OK:At:=[109,97,114,107]
noncomputable def At.rv:At:=[98,97,99,107]
noncomputable def At.x5:At:=[101,110,100,95,115,116,97,116,101,109,101,110,116]
noncomputable def At.A8:At:=[112,114,111,112,95,110,97,109,101]
noncomputable def At.te:At:=[101,97,116,95,119,111,114,100]
noncomputable def At.A9:At:=[101,97,116,95,110,97,109,101]
noncomputable def At.x6:At:=[110,105,100]
noncomputable def At.Ba:At:=[97,114,103,115]
inductive eX where
 |u|j|vg|q|i|vh|vi|vj|y|tg|ti|tj
 deriving DecidableEq
noncomputable abbrev Fn:=Nat
noncomputable def Fn.j:Fn:=1118
noncomputable def Fn.c6:Fn:=49
noncomputable def Fn.aK:Fn:=56
noncomputable def Fn.i:Fn:=63
noncomputable def Fn.gI:Fn:=649
inductive V where
 |none|i (b:Bool)|aa (i:Int)|ah (s:List Nat)
 |u (xs:List V)|af (xs:List V)|aQ (c:eX) (fs:List (At×V))|dct (es:List (V×V))|ae (a:Nat)
inductive rk where
 |i (i:Nat)|j (v:V)
inductive f7 where|i|ez|j|q|y|u|ry
inductive qf where|eq|ne|lt|gt|ge|le|i|q|j|u
inductive Bi where|bK|ah|aa|i|j
set_option genCtorIdx false in
inductive E where
 |c (v:V)|qi (n:Nat)|l (i:Nat)
 |q (e:E) (a:At)|y (e i:E)|slc (e lo hi:E)
 |bI (o:f7) (a b:E)|b9 (o:qf) (a b:E)
 |bN (a b:E)|or (a b:E)|cB (e:E)|bz (t a b:E)
 |ao (f:Fn) (as:List E)|ce (c:eX) (as:List E)|bi (b:Bi) (as:List E)
 |aO (e:E) (m:At) (as:List E)
 |u (es:List E)|af (es:List E)|dct (ks vs:List E)
 |i (elt:E) (x:Nat) (it:E)|lE (elt:E) (x:Nat) (n:E)
 |j
set_option genCtorIdx false in
inductive S where
 |i (i:Nat) (e:E)|cP (o:E) (a:At) (e:E)|iW (is:List Nat) (e:E)
 |db (i:Nat) (op:f7) (e:E)|oW (o:E) (a:At) (op:f7) (e:E)
 |ex (e:E)|bQ (t:E) (a b:List S)|gJ (t:E) (b:List S)
 |y (i:Nat) (e:E) (b:List S)|jw (i:Nat) (e:E) (b:List S)
 |am (e:E)|u|q|Bb|x7 (e:E)
 |m4 (i:Nat) (e:E) (h:List S)|m5 (e:E) (h:List S)
 |j
inductive b4 where
 |af (xs:List V)|aQ (c:eX) (fs:List (At×V))|i
noncomputable abbrev Hp:=List b4
inductive R(α:Type) where
 |ok (a:α) (H:Hp)|q (H:Hp)|j
noncomputable def R.i{b c:Type}(r:R b)(f:b->Hp->R c):R c:=match r with
 |.ok a H=>f a H
 |.q H=>.q H
 |.j=>.j
inductive Fl where
 |aU|u|q|am (v:V)
noncomputable abbrev Lc:=List<|Option V
noncomputable abbrev ar(n:Int):E:=.c<|.aa n
noncomputable abbrev al(x:List Nat):E:=.c<|.ah x
noncomputable abbrev aG:=E.aO<|.l 0
noncomputable abbrev a7:=E.q<|.l 0
noncomputable abbrev aT(t:E)(a:List S):S:=.bQ t a []
noncomputable abbrev bq:=ar 0
noncomputable abbrev bM:=ar 1
noncomputable abbrev dI:=ar 2
noncomputable abbrev aI:=E.l 0
noncomputable abbrev aC:=E.l 1
noncomputable abbrev a8:=E.l 2
noncomputable abbrev bp:=E.l 3
noncomputable abbrev ci:=E.l 4
noncomputable abbrev cO:=E.l 5
noncomputable abbrev fP:=E.l 6
noncomputable abbrev kB:=E.l 7
noncomputable abbrev ms:=E.l 8
noncomputable abbrev tm:=E.l 9
noncomputable abbrev vk:=E.l 10
noncomputable abbrev Bc:=E.l 11
noncomputable abbrev F3:=E.l 12
noncomputable abbrev Bf:=E.l 13
noncomputable abbrev eI:=E.bI .y
noncomputable abbrev bV:=E.bI .i
noncomputable abbrev gy:=E.bi .bK
noncomputable abbrev kU:=E.bI .q
noncomputable abbrev nb:=E.bI .j
noncomputable abbrev jX:=E.b9 .j
noncomputable abbrev kW:=E.b9 .gt
noncomputable abbrev bt:=E.b9 .eq
noncomputable abbrev qj:=E.b9 .lt
noncomputable abbrev gz:=E.b9 .ne
noncomputable abbrev gU:=E.b9 .i
noncomputable abbrev tq:=E.b9 .q
noncomputable def lF:List S:=[.i 1 (.i (eI F3<|ar 1000000007) 12<|.slc aI (.c .none)<|ar 9),.i 1 (bV aC<|.slc (.af [ar 1160,ar 6,ar 4]) (gy [aC])<|.c .none),.i 2 (.ao 1087 [aC]),.i 3 (.bi .j [aC]),.i 4 (.ao 70 [.lE (.ao 1075 [bV (kU bp<|ar 3) (nb (ar 12347) Bf),.y a8 Bf]) 13 (gy [a8]),bq]),.i 5 (.dct [bM,ar 9,ar 11] [.ce .vh [],.ce .vi [],.ce .vj []]),.i 6 (.dct [al uY,al [40],al [123],al xO] [.ce .y [],.ce .tg [],.ce .ti [],.ce .tj []]),.i 7 (.ao 1028 [.ao 1021 [.ao .aK [ar 88,al [],.q ci .bO,bq]]]),.i 8 (.af []),.i 9 (.ao 1094 [cO,fP,kB]),aT (.or (jX tm<|.c .none)<|.cB<|.ao 1101 [ci,tm,ms]) [.am (.c<|.i C)],aT (kW (gy [ms]) bq) [.i 11 (.ao 1094 [cO,fP,.ao 1108 [kB,.y ms (eI bp<|gy [ms])]]),aT (.bN (.b9 .u Bc<|.c .none)<|.ao 1101 [ci,Bc,.af []]) [.am (.c<|.i C)]],.i 10 (.ao 1094 [cO,fP,.ao 1035 [kB,bV bM (eI bp dI)]]),aT (.or (jX vk<|.c .none)<|.cB<|.ao 1101 [ci,vk,.af []]) [.am (.c<|.i C)],.am (.ao 1113 [cO,fP,bp])]
noncomputable def F4:List S:=[.i 1 (.af []),.i 2 (.af []),.y 3 aI [.i 4 (eI bp<|ar 10),.i 5 (kU bp<|ar 10),.i 6 (.y (.u [bq,eI cO (ar 3),bV dI (eI cO dI),dI,bM,eI cO (ar 4),bM,bM,bM,bM]) ci),.i 7 (.af []),.i 8 bq,.jw 9 fP [.iW [11,12] (.ao 1082 [aC,a8]),.ex (.aO kB .q [Bc]),.i 8 (.bi .i [ms,F3])],.bQ (bt ci bq) [.i 10 (.ao .c6 [ar 80,.y (.u [al s7,al xP,al xQ,al xS]) (eI cO<|ar 4),bq])] [.bQ (bt ci bM) [.i 10 (.ao .aK [ar 81,.y (.u [al [66],al gG,al eW,al ri]) (eI (kU cO<|ar 3)<|ar 4),kB,bq])] [.bQ (.or (bt ci<|ar 5)<|bt ci<|ar 9) [.i 10 (.ao .aK [ar 88,al [],.lE (.ao 1075 [kU cO (bV dI<|nb (ar 3) tm),.y kB tm]) 9 fP,bq])] [.bQ (.or (bt ci<|ar 6)<|bt ci<|ar 7) [.i 10 (.ao 1068 [al [],bV (ar 2048) (nb (ar 1024)<|eI ci dI),cO,.y kB bq])] [.i 10 (.ao .aK [.bz (qj ci<|ar 8) (.y (.u [ar 83,ar 84,ar 85])<|.bI .ez ci dI) (ar 98),al [],kB,bq])]]]],.ex (.aO aC .q [.u [vk,bV ms bM]])],.am (bV a8<|.i (.y Bf bq) 13 aC)]
noncomputable def F5:List S:=[aT (kW (gy [aI]) bq) [.iW [2,3] (aG .hO []),aT (qj bp<|ar 3) [.am (.u [a8,bp])],.ex (.aO aC .q [a8])],.am (.u [.ao 1042 [al [65]],bM])]
noncomputable def OM:List S:=[.i 2 (.y (.c<|.u [.ah [97],.ah fN,.ah bH,.ah f6,.ah gv,.ah eW,.ah [97,45,98],.ah [],.ah [48],.ah [48,55],.ah [49,101,51],.ah f5,.ah AQ,.ah fc,.ah [52,50],.ah [36,95]])<|eI (kU aI<|ar 6)<|ar 16),.i 3 (kU aI<|ar 96),aT (qj (eI aI<|ar 6) dI) [.i 4 (bV (nb (ar 4096)<|eI bp dI)<|nb (ar 131072)<|eI (kU bp dI) dI),.am (.ao .i [ar 99,a8,.af [.bz (bt (eI (kU bp<|ar 4)<|ar 4) bq) (.c .none) aC],ci,bq])],aT (bt (eI aI<|ar 6) dI) [.am (.ao 1068 [a8,bV (ar 32) (nb (ar 4096)<|eI bp dI),kU bp dI,aC])],aT (bt (eI aI<|ar 6)<|ar 3) [.am (.ao 1068 [al [],ar 512,bp,aC])],aT (bt (eI aI<|ar 6)<|ar 4) [.am (.ao 1068 [al [],ar 1024,bp,aC])],.am (.ao .i [ar 63,.y (.u [al [107],al fN]) (eI (kU bp dI) dI),.af [.ao .c6 [ar 80,al kS,bq],aC],nb (ar 131072) (eI bp dI),bq])]
noncomputable def F6:List S:=[.i 4 (.lE (eI (kU a8<|.bI .ry (ar 7) ms)<|ar 7) 8<|ar 7),.i 5 (.af [bp]),.i 6 (.ao 1049 [.y ci bq,.y (.u [al [84],al fc,al [85,50]]) (eI (.y ci<|ar 6)<|ar 3),cO]),.i 7 (.ao 1056 [ci,cO]),.am (.ao .i [ar 27,aI,.af [fP,kB,.ao 1063 [.y ci (ar 5),aC,cO],.c .none],aC,bq])]
noncomputable def F7:List S:=[.i 3 (.bz (kW (gy [a8]) bq) (.aO a8 .hO [])<|.ao 1042 [al [65]]),aT (.bN (bt aI bM)<|qj (eI aC<|nb dI<|ar 2048)<|ar 2048) [.am (.c .none)],aT (bt aI<|ar 3) [.am (.ao .aK [ar 96,al [120],.af [bp],bq])],aT (bt aI<|ar 4) [.am (.ao .i [ar 96,al dP,.af [.c .none],ar 16777216,bq])],aT (bt aI<|ar 5) [.am (.ao .i [ar 96,al eV,.af [bp],ar 16777216,bq])],aT (bt aI<|ar 6) [.am (.ao .aK [ar 96,al dP,.af [bp],bq])],.am bp]
noncomputable def ON:List S:=[.i 2 (.af []),.i 3 (.c<|.i C),.i 4 (eI (.y aI bM)<|ar 4),.jw 5 ci [.i 6 (.y aI<|bV dI cO),.i 7 (.bz (.or bp<|.or (bt fP bM)<|bt fP<|ar 5) (ar 4096) bq),aT (.bN (bt fP<|ar 3)<|bt cO<|.bI .ez ci bM) [.i 7 (ar 8192)],.i 3 (.or bp<|bt kB<|ar 4096),.i 8 (.y (.u [al [120],al eW,al dP,al fN,al [121],al ri,al [36,49]])<|eI (bV (.y aI<|ar 6)<|nb dI cO)<|ar 7),aT (.bN (bt fP<|ar 4)<|bt cO bq) [.i 8 (al eV)],.i 9 (.c .none),aT (.bN (gz fP dI)<|gz fP<|ar 5) [.i 9 (.ao .c6 [ar 80,al qe,bq]),aT (.bN (gz fP<|ar 6)<|kW (gy [aC]) bq) [.i 9 (.aO aC .hO [])]],.ex (.aO a8 .q [.ao .i [ar 28,al [],.af [.ao .c6 [ar 8,ms,bq],tm,.c .none],kB,bq]])],.am (.ao 70 [a8,bq])]
noncomputable def F8:List S:=[aT (qj aI<|ar 4) [.am (.c .none)],aT (bt aI<|ar 4) [.am (.ao 70 [.af [.ao .i [ar 100,aC,.af [.c .none,.c .none],ar 536870912,bq]],bq])],.i 3 (.bz (kW (gy [a8]) bq) (.aO a8 .hO [])<|.ao 1042 [al [65]]),aT (bt aI<|ar 5) [.am (.ao 70 [.af [.ao .i [ar 100,aC,.af [bp,.c .none],bq,bq]],bq])],.i 4 (.ao .i [ar 100,al fc,.af [.ao 1042 [al [84]],bp],ar 805306368,bq]),.am (.ao 70 [.af [.ao .i [ar 100,aC,.af [.c .none,.c .none],ar 268435456,bq],ci],bq])]
noncomputable def OO:List S:=[.am (.ao .aK [ar 81,aI,.af [],bq])]
noncomputable def OP:List S:=[.i 1 (a7 .aq),aT (.or (bt aC<|ar 80)<|bt aC<|ar 8) [.am (a7 .a_)],aT (bt aC<|ar 81) [.am (.bz (bt (gy [a7 .bO]) bq) (a7 .a_)<|bV (bV (bV (a7 .a_)<|al [60])<|.ao 1002 [a7 .bO,al kT])<|al [62])],aT (bt aC<|ar 83) [.am (.aO (al [32,124,32]) .jW [.i (.ao 1009 [cO,.u [ar 27,ar 83]]) 5 (a7 .bO)])],aT (bt aC<|ar 84) [.am (.aO (al [32,38,32]) .jW [.i (.ao 1009 [cO,.u [ar 27,ar 83,ar 84]]) 5 (a7 .bO)])],aT (bt aC<|ar 85) [.am (bV (.ao 1009 [.y (a7 .bO) bq,.u [ar 27,ar 83,ar 84]])<|al [91,93])],aT (bt aC<|ar 98) [.am (bV (bV (al [40])<|.ao 1021 [.y (a7 .bO) bq])<|al [41])],aT (bt aC<|ar 88) [.am (.bz (bt (gy [a7 .bO]) bq) (al [123,125])<|bV (bV (al [123,32])<|.ao 1002 [a7 .bO,al [59,32]])<|al [32,125])],aT (bt aC<|ar 96) [.i 3 (.bz (bt (a7 .cj)<|ar 16777216) (bV (al AR)<|a7 .a_)<|a7 .a_),.am (.bz (jX (.y (a7 .bO) bq)<|.c .none) bp<|bV (bV bp<|al AS)<|.ao 1021 [.y (a7 .bO) bq])],aT (bt aC<|ar 100) [.i 3 (bV (.y (.dct [bq,ar 268435456,ar 536870912,ar 805306368] [al [],al AT,al AU,al Oz])<|a7 .cj)<|a7 .a_),.db 3 .i (.bz (jX (.y (a7 .bO) bq)<|.c .none) (al [])<|bV (al uZ)<|.ao 1021 [.y (a7 .bO) bq]),.am (.bz (jX (.y (a7 .bO) bM)<|.c .none) bp<|bV (bV bp<|al [32,61,32])<|.ao 1021 [.y (a7 .bO) bM])],aT (bt aC<|ar 63) [.i 3 (.bz (bt (a7 .cj)<|ar 131072) (al OA)<|al [91]),.am (bV (bV (bV (bV (bV bp<|a7 .a_)<|al kz)<|.ao 1021 [.y (a7 .bO) bq])<|al [93,58,32])<|.ao 1021 [.y (a7 .bO) bM])],aT (.bN (bt aC<|ar 27)<|.b9 .ge (eI (a7 .cj)<|nb dI<|ar 2048)<|ar 2048) [.am (bV (.bz (bt (a7 .cj)<|ar 2048) (al [])<|al AV)<|.ao 1016 [aI,al [32,61,62,32]])],aT (.bN (bt aC<|ar 27)<|gU (a7 .cj)<|.u [ar 512,ar 1024]) [.am (bV (.bz (bt (a7 .cj)<|ar 512) (al [])<|al AV)<|.ao 1016 [aI,al kz])],.i 2 (.bz (bt (eI (kU (a7 .cj)<|ar 4096) dI) bM) (al [63])<|al []),aT (bt aC<|ar 27) [.i 4 (.bz (bt (a7 .a_)<|al bH) (al fO)<|.ao 997 [a7 .a_]),.am (bV (bV ci a8)<|.ao 1016 [aI,al kz])],aT (bt aC<|ar 28) [.i 3 (bV (bV (.bz (bt (a7 .cj)<|ar 8192) (al hN)<|al [])<|.q (.y (a7 .bO) bq) .a_) a8),.am (.bz (jX (.y (a7 .bO) bM)<|.c .none) bp<|bV (bV bp<|al kz)<|.ao 1021 [.y (a7 .bO) bM])],.i 3 (bV (bV (.bz (bt (eI (kU (a7 .cj)<|ar 131072) dI) bM) (al AW)<|al [])<|.ao 997 [a7 .a_]) a8),.am (.bz (jX (.y (a7 .bO) bq)<|.c .none) bp<|bV (bV bp<|al kz)<|.ao 1021 [.y (a7 .bO) bq])]
noncomputable def F9:List S:=[.iW [3,4,5,6] (a7 .bO),.i 2 (.bz (jX bp<|.c .none) (al [])<|bV (bV (al [60])<|.ao 1002 [.q bp .bO,al kT])<|al [62]),.db 2 .i (bV (bV (al [40])<|.ao 1002 [.q ci .bO,al kT])<|al [41]),.am (.bz (jX cO<|.c .none) a8<|bV (bV a8 aC)<|.ao 1021 [cO])]
noncomputable def OQ:List S:=[.i 2 (.ao 1021 [aI]),.am (.bz (gU (a7 .aq) aC) (bV (bV (al [40]) a8)<|al [41]) a8)]
noncomputable def OR:List S:=[.am (.aO aC .jW [.i (.ao 1021 [a8]) 2 aI])]
noncomputable def Bg:List S:=[aT (gU aI<|.u [al [97],al fN,al bH,al f6,al gv,al eW,al [48],al f5,al fc,al [52,50],al [36,95]]) [.am aI],.am (.aO (.dct [al [],al AQ] [al [34,34],al OB]) .cN [aI,bV (bV (al [34]) aI) (al [34])])]
noncomputable def Ga:List S:=[.i 1 (.af []),.i 2 bq,.gJ (qj a8<|gy [aI]) [.i 3 a8,.i 4 (.y aI a8),.db 2 .i bM,aT (bt ci<|al [32]) [.q],.bQ (gU ci<|al AX) [.gJ (.bN (qj a8<|gy [aI])<|gU (.y aI a8)<|al AX) [.db 2 .i bM],.i 5 (.slc aI bp a8),.bQ (gU ci<|al [48,49,50,51,52,53,54,55,56,57]) [.ex (.aO aC .q [.ce .j [ar 3,cO,.bi .aa [cO],bp,a8,.c (.i C)]])] [.ex (.aO aC .q [.ce .j [.bz (gU cO<|.c<|.u [.ah iS,.ah xT,.ah xU,.ah f5,.ah bH,.ah eV]) dI bM,cO,bq,bp,a8,.c (.i C)]])]] [.bQ (bt ci<|al [34]) [.i 6 (al []),.gJ (gz (.y aI a8)<|al [34]) [.bQ (bt (.y aI a8)<|al [92]) [.db 2 .i bM,.bQ (bt (.slc aI a8<|bV a8<|ar 3)<|al [120,48,50]) [.db 6 .i (al [2]),.db 2 .i (ar 3)] [.db 6 .i (.bz (bt (.y aI a8)<|al [110]) (al [10])<|.y aI a8),.db 2 .i bM]] [.db 6 .i (.y aI a8),.db 2 .i bM]],.db 2 .i bM,.ex (.aO aC .q [.ce .j [ar 4,fP,bq,bp,a8,.c (.i C)]])] [.bQ (bt (.slc aI bp<|bV bp<|ar 3)<|al hN) [.i 2 (bV bp<|ar 3)] [aT (bt (.slc aI bp<|bV bp dI)<|al fB) [.i 2 (bV bp dI)]],.ex (.aO aC .q [.ce .j [ar 5,.slc aI bp a8,bq,bp,a8,.c (.i C)]])]]],.ex (.aO aC .q [.ce .j [bq,al [],bq,a8,a8,.c (.i C)]]),.am aC]
noncomputable def Gb:List S:=[.i 2 (.af []),.i 3 (.c<|.i C),.jw 4 (gy [aI]) [.i 5 (.y aI ci),aT (.bN (bt (.q cO .aq)<|ar 5)<|.bN (bt (.q cO .aP)<|al [59])<|kW aC bq) [aT (bt aC bM) [.ex (.aO a8 .q [.ce .j [ar 5,al [44],bq,.q cO .aJ,.q cO .jv,.c (.i C)]]),.q],.i 6 (.bN (bt (.q (.y aI<|bV ci bM) .aq)<|ar 5)<|gU (.q (.y aI<|bV ci bM) .aP)<|.u [al [40],al [60]]),.i 7 (tq (.q (.y aI<|.bI .ez ci bM) .aP)<|.u [al f6,al gv]),aT (.bN (.cB fP)<|.bN kB<|.or (gz (.q (.y aI<|.bI .ez ci bM) .aP)<|al dP)<|gz (.q (.y aI<|bV ci bM) .aP)<|al eW) [.i 3 (.c<|.i I),.q]],.ex (.aO a8 .q [.ce .j [.q cO .aq,.q cO .aP,.q cO .kA,.q cO .aJ,.q cO .jv,bp]]),.i 3 (.c<|.i C)],.am a8]
noncomputable def Gc:List S:=[.i 2 (.af []),.i 3 bq,.y 4 aI [aT (.bN (bt (.q ci .aq)<|ar 5)<|bt (.q ci .aP)<|al [41]) [.db 3 .ez bM,aT (bt bp bq) [.i 3 (ar 99),.q]],aT (bt (.q ci .aJ) aC) [.i 3 bM,.q],aT (.bN (kW bp bq)<|.bN (bt (.q ci .aq)<|ar 5)<|bt (.q ci .aP)<|al [40]) [.db 3 .i bM],.ex (.aO a8 .q [ci])],.am a8]
noncomputable def rz:List S:=[aT (.or (jX aI<|.c .none)<|jX aC<|.c .none) [.am (.bN (jX aI<|.c .none)<|jX aC<|.c .none)],aT (.bN (bt (.q aC .aq)<|ar 98)<|gz (a7 .aq)<|ar 98) [.ex (.aO a8 .q [.q aC .aJ]),.i 1 (.y (.q aC .bO) bq)],aT (.or (gz (a7 .aq)<|.q aC .aq)<|.or (gz (a7 .a_)<|.q aC .a_)<|.or (gz (a7 .cj)<|.q aC .cj)<|gz (gy [a7 .bO])<|gy [.q aC .bO]) [.am (.c<|.i C)],.jw 3 (gy [a7 .bO]) [aT (.bN (bt (a7 .aq)<|ar 98)<|gz (.q (.y (a7 .bO) bp) .aq)<|.q (.y (.q aC .bO) bp) .aq) [.am (.c<|.i C)],aT (.cB<|.ao 1101 [.y (a7 .bO) bp,.y (.q aC .bO) bp,a8]) [.am (.c<|.i C)]],.am (.c<|.i I)]
noncomputable def Bh:List S:=[.i 3 (.ce .i [a8,.ce .q []]),.cP bp .gT aI,.cP bp .fY aC,.m4 4 (.ao 824 [bp]) [.am (.c .none)],aT (.or (gz (.q (.aO bp .i []) .aq) bq)<|.or (kW (gy [.q (.q bp .dU) .lC]) bq)<|gz (.q bp .bS) bq) [.am (.c .none)],.am ci]
noncomputable def x8:List S:=[.iW [7,8] (.y (.u [.u [.u [al [123],al f6,al [47],al [97],al [125]],.af [ar 9002]],.u [.u [al [123],al gv,al [97],al [125]],.af [ar 9002]],.u [.u [al [123],al [109],al [40],al hN,al [120],al [44],al [41],al [125]],.af [ar 1014]],.u [.u [al [123],al [109],al [40],al [120],al [63],al [44],al [121],al [41],al [125]],.af [ar 1016]],.u [.u [al [123],al [109],al [40],al [120],al [44],al eV,al [41],al [125]],.af [ar 2680]],.u [.u [al [123],al [97],al [98],al [125]],.af [ar 1005]],.u [.u [al [123],al [109],al [60],al s7,al [62],al [40],al [41],al [125]],.af [ar 2368]],.u [.u [al [123],al [40],al hN,al [120],al [63],al [41],al [125]],.af [ar 1005]],.u [.u [al [123],al [109],al [40],al [120],al [63],al [44],al hN,al [121],al [44],al [41],al [125]],.af [ar 1014]],.u [.u [al [123],al [63],al [125]],.af [ar 1003]]])<|eI a8<|ar 10),.i 3 (.af []),.i 4 (.c<|.i C),.y 5 kB [aT (bt cO<|al [47]) [.i 4 (.c<|.i I),.q],.i 9 (ar 5),aT (gU (.y cO bq)<|al AX) [.i 9 (.bz (gU cO<|.c<|.u [.ah iS,.ah xT,.ah xU,.ah f5,.ah bH,.ah eV]) dI bM)],.ex (.aO bp .q [.ce .j [tm,cO,bq,gy [bp],gy [bp],ci]]),.i 4 (.c<|.i C)],.ex (.aO bp .q [.ce .j [bq,al [],bq,ar 99,ar 99,.c (.i C)]]),.i 6 (.ce .i [bp,.ce .q []]),.cP fP .gT aI,.cP fP .fY aC,.m5 (.ao 824 [fP]) [.am (.bN (bt (.i (.q vk .oG) 10<|.q (.q fP .dU) .lC) ms)<|gU (.y ms bq)<|.u [ar 9002,ar 1005,ar 1003])],.am (.bN (bt (.i (.q vk .oG) 10<|.q (.q fP .dU) .lC) ms)<|bt (.q (.aO fP .i []) .aq) bq)]
noncomputable def OS:List S:=[.am (.ce .u [aI,aC,.af [],bq,a8])]
noncomputable def OT:List S:=[.am (.ce .u [aI,aC,a8,bq,bp])]
noncomputable def OU:List S:=[.am (.ce .u [aI,aC,a8,bp,ci])]
noncomputable def OV:List S:=[.am (.ce .u [ar 71,al [],aI,bq,aC])]
noncomputable def OY:List S:=[.cP aI .lC (.af []),.cP aI .rm aC]
noncomputable def OZ:List S:=[.ex (.aO (a7 .lC) .q [.ce .vg [aC,a8,bp,a7 .rm]])]
noncomputable def O0:List S:=[.cP aI .iz (.slc aC (.c .none)<|.c .none),.cP aI .aJ bq,.cP aI .dU a8,.cP aI .gT (.dct [] []),.cP aI .qg (.dct [] []),.cP aI .qh (.dct [] []),.cP aI .fY (.dct [] []),.cP aI .bS bq,.cP aI .rn (.u [al [],bq,bq]),.cP aI .lD (.c<|.i I),.cP aI .rq bq,.cP aI .rt bq,.cP aI .s8 bq,.cP aI .s9 (.af []),.cP aI .hQ (.c<|.i C),.cP aI .tb (.c<|.i C),.cP aI .vb bq,.cP aI .vc (.af []),.cP aI .vd (.dct [] []),.cP aI .ve (.dct [] []),.cP aI .tc (.af []),.cP aI .x0 (.af [])]
noncomputable def O1:List S:=[.am (.y (a7 .iz)<|a7 .aJ)]
noncomputable def O2:List S:=[.i 2 (bV (a7 .aJ) aC),aT (.b9 .ge a8<|gy [a7 .iz]) [.i 2 (.bI .ez (gy [a7 .iz]) bM)],.am (.y (a7 .iz) a8)]
noncomputable def O3:List S:=[.i 1 (.y (a7 .iz)<|a7 .aJ),aT (gz (.q aC .aq) bq) [.oW aI .aJ .i bM],.am aC]
noncomputable def O4:List S:=[.am (.ao 502 [.y (a7 .iz) (a7 .aJ),ar 5,aC])]
noncomputable def O5:List S:=[.am (.ao 502 [.y (a7 .iz) (a7 .aJ),dI,aC])]
noncomputable def O6:List S:=[.am (.ao 502 [.y (a7 .iz) (a7 .aJ),bM,aC])]
noncomputable def O7:List S:=[.am (.ao 523 [aI,ar 5,aC])]
noncomputable def O8:List S:=[.am (.ao 523 [aI,dI,aC])]
noncomputable def O9:List S:=[.am (.ao 523 [aI,bM,aC])]
noncomputable def Pa:List S:=[aT (.cB<|.ao 523 [aI,ar 5,aC]) [.ex (aG .b8 [ar 1005,.u [aC]])]]
noncomputable def Pb:List S:=[aT (gz (.q (aG .i []) .aq) bM) [.ex (aG .b8 [ar 1003,.u []])],.am (.q (aG .j []) .aP)]
noncomputable def Pd:List S:=[.am (.ao 551 [aI])]
noncomputable def Pe:List S:=[.am (.ao 558 [aI])]
noncomputable def Pf:List S:=[.ex (aG .FY [aC,.q (aG .i []) .aJ,a8])]
noncomputable def Pg:List S:=[.ex (.aO (a7 .dU) .gx [aC,a8,bp]),.x7 aC]
noncomputable def Ph:List S:=[.i 1 (aG .i []),aT (.or (bt (.q aC .aq) bq)<|.q aC .m3) [.am (.c<|.i I)],.am (.bN (bt (.q aC .aq)<|ar 5)<|.or (bt (.q aC .aP)<|al [59])<|bt (.q aC .aP)<|al [125])]
noncomputable def Pj:List S:=[aT (.bN (.cB<|aG .y [al [59]])<|.cB<|aG .FZ []) [.ex (aG .b8 [ar 1005,.u [al [59]]])]]
noncomputable def Pk:List S:=[.oW aI .bS .i bM,aT (kW (a7 .bS)<|ar 40) [.ex (.aO (a7 .dU) .gx [ar 9001,.q (aG .i []) .aJ,.u []]),.j]]
noncomputable def Pm:List S:=[.oW aI .bS .ez bM]
noncomputable def Pn:List S:=[aT (tq aC<|a7 .gT) [.j],.ex (aG .F0 []),.bQ (gU aC<|.c<|.u [.aa 3,.aa 4,.aa 5,.aa 6]) [.i 2 .j] [.i 2 (.aO (.y (a7 .gT) aC) .x4 [aI])],aT (bt (a7 .bS) bM) [.ex (.ao 516 [aI,a8])],.ex (aG .up []),.am a8]
noncomputable def Pp:List S:=[aT (kW aC<|ar 60) [.ex (.aO (a7 .dU) .gx [ar 9001,.q (aG .i []) .aJ,.u []]),.j]]
noncomputable def Gd:List S:=[.i 2 (.af [.u [aC,bM]]),.gJ a8 [.iW [4,5] (.aO a8 .hO []),aT (jX ci<|.c .none) [.q],aT (kW cO<|ar 160) [.ex (.aO (a7 .dU) .gx [ar 9001,.q ci .aJ,.u []]),.j],.y 3 (.q ci .bO) [.ex (.aO a8 .q [.u [bp,bV cO bM]])]]]
noncomputable def Pq:List S:=[.am (.bN (bt (a7 .aq) aC)<|bt (a7 .aP) a8)]
noncomputable def Pr:List S:=[aT (.cB<|.ao 502 [aG .i [],aC,a8]) [.am (.c<|.i C)],.ex (aG .j []),.am (.c<|.i I)]
noncomputable def Pu:List S:=[.am (gU (a7 .aq)<|.u [bM,dI,ar 4,ar 3])]
noncomputable def Pw:List S:=[.am (.or (.ao 530 [aI])<|.ao 502 [aI,ar 5,al [91]])]
noncomputable def Py:List S:=[aT (.ao 530 [aG .i []]) [.am (.q (aG .j []) .aP)],aT (.cB<|aG .fZ [al [91]]) [.ex (aG .b8 [ar 1003,.u []])],aT (.cB .j) [.ex (aG .b8 [ar 9002,.u [al [97,32,99,111,109,112,117,116,101,100,32,110,97,109,101]]])],.ex (aG .j []),.i 1 (.q (aG .j []) .aP),.ex (aG .j []),.am aC]
noncomputable def Pz:List S:=[aT (.bN (gz (.q (aG .i []) .aq) bM)<|gz (.q (aG .i []) .aq) dI) [.ex (aG .b8 [ar 1003,.u []])],.am (.q (aG .j []) .aP)]
noncomputable def PB:List S:=[aT (.or (bt (a7 .aq)<|ar 5)<|bt (a7 .aq) dI) [.am (a7 .aP)],aT (bt (a7 .aq) bM) [.am (al uY)],aT (bt (a7 .aq)<|ar 3) [.am (al [35,110,117,109])],aT (bt (a7 .aq)<|ar 4) [.am (al [35,115,116,114])],aT (.or (bt (a7 .aq)<|ar 6)<|bt (a7 .aq)<|ar 7) [.am (al [35,116,112,108])],.am (al [])]
noncomputable def PC:List S:=[.i 1 (aG .i []),aT (.cB<|.ao 502 [aC,ar 5,al rj]) [.ex (aG .iV [al [62]]),.am (.c .none)],.i 2 (aG .u [bM]),.ex (.aO (a7 .tc) .q [.u [a7 .aJ,aC]]),.i 3 (bV (al [61])<|.q a8 .aP),aT (.or (gz (.q a8 .aq)<|ar 5)<|.or (gz (.q a8 .aJ)<|.q aC .jv)<|tq bp<|.c<|.u [.ah fB,.ah [61,61],.ah [61,61,61]]) [.j,.am (.c .none)],.ex (.aO (a7 .tc) .q [.u [bV (a7 .aJ) bM,a8]]),.j,.j,.ex (aG .j [])]
noncomputable def PD:List S:=[.am (.ao 621 [aC])]
noncomputable def PE:List S:=[.i 1 (.ao 628 [aI]),aT (.or (a7 .hQ)<|.or (.cB<|.ao 635 [aI,aC])<|tq (al [35,99,111,110,100])<|a7 .fY) [.am aC],.am (.aO (.y (a7 .fY)<|al [35,99,111,110,100]) .fC [aI,aC])]
noncomputable def PF:List S:=[aT (.bN (gU (al xO)<|a7 .fY)<|.ao 783 [aI]) [.am (.aO (.y (a7 .fY)<|al xO) .fC [aI,.c .none])],.am (.ao 663 [aI])]
noncomputable def PG:List S:=[aT (.or (bt (.q aC .aq)<|ar 27)<|.q (aG .i []) .m3) [.am (.c<|.i C)],.am (aG .td [al iS])]
noncomputable def PH:List S:=[.i 2 (a7 .hQ),.cP aI .hQ aC,.i 3 (aG .be [bM]),.cP aI .hQ a8,.am bp]
noncomputable def PJ:List S:=[aT (.cB<|aG .y [al [58]]) [.am (.c .none)],.am (aG .be [bM])]
noncomputable def PK:List S:=[aT (.cB<|aG .y [al [58]]) [.am (.c .none)],.am (aG .be [ar 11])]
noncomputable def PL:List S:=[.ex (aG .y [al [124]]),.i 1 (.ao 670 [aI]),aT (.cB<|aG .fZ [al [124]]) [.am aC],.i 2 (.af [aC]),.gJ (aG .y [al [124]]) [.ex (.aO a8 .q [.ao 670 [aI]])],.am (.ao .aK [ar 83,al [],a8,.q aC .aJ])]
noncomputable def PM:List S:=[.ex (aG .y [al [38]]),.i 1 (.ao 677 [aI]),aT (.cB<|aG .fZ [al [38]]) [.am aC],.i 2 (.af [aC]),.gJ (aG .y [al [38]]) [.ex (.aO a8 .q [.ao 677 [aI]])],.am (.ao .aK [ar 84,al [],a8,.q aC .aJ])]
noncomputable def PN:List S:=[.i 1 (aG .i []),aT (.bN (bt (.q aC .aq) bM)<|.bN (gU (.q aC .aP)<|.c<|.u [.ah [107,101,121,111,102],.ah fN,.ah [105,110,102,101,114]])<|gU (.q aC .aP)<|a7 .fY) [.am (.aO (.y (a7 .fY)<|.q aC .aP) .fC [aI,.c .none])],.am (.ao 684 [aI])]
noncomputable def PP:List S:=[.i 1 (a7 .hQ),.cP aI .hQ (.c<|.i C),.i 2 (.ao 565 [aG .i []]),aT (tq a8<|a7 .fY) [.ex (aG .b8 [ar 1110,.u []])],.i 3 (.aO (.y (a7 .fY) a8) .fC [aI,.c .none]),.i 4 bq,.gJ (.bN (aG .fZ [al [91]])<|.cB<|.q (aG .i []) .m3) [.ex (aG .j []),.db 4 .i bM,.ex (.ao 509 [aI,ci]),.bQ (aG .y [al [93]]) [.i 3 (.ao .aK [ar 85,al [],.af [bp],.q bp .aJ])] [.i 5 (aG .be [bM]),.ex (aG .iV [al [93]]),.i 3 (.ao .aK [ar 90,al [],.af [bp,cO],.q bp .aJ])]],.cP aI .hQ aC,.am bp]
noncomputable def PQ:List S:=[.i 3 (.q (.aO aC .j []) .aJ),.i 4 (.aO aC .be [bM]),.ex (.aO aC .iV [al [41]]),.am (.ao .aK [ar 98,al [],.af [ci],bp])]
noncomputable def PT:List S:=[.i 3 (.aO aC .i []),aT (gU (.q bp .aP)<|.c<|.u [.ah s7,.ah FS,.ah xS,.ah xP,.ah kS,.ah qe,.ah FT,.ah xQ]) [.ex (.aO aC .j []),.am (.ao .c6 [ar 80,.q bp .aP,.q bp .aJ])],.ex (.ao 729 [aC]),.i 4 (.ao 736 [aC]),.i 5 (.af []),aT (.bN (.aO aC .fZ [al [60]])<|.cB<|.q (.aO aC .i []) .m3) [.i 5 (.ao 750 [aC])],.am (.ao .aK [ar 81,ci,cO,.q bp .aJ])]
noncomputable def PU:List S:=[.i 1 (aG .u [bM]),aT (.or (aG .mq [al xV])<|aG .mq [al AY]) [.ex (.aO (a7 .dU) .gx [ar 9002,.q (aG .i []) .aJ,.u [.q (aG .i []) .aP]])],aT (.bN (aG .mq [al OC])<|.ao 502 [aC,bM,al xV]) [.ex (aG .b8 [ar 9002,.u [al [117,110,105,113,117,101,32,115,121,109,98,111,108]]])],aT (.bN (aG .mq [al OD])<|.ao 502 [aC,dI,al bH]) [.ex (aG .b8 [ar 9002,.u [al [97,110,32,97,98,115,116,114,97,99,116,32,99,111,110,115,116,114,117,99,116,32,107,105,110,100]]])]]
noncomputable def PV:List S:=[.i 1 (.q (aG .i []) .aJ),.i 2 (aG .vf []),.i 3 bq,.gJ (aG .y [al [46]]) [.i 2 (bV (bV a8<|al [46])<|aG .A7 []),.db 3 .i bM],aT (kW bp bM) [.ex (.aO (a7 .dU) .gx [ar 9002,aC,.u [al aeX]])],.am a8]
noncomputable def PX:List S:=[.i 1 (aG .i []),.i 2 (aG .vf []),aT (.or (gU a8<|.c<|.u [.ah s7,.ah FS,.ah xS,.ah xP,.ah kS,.ah qe,.ah FT,.ah xQ])<|.or (bt a8<|al xV)<|bt a8<|al AY) [.ex (.aO (a7 .dU) .gx [ar 2368,.q aC .aJ,.u [a8]])],.am a8]
noncomputable def PY:List S:=[.ex (aG .iV [al [60]]),.i 1 (.af [.ao 642 [aI,.c (.i C)]]),.gJ (aG .y [al [44]]) [.ex (.aO aC .q [.ao 642 [aI,.c (.i C)]])],.ex (.ao 572 [aI]),.am aC]
noncomputable def PZ:List S:=[aT (.bN (gU (al [35,109,97,112,112,101,100])<|.q aC .fY) .j) [.am (.aO (.y (.q aC .fY)<|al [35,109,97,112,112,101,100]) .fC [aC,.c .none])],.i 3 (.q (.aO aC .i []) .aJ),.am (.ao .aK [ar 88,al [],.q (.aO aC .be [ar 9]) .bO,bp])]
noncomputable def P0:List S:=[aT (.or (aG .fZ [al [60]])<|aG .td [al bH]) [.am (.c<|.i I)],aT (.cB<|aG .fZ [al [40]]) [.am (.c<|.i C)],.i 1 (aG .u [bM]),aT (.or (.ao 502 [aC,ar 5,al [41]])<|.ao 502 [aC,ar 5,al hN]) [.am (.c<|.i I)],aT (.or (bt (.q aC .aq) bM)<|.ao 502 [aC,dI,al eV]) [.am (.ao 790 [aI,dI])],aT (.or (.ao 502 [aC,ar 5,al [123]])<|.ao 502 [aC,ar 5,al [91]]) [.am (.ao 797 [aI])],.am (.c<|.i C)]
noncomputable def P1:List S:=[.i 2 (aG .u [aC]),aT (gz (.q a8 .aq)<|ar 5) [.am (.c<|.i C)],aT (gU (.q a8 .aP)<|.u [al [58],al [44],al [63],al [61]]) [.am (.c<|.i I)],.am (.bN (bt (.q a8 .aP)<|al [41])<|.ao 502 [aG .u [bV aC bM],ar 5,al fB])]
noncomputable def P2:List S:=[aT (tq (ar 10)<|a7 .gT) [.am (.c<|.i C)],.i 1 (aG .OK []),.ex (aG .j []),.j,.ex (aG .rv [aC]),.am a8]
noncomputable def P4:List S:=[.am (.ao 824 [aC])]
noncomputable def P5:List S:=[.i 1 (.q (aG .i []) .aJ),.ex (aG .iV [al [123]]),.i 2 (.af []),.gJ (.cB<|aG .fZ [al [125]]) [.ex (.aO a8 .q [.ao 831 [aI]]),aT (.cB<|aG .y [al [44]]) [.ex (aG .x5 [])]],.ex (aG .j []),.am (.ao 70 [a8,aC])]
noncomputable def P6:List S:=[.i 1 (.q (aG .i []) .aJ),aT (.or (aG .fZ [al [40]])<|aG .fZ [al [60]]) [.am (.ao 866 [aI,al [],ar 512,aC])],aT (.bN (aG .td [al bH])<|.ao 838 [aG .u [bM]]) [.ex (aG .j []),.am (.ao 866 [aI,al [],ar 1024,aC])],.i 2 bq,aT (.ao 845 [aI,al fN]) [.ex (aG .j []),.i 2 (ar 131072)],aT (.ao 873 [aI]) [.am (.ao 880 [aI,a8,aC])],aT (.or (.ao 852 [aI,al f6])<|.ao 852 [aI,al gv]) [.ex (aG .b8 [ar 9002,.u [al aeY]])],.am (.ao 859 [aI,a8])]
noncomputable def P7:List S:=[.am (.or (.ao 502 [aI,ar 5,al [40]])<|.ao 502 [aI,ar 5,al [60]])]
noncomputable def P8:List S:=[.i 2 (aG .u [bM]),.am (.bN (aG .mq [aC])<|.bN (.ao 537 [a8])<|.cB<|.q a8 .m3)]
noncomputable def P9:List S:=[.am (.bN (aG .mq [aC])<|.ao 537 [aG .u [bM]])]
noncomputable def Qa:List S:=[.i 2 (.q (aG .i []) .aJ),.i 3 (aG .A8 []),aT (aG .y [al [63]]) [.db 1 .i (ar 4096)],aT (.bN (.ao 838 [aG .i []])<|qj aC<|ar 131072) [.am (.ao 866 [aI,bp,bV aC (ar 32),a8])],.am (.ao .i [ar 99,bp,.af [.ao .gI [aI]],aC,a8])]
noncomputable def Qb:List S:=[.i 4 (.ao 939 [aI]),.i 5 (.ao 953 [aI,.c (.i C)]),.i 6 (.ao 656 [aI]),.am (.ao .i [ar 27,aC,.af [ci,cO,fP,.c .none],a8,bp])]
noncomputable def Qc:List S:=[aT (.or (.cB<|aG .fZ [al [91]])<|gz (.q (aG .u [bM]) .aq) bM) [.am (.c<|.i C)],.am (.ao 502 [aG .u [dI],ar 5,al [58]])]
noncomputable def Qd:List S:=[.ex (aG .iV [al [91]]),.i 3 (aG .vf []),.ex (aG .iV [al [58]]),.i 4 (aG .be [bM]),.ex (aG .iV [al [93]]),.ex (aG .iV [al [58]]),.i 5 (aG .be [bM]),.am (.ao .i [ar 63,bp,.af [ci,cO],aC,a8])]
noncomputable def Qe:List S:=[.i 3 (.q (.aO aC .i []) .aJ),.i 4 (ar 2048),aT (.aO aC .te [al bH]) [.i 4 (ar 3072)],.i 5 (.ao 939 [aC]),.i 6 (.ao 953 [aC,.c (.i C)]),.ex (.aO aC .iV [al fB]),.i 7 (.aO aC .be [ar 11]),.am (.ao .i [ar 27,al [],.af [cO,fP,kB,.c .none],ci,bp])]
noncomputable def Qf:List S:=[.am (.ao 932 [aC])]
noncomputable def Qg:List S:=[.am (.or (bt (a7 .aq) bM)<|.ao 502 [aI,dI,al eV])]
noncomputable def Qh:List S:=[.i 1 (aG .i []),.i 2 (aG .u [bM]),aT (.or (.q a8 .m3)<|.cB<|.ao 925 [aC]) [.am (aG .be [bM])],aT (.ao 502 [a8,bM,al eW]) [.ex (aG .j []),.ex (aG .j []),.am (.ao .aK [ar 96,.q aC .aP,.af [aG .be [bM]],.q aC .aJ])],aT (.or (.cB<|aG .mq [al dP])<|.cB<|.ao 925 [a8]) [.am (aG .be [bM])],.ex (aG .j []),.i 3 (.q (aG .j []) .aP),.i 4 (.c .none),.bQ (aG .A9 [al eW]) [.i 4 (aG .be [bM])] [aT (.or (aG .fZ [al [38]])<|aG .fZ [al [124]]) [.ex (aG .b8 [ar 1228,.u []])]],.am (.ao .i [ar 96,bp,.af [ci],ar 16777216,.q aC .aJ])]
noncomputable def Qi:List S:=[.i 1 (.q (aG .i []) .aJ),aT (.cB<|aG .y [al [60]]) [.am (.c .none)],.i 2 (.af [.ao 946 [aI]]),.gJ (.bN (aG .y [al [44]])<|.bN (.cB<|aG .fZ [al [62]])<|.cB<|aG .fZ [al rj]) [.ex (.aO a8 .q [.ao 946 [aI]])],.ex (.ao 572 [aI]),.am (.ao 70 [a8,aC])]
noncomputable def Qj:List S:=[aT (aG .td [al [99,111,110,115,116]]) [.ex (aG .b8 [ar 9002,.u [al [97,32,99,111,110,115,116,32,107,105,110,100,32,112,97,114,97,109,101,116,101,114]]])],.i 1 bq,aT (aG .te [al f5]) [.i 1 (ar 268435456)],aT (.bN (aG .mq [al fc])<|bt (.q (aG .u [bM]) .aq) bM) [.ex (aG .j []),.db 1 .i (ar 536870912)],.i 2 (.q (aG .i []) .aJ),.i 3 (.ao 743 [aI]),.i 4 (.c .none),.i 5 (.c .none),aT (aG .te [al iS]) [.i 4 (.ao 642 [aI,.c (.i C)])],aT (aG .y [al [61]]) [.i 5 (.ao 642 [aI,.c (.i C)])],.am (.ao .i [ar 100,bp,.af [ci,cO],aC,a8])]
noncomputable def Qk:List S:=[.i 2 (.q (aG .i []) .aJ),.ex (aG .iV [al [40]]),.i 3 (a7 .lD),.i 4 (a7 .hQ),.cP aI .lD (.c<|.i I),.cP aI .hQ (.c<|.i C),.i 5 (.af []),.gJ (.cB<|aG .fZ [al [41]]) [.ex (.aO cO .q [.ao 988 [aI,aC]]),aT (.cB<|aG .y [al [44]]) [.u],aT (.bI .u (.q (.y cO<|.qi 1) .cj)<|ar 8192) [.ex (.aO (a7 .dU) .gx [ar 1014,.q (.y cO<|.qi 1) .aJ,.u []])]],.ex (aG .iV [al [41]]),.cP aI .lD bp,.cP aI .hQ ci,.ex (.ao 960 [aI,cO]),.am (.ao 70 [cO,a8])]
noncomputable def Ql:List S:=[.i 2 (.c<|.i C),.jw 3 (gy [aC]) [.i 4 (.y aC bp),aT (.bN (kW bp bq)<|.bN (bt (.q (.y (.q ci .bO) bq) .aq)<|ar 8)<|bt (.q (.y (.q ci .bO) bq) .a_)<|al eV) [.ex (.aO (a7 .dU) .gx [ar 2680,.q ci .aJ,.u []])],.bQ (.bI .u (.q ci .cj)<|ar 4096) [.i 2 (.c<|.i I)] [aT (.bN a8<|.bN (.cB<|.bI .u (.q ci .cj)<|ar 8192)<|jX (.y (.q ci .bO) dI)<|.c .none) [.ex (.aO (a7 .dU) .gx [ar 1016,.q ci .aJ,.u []])]]]]
noncomputable def Qm:List S:=[.i 1 (aG .i []),aT (.ao 925 [aC]) [.ex (aG .j []),.am (.ao .c6 [ar 8,.q aC .aP,.q aC .aJ])],.am (aG .be [ar 10])]
noncomputable def Qn:List S:=[.i 2 bq,.bQ aC [.i 2 .j] [],.i 3 (.q (aG .i []) .aJ),aT (aG .y [al hN]) [.db 2 .i (ar 8192)],.i 4 (.ao 981 [aI]),aT (.bN (.cB<|.bI .u a8<|ar 8192)<|aG .y [al [63]]) [.db 2 .i (ar 4096)],.i 5 (.ao .gI [aI]),.i 6 (.c .none),aT (.bN aC<|.bN (.cB<|.bI .u a8<|ar 12288)<|aG .y [al [61]]) [.i 6 (aG .be [dI])],.am (.ao .i [ar 28,al [],.af [ci,cO,fP],a8,bp])]
noncomputable def lG:List (Fn×Nat×Nat×List S):=[(.j,1,14,lF),(1087,1,14,F4),(1082,2,4,F5),(1075,2,5,OM),(1068,4,9,F6),(1063,3,4,F7),(1056,2,10,ON),(1049,3,5,F8),(1042,1,1,OO),(1021,1,6,OP),(1016,2,7,F9),(1009,2,3,OQ),(1002,2,3,OR),(997,1,1,Bg),(1028,1,7,Ga),(1035,2,8,Gb),(1108,2,5,Gc),(1101,3,4,rz),(1094,3,5,Bh),(1113,3,11,x8),(.c6,3,3,OS),(.aK,4,4,OT),(.i,5,5,OU),(70,2,2,OV),(194,2,2,OY),(201,4,4,OZ),(306,3,3,O0),(313,1,1,O1),(320,2,3,O2),(327,1,2,O3),(334,2,2,O4),(341,2,2,O5),(348,2,2,O6),(355,2,2,O7),(362,2,2,O8),(369,2,2,O9),(376,2,2,Pa),(390,1,1,Pb),(397,1,1,Pd),(404,1,1,Pe),(411,3,3,Pf),(418,4,4,Pg),(425,1,2,Ph),(432,1,1,Pj),(439,1,1,Pk),(446,1,1,Pm),(453,2,3,Pn),(509,2,2,Pp),(516,2,6,Gd),(502,3,3,Pq),(523,3,3,Pr),(530,1,1,Pu),(537,1,1,Pw),(551,1,2,Py),(558,1,1,Pz),(565,1,1,PB),(572,1,4,PC),(609,2,2,PD),(621,1,2,PE),(628,1,1,PF),(635,2,2,PG),(642,2,4,PH),(.gI,1,1,PJ),(656,1,1,PK),(663,1,3,PL),(670,1,3,PM),(677,1,2,PN),(684,1,6,PP),(698,3,5,PQ),(717,3,6,PT),(729,1,2,PU),(736,1,4,PV),(743,1,3,PX),(750,1,2,PY),(764,3,4,PZ),(783,1,2,P0),(790,2,3,P1),(797,1,3,P2),(812,2,2,P4),(824,1,3,P5),(831,1,3,P6),(838,1,1,P7),(845,2,3,P8),(852,2,2,P9),(859,2,4,Qa),(866,4,7,Qb),(873,1,1,Qc),(880,3,6,Qd),(894,3,8,Qe),(913,2,2,Qf),(925,1,1,Qg),(932,1,5,Qh),(939,1,3,Qi),(946,1,6,Qj),(953,2,6,Qk),(960,2,5,Ql),(981,1,2,Qm),(988,2,7,Qn)]
noncomputable def iX(f:Fn):Nat×Nat×List S:=(lG.lookup f).getD (0,0,[.j])
noncomputable def jx:eX->Option (Nat×List (At×rk))
 |.u=>O (5,[(.aq,.i 0),(.a_,.i 1),(.bO,.i 2),(.cj,.i 3),(.aJ,.i 4),(.x6,.j<|.aa 0)])
 |.j=>O (6,[(.aq,.i 0),(.aP,.i 1),(.kA,.i 2),(.aJ,.i 3),(.jv,.i 4),(.m3,.i 5)])
 |.vg=>O (4,[(.oG,.i 0),(.aJ,.i 1),(.Ba,.i 2),(.rm,.i 3)])
 |_=>U
noncomputable def o4:eX->Option (Fn×List V)
 |.q=>O (194,[.ah []])
 |.i=>O (306,[])
 |_=>U
noncomputable def Ge(c:eX):List (At×Fn):=match c with
 |.q=>[(.gx,201)]
 |.i=>[(.i,313),(.u,320),(.j,327),(.fZ,334),(.td,341),(.mq,348),(.y,355),(.te,362),(.A9,369),(.iV,376),(.vf,390),(.A8,397),(.A7,404),(.b8,411),(.FY,418),(.FZ,425),(.x5,432),(.F0,439),(.up,446),(.be,453)]
 |.vh=>[(.x4,609)]
 |.vi=>[(.x4,812)]
 |.vj=>[(.x4,913)]
 |.y=>[(.fC,717)]
 |.tg=>[(.fC,698)]
 |.ti=>[(.fC,764)]
 |.tj=>[(.fC,894)]
 |_=>[]
noncomputable def gV(c:eX)(a:At):Option Fn:=(Ge c).lookup a
noncomputable def cG{b:Type}(o:Option b)(H:Hp):R b:=match o with
 |some a=>.ok a H
 |.none=>.j
noncomputable def dC(v:V)(H:Hp):Option Bool:=match v with
 |.none=>O C
 |.i b=>O b
 |.aa i=>O<|i !=0
 |.ae a=>match H[a]? with
  |some (.af c)=>O<|!c.isEmpty
  |_=>.none
 |_=>.none
noncomputable def bg:Nat:=16777216
noncomputable def hR(v:V)(H:Hp):Option (List V):=match v with
 |.u b=>O b
 |.af b=>O b
 |.ae a=>match H[a]? with
  |some (.af b)=>O b
  |_=>.none
 |_=>.none
noncomputable def o5(o:f7)(x y:Int)(H:Hp):R V:=match o with
 |.i=>.ok (.aa<|x+y) H
 |.ez=>.ok (.aa<|x-y) H
 |.j=>if x.natAbs<bg*bg/\y.natAbs<bg*bg then .ok (.aa<|x*y) H else .j
 |.q=>if 0<y/\y<bg then .ok (.aa<|x/y) H else .j
 |.y=>if 0<y then .ok (.aa<|x%y) H else .j
 |.u=>if 0<=x/\0<=y then .ok (.aa<|Nat.land x.toNat y.toNat) H else .j
 |.ry=>if 2<=x/\x<16/\0<=y/\y<16 then .ok (.aa<|x^y.toNat) H else .j
noncomputable def vl(o:f7)(x y:List Nat)(H:Hp):R V:=match o with
 |.i=>if(x++y).length<=bg then .ok (.ah<|x++y) H else .j
 |_=>.j
noncomputable def vm(o:f7)(x y:Nat)(H:Hp):R V:=match o with
 |.i=>match H[x]?,H[y]? with
  |some (.af a),O (.af b)=>if(a++b).length<=bg then .ok (.ae H.length) (H++[.af (a++b)]) else .j
  |_,_=>.j
 |_=>.j
noncomputable def fQ(o:f7)(a b:V)(H:Hp):R V:=match a with
 |.aa x=>(match b with|.aa y=>o5 o x y H|_=>.j)
 |.ah x=>(match b with|.ah y=>vl o x y H|_=>.j)
 |.ae x=>(match b with|.ae y=>vm o x y H|_=>.j)
 |_=>.j
noncomputable def iY(o:f7)(a b:V)(H:Hp):R V:=match a with
 |.aa _=>fQ o a b H
 |.ah _=>fQ o a b H
 |_=>.j
noncomputable def Qo(c:List Nat)(s:List Nat):Option Bool:=match c with
 |[x]=>O<|s.contains x
 |_=>.none
noncomputable def rA(a b:V):Option Bool:=match a with
 |.aa x=>(match b with|.aa y=>O (decide (x=y))|_=>.none)
 |.ah x=>(match b with|.ah y=>O (decide (x=y))|_=>.none)
 |_=>.none
noncomputable def Qp:V->Option (Option V)
 |.aa _=>O .none
 |.ah _=>O .none
 |_=>.none
noncomputable def ng(k:V):List (V×V)->Option (Option V)
 |[]=>Qp k
 |(a,v)::r=>(rA a k).bind λb=>(ng k r).map λo=>if b then O v else o
noncomputable def rC(k:V):List V->Option Bool
 |[]=>O C
 |a::r=>(rA a k).bind λb=>(rC k r).map (b||·)
noncomputable def Bj(a b:V):Option Bool:=match b with
 |.u c=>rC a c
 |.dct d=>(ng a d).map (·.isSome)
 |_=>.none
noncomputable def vn(a b:V):Option Bool:=match b with
 |.ah s=>(match a with|.ah c=>Qo c s|_=>.none)
 |b=>Bj a b
noncomputable def nh:List V->Option (List Int)
 |[]=>O []
 |.aa i::r=>(nh r).map (i::·)
 |_=>.none
noncomputable def qk(H:Hp)(x:Nat):Option (List V):=match H[x]? with
 |some (.af a)=>O a
 |_=>.none
noncomputable def vo(x y:Nat)(H:Hp):Option Bool:=(qk H x).bind λa=>(qk H y).bind λb=>(nh a).bind λis=>(nh b).map λc=>decide (is=c)
noncomputable def Gf(a b:V)(H:Hp):Option Bool:=match a with
 |.ae x=>(match b with|.ae y=>vo x y H|_=>.none)
 |a=>rA a b
noncomputable def Bk(a b:V):Option Bool:=match b with
 |.none=>(match a with|.none=>O I|_=>O C)
 |_=>.none
noncomputable def vp(f:Int->Int->Bool)(a b:V):Option Bool:=match a with
 |.aa x=>(match b with|.aa y=>O (f x y)|_=>.none)
 |_=>.none
noncomputable def lH(o:qf)(a b:V)(H:Hp):R V:=cG ((match o with
 |.eq=>Gf a b H
 |.ne=>(rA a b).map (!·)
 |.i=>vn a b
 |.q=>(Bj a b).map (!·)
 |.j=>Bk a b
 |.u=>(Bk a b).map (!·)
 |.lt=>vp (λx y=>decide (x<y)) a b
 |.gt=>vp (λx y=>decide (y<x)) a b
 |.ge=>vp (λx y=>decide (y<=x)) a b
 |.le=>vp (λx y=>decide (x<=y)) a b).map V.i) H
noncomputable def fd(fs:List<|At×V)(a:At):Option V:=match fs with
 |[]=>.none
 |(b,v)::r=>if b=a then O v else fd r a
noncomputable def fD(fs:List<|At×V)(a:At)(v:V):List (At×V):=match fs with
 |[]=>[(a,v)]
 |(b,u)::r=>if b=a then(b,v)::r else(b,u)::fD r a v
noncomputable def kC(v:V)(a:At)(H:Hp):R V:=match v with
 |.aQ _ b=>cG (fd b a) H
 |.ae x=>match H[x]? with
  |some (.aQ _ b)=>cG (fd b a) H
  |_=>.j
 |_=>.j
noncomputable def jY(v:V)(a:At)(u:V)(H:Hp):R Unit:=match v with
 |.ae x=>match H[x]? with
  |some (.aQ c b)=>.ok ()<|H.set x<|.aQ c<|fD b a u
  |_=>.j
 |_=>.j
noncomputable def fR(i:Int)(n:Nat):Option Nat:=if 0<=i then(if i<n then O i.toNat else .none) else if-(n:Int)<=i then O (i+n).toNat else .none
noncomputable def Qq(v:V)(i:Int)(H:Hp):R V:=match v with
 |.ah s=>cG ((fR i s.length).bind λj=>(s[j]?).map λc=>.ah [c]) H
 |v=>cG ((hR v H).bind λa=>(fR i a.length).bind λj=>a[j]?) H
noncomputable def Bm(v i:V)(H:Hp):R V:=match i with
 |.aa i=>Qq v i H
 |_=>.j
noncomputable def f9(v i:V)(H:Hp):R V:=match v with
 |.dct a=>cG ((ng i a).bind id) H
 |v=>Bm v i H
noncomputable def ni:V->Option (Option Nat)
 |.none=>O .none
 |.aa a=>if 0<=a then O (O a.toNat) else .none
 |_=>.none
noncomputable def vq(v:V)(H:Hp):Option (List V):=match v with
 |.af a=>O a
 |.ae x=>match H[x]? with
  |some (.af a)=>O a
  |_=>.none
 |_=>.none
noncomputable def Qr(s:List Nat)(a b:Option Nat)(H:Hp):R V:=match a with
 |.none=>.j
 |some a=>match b with
  |.none=>.j
  |some b=>if a<=b/\a<=s.length then .ok (.ah<|(s.take b).drop a) H else .j
noncomputable def Bo(c:List V)(a b:Option Nat)(H:Hp):R V:=match a with
 |.none=>.ok (.ae H.length)<|H++[.af (match b with|some b=>c.take b|.none=>c)]
 |some a=>match b with
  |.none=>.ok (.ae H.length)<|H++[.af (c.drop a)]
  |some _=>.j
noncomputable def rD(v:V)(a b:Option Nat)(H:Hp):R V:=match v with
 |.ah s=>Qr s a b H
 |v=>match vq v H with
  |some c=>Bo c a b H
  |.none=>.j
noncomputable def lI(v lo c:V)(H:Hp):R V:=match ni lo with
 |.none=>.j
 |some a=>match ni c with
  |.none=>.j
  |some b=>rD v a b H
noncomputable def rE:List V->Option (List<|List Nat)
 |[]=>O []
 |.ah s::r=>(rE r).map (s::·)
 |_=>.none
noncomputable def dJ(a:List Nat):List (List Nat)->List Nat
 |[]=>[]
 |[x]=>x
 |x::r=>x++a++dJ a r
noncomputable def ga(b:Bi)(as:List V)(H:Hp):R V:=match b,as with
 |.bK,[.ah s]=>.ok (.aa s.length) H
 |.bK,[v]=>cG ((hR v H).map λc=>.aa c.length) H
 |.aa,[.ah s]=>if s=[48] then .ok (.aa 0) H else if s=[52,50] then .ok (.aa 42) H else .j
 |.i,[.aa a,.aa b]=>.ok (.aa<|if a<b then b else a) H
 |.j,[.ae a]=>cG (((hR (.ae a) H).bind nh).map λis=>.aa is.sum) H
 |_,_=>.j
noncomputable def o6(v:V)(H:Hp):V×Hp:=match v with
 |.ae a=>match H[a]? with
  |some (.af b)=>(.af b,H.set a .i)
  |_=>(v,H)
 |_=>(v,H)
noncomputable def mu:List V->Hp->List V×Hp
 |[],H=>([],H)
 |v::r,H=>
  let(c,a):=o6 v H
  let(d,b):=mu r a
  (c::d,b)
noncomputable def nj(as:List V):List (At×rk)->Option (List<|At×V)
 |[]=>O []
 |(a,.j v)::r=>(nj as r).map ((a,v)::·)
 |(a,.i i)::r=>(as[i]?).bind λv=>(nj as r).map ((a,v)::·)
noncomputable abbrev fi:=Fn->List V->Hp->R V
noncomputable def iZ(run:fi)(c:eX)(as:List V)(H:Hp):R V:=match jx c with
 |some (n,a)=>if as.length=n then
   let(b,d):=mu as H
   match nj b a with
   |some e=>.ok (.aQ c e) d
   |.none=>.j
  else .j
 |.none=>match o4 c with
  |some (f,dflt)=>(run f (.ae H.length::(as++if c=.q/\as.length=0 then dflt else[]))<|H++[.aQ c []]).i λg d=>.ok (.ae H.length) d
  |.none=>if as.length=0 then .ok (.aQ c []) H else .j
noncomputable def ql(v:V)(H:Hp):Option eX:=match v with
 |.aQ c _=>O c
 |.ae a=>match H[a]? with
  |some (.aQ c _)=>O c
  |_=>.none
 |_=>.none
noncomputable def hS(v:V)(m:At)(as:List V)(H:Hp):R V:=match v with
 |.ah c=>if m=.jW then(match as with
  |[.ae a]=>(match H[a]? with
   |some (.af b)=>(match rE b with
    |some e=>if(e.map (·.length)).sum+e.length*c.length<=bg then .ok (.ah<|dJ c e) H else .j
    |.none=>.j)
   |_=>.j)
  |_=>.j) else .j
 |.dct f=>if m=.cN then(match as with
  |[k,d]=>cG ((ng k f).map (·.getD d)) H
  |_=>.j) else .j
 |.ae a=>if m=.q then(match as with
  |[u]=>(match H[a]? with
   |some (.af b)=>if b.length<bg then .ok .none (H.set a<|.af<|b++[u]) else .j
   |_=>.j)
  |_=>.j)
  else if m=.hO then(match as with
  |[]=>(match H[a]? with
   |some (.af b)=>(match b.getLast? with
    |some u=>.ok u<|H.set a<|.af b.dropLast
    |.none=>.j)
   |_=>.j)
  |_=>.j) else .j
 |_=>.j
noncomputable def Bp(H:Hp)(a:Nat):Bool:=match H[a]? with
 |some (.af _)=>I
 |_=>C
noncomputable def o7(v:V)(m:At)(H:Hp):Bool:=match v with
 |.ah _=>decide (m=.jW)
 |.dct _=>decide (m=.cN)
 |.ae a=>(decide (m=.q)||decide (m=.hO))&&Bp H a
 |_=>C
noncomputable def eY(f:V->Hp->R V):List V->Hp->R (List V)
 |[],H=>.ok [] H
 |v::r,H=>match f v H with
  |.ok u H=>(eY f r H).i λa H=>.ok (u::a) H
  |_=>.j
noncomputable def rF{c:Type}(v:V)(H:Hp)(f:List V->Hp->R c):R c:=match v with
 |.u b=>f b H
 |.af b=>f b H
 |.ae a=>match H[a]? with
  |some (.af b)=>(f b<|H.set a .i).i λr H=>.ok r<|H.set a<|.af b
  |_=>.j
 |_=>.j
noncomputable def x9{a:Type}(v:V)(H:Hp)(f:List V->Hp->R a):R a:=match v with
 |.u _=>.j
 |v=>rF v H f
mutual
noncomputable def az(run:fi):E->Lc->Hp->R V
 |.c v,_,H=>.ok v H
 |.qi n,_,H=>.ok (.aa<|-(n:Int)) H
 |.l i,l,H=>match l[i]? with
  |some (some v)=>.ok v H
  |_=>.j
 |.q e a,l,H=>(az run e l H).i λv H=>kC v a H
 |.y e i,l,H=>(az run e l H).i λv H=>(az run i l H).i λj H=>f9 v j H
 |.slc e lo h,l,H=>(az run e l H).i λv H=>(az run lo l H).i λa H=>(az run h l H).i λb H=>lI v a b H
 |.bI o a b,l,H=>(az run a l H).i λx H=>(az run b l H).i λy H=>fQ o x y H
 |.b9 o a b,l,H=>(az run a l H).i λx H=>(az run b l H).i λy H=>lH o x y H
 |.bN a b,l,H=>(az run a l H).i λx H=>match dC x H with
  |some c=>if c then az run b l H else .ok x H
  |.none=>.j
 |.or a b,l,H=>(az run a l H).i λx H=>match dC x H with
  |some c=>if c then .ok x H else az run b l H
  |.none=>.j
 |.cB e,l,H=>(az run e l H).i λx H=>cG ((dC x H).map λb=>.i<|!b) H
 |.bz t a b,l,H=>(az run t l H).i λx H=>match dC x H with
  |some c=>if c then az run a l H else az run b l H
  |.none=>.j
 |.ao f as,l,H=>(cu run as l H).i λd H=>run f d H
 |.ce c as,l,H=>(cu run as l H).i λd H=>iZ run c d H
 |.bi b as,l,H=>(cu run as l H).i λd H=>ga b d H
 |.aO e m as,l,H=>(az run e l H).i λv H=>match ql v H with
  |some c=>match gV c m with
   |some f=>(cu run as l H).i λd H=>run f (v::d) H
   |.none=>.j
  |.none=>if o7 v m H=I then(cu run as l H).i λd H=>hS v m d H else .j
 |.u g,l,H=>(cu run g l H).i λd H=>.ok (.u d) H
 |.af g,l,H=>(cu run g l H).i λd H=>.ok (.ae H.length)<|H++[.af d]
 |.dct ks d,l,H=>(cu run ks l H).i λks H=>(cu run d l H).i λd H=>.ok (.dct<|ks.zip d) H
 |.i e x it,l,H=>(az run it l H).i λv H=>(x9 v H λp H=>eY (λv H=>az run e (l.set x<|O v) H) p H).i λd H=>.ok (.ae H.length)<|H++[.af d]
 |.lE e x n,l,H=>(az run n l H).i λv H=>match v with
  |.aa k=>if 0<=k/\k<=bg then(eY (λv H=>az run e (l.set x<|O v) H) ((kj k.toNat).map λ(i:Nat)=>V.aa (i:Int)) H).i λd H=>.ok (.ae H.length) (H++[.af d]) else .j
  |_=>.j
 |.j,_,_=>.j
noncomputable def cu(run:fi):List E->Lc->Hp->R (List V)
 |[],_,H=>.ok [] H
 |e::a,l,H=>(az run e l H).i λv H=>(cu run a l H).i λb H=>.ok (v::b) H
end
noncomputable def lJ:List Nat->List V->Lc->Option Lc
 |[],[],l=>O l
 |i::is,v::a,l=>lJ is a<|l.set i<|O v
 |_,_,_=>.none
noncomputable def qm(t:Lc->Hp->R Bool)(b:Lc->Hp->R (Fl×Lc)):Nat->Lc->Hp->R (Fl×Lc)
 |0,_,_=>.j
 |n+1,l,H=>(t l H).i λc H=>if c then(b l H).i λr H=>match r with
   |(.aU,l)=>qm t b n l H
   |(.q,l)=>qm t b n l H
   |(.u,l)=>.ok (.aU,l) H
   |(.am v,l)=>.ok (.am v,l) H
  else .ok (.aU,l) H
noncomputable def dm(b:V->Lc->Hp->R (Fl×Lc)):List V->Lc->Hp->R (Fl×Lc)
 |[],l,H=>.ok (.aU,l) H
 |v::r,l,H=>match b v l H with
  |.ok (.aU,l) H=>dm b r l H
  |.ok (.q,l) H=>dm b r l H
  |.ok (.u,l) H=>.ok (.aU,l) H
  |.ok (.am v,l) H=>.ok (.am v,l) H
  |_=>.j
noncomputable def hT:Nat:=16777216
noncomputable def kX{a:Type}:R a->R a
 |.q _=>.j
 |r=>r
mutual
noncomputable def f0(run:fi):S->Lc->Hp->R (Fl×Lc)
 |.i i e,l,H=>(az run e l H).i λv H=>.ok (.aU,l.set i<|O v) H
 |.cP o a e,l,H=>(az run e l H).i λv H=>(az run o l H).i λx H=>(jY x a v H).i λf H=>.ok (.aU,l) H
 |.iW is e,l,H=>(az run e l H).i λv H=>match hR v H with
  |some d=>match lJ is d l with
   |some l=>.ok (.aU,l) H
   |.none=>.j
  |.none=>.j
 |.db i op e,l,H=>match l[i]? with
  |some (some x)=>(az run e l H).i λy H=>(iY op x y H).i λv H=>.ok (.aU,l.set i<|O v) H
  |_=>.j
 |.oW o a op e,l,H=>(az run o l H).i λx H=>(kC x a H).i λu H=>(az run e l H).i λy H=>(iY op u y H).i λv H=>(jY x a v H).i λf H=>.ok (.aU,l) H
 |.ex e,l,H=>(az run e l H).i λf H=>.ok (.aU,l) H
 |.bQ t a b,l,H=>(az run t l H).i λx H=>match dC x H with
  |some c=>if c then aZ run a l H else aZ run b l H
  |.none=>.j
 |.gJ t b,l,H=>qm (λl H=>(az run t l H).i λx H=>cG (dC x H) H) (λl H=>aZ run b l H) hT l H
 |.y i e b,l,H=>(az run e l H).i λv H=>rF v H λd H=>dm (λv l H=>aZ run b (l.set i<|O v) H) d l H
 |.jw i e b,l,H=>(az run e l H).i λv H=>match v with
  |.aa k=>if 0<=k/\k<=bg then dm (λv l H=>aZ run b (l.set i<|O v) H) ((kj k.toNat).map λ(i:Nat)=>V.aa (i:Int)) l H else .j
  |_=>.j
 |.am e,l,H=>(az run e l H).i λv H=>.ok (.am v,l) H
 |.u,l,H=>.ok (.u,l) H
 |.q,l,H=>.ok (.q,l) H
 |.Bb,l,H=>.ok (.aU,l) H
 |.x7 e,l,H=>(az run e l H).i λv H=>match v with
  |.aa i=>if 0<=i/\i<1000000 then .q H else .j
  |_=>.j
 |.m4 i e h,l,H=>match az run e l H with
  |.ok v H=>.ok (.aU,l.set i<|O v) H
  |.q H=>kX<|aZ run h l H
  |.j=>.j
 |.m5 e h,l,H=>match az run e l H with
  |.ok _ H=>.ok (.aU,l) H
  |.q H=>kX<|aZ run h l H
  |.j=>.j
 |.j,_,_=>.j
noncomputable def aZ(run:fi):List S->Lc->Hp->R (Fl×Lc)
 |[],l,H=>.ok (.aU,l) H
 |s::r,l,H=>(f0 run s l H).i λx H=>match x with
  |(.aU,l)=>aZ run r l H
  |x=>.ok x H
end
noncomputable def Bq(run:fi)(f:Fn)(as:List V)(H:Hp):R V:=
 let(np,nl,body):=iX f
 if as.length=np then
  (aZ run body (as.map O++jp (nl-np) U) H).i λx H=>match x with
   |(.am v,_)=>.ok v H
   |(.aU,_)=>.ok .none H
   |_=>.j
 else .j
noncomputable def ag:Nat->fi
 |0,_,_,_=>.j
 |n+1,f,as,H=>Bq (ag n) f as H
section
open PySem PySem.W PySem.Calls PyProof.Rows
noncomputable abbrev PO:=jS
noncomputable abbrev aV:=List<|aH×PO
noncomputable abbrev dF(l:List dA):List aH:=l.filterMap (·.frame)
theorem so{i:dA}{outer:List dA}{L b:aH}(a:i.frame=O L)(hm:b∈dF (i::outer)):b=L∨b∈dF outer:=by
 refine aB (ND.mp hm) λe he h=>?_
 rcases d2.mp he with rfl|he
 ·exact .inl (cS<|a.symm.trans h).symm
 ·exact .inr<|ND.mpr<|aD e he h
inductive Kh(h base:cz)(e:aH)(cls fl:ak):Prop
 |mk:∀oe vs T oT ts,h.get? e=some oe->oe.cls=cls->oe.data=.fields vs->vs[1]? =some (.ref T)->vs[2]? =some .none->base.get? T=none->T≠e->h.get? T=some oT->oT.data=.fields ts->ts[3]? =some fl->Kh h base e cls fl
noncomputable def lV(base:cz)(l:List dA)(e:aH)(cls fl:ak)(h:cz):Prop:=base.StaysIn h/\base.get? e=U/\h.FunFrames base l/\Kh h base e cls fl
section
variable{M:uR}{A:dN}{E:ak->ay->Prop}{s:ay}{base:cz}{i:dA}{outer l:List dA}{L e:aH}{cls fl:ak}{Q:Unit->ay->Prop}
theorem uv{h:cz}{a oT:PO}{c ts:Array ak}{b T:aH}{o:PO}(hb:h.get? b=O o)(d:∀f,o.data≠ .fields f)(g:h.get? e=O a)(hd:a.data=.fields c):b≠e:=λq=>by
 rw[q,g] at hb;cases hb;exact d _ hd
theorem Ki{r:PO}{p:Array ak}{head:ak}{hadNext:Bool}(B:A.frames=some (i::outer))(x:s.heap.FunFrames base (i::outer))(R:i.frame=some L)(y:s.heap.get? e=some r)(F:base.StaysIn s.heap)(t:base.get? e=none)
  (hd:r.data=.fields p)(hsz:1<p.size)(h2:p[2]? =some .none)(h:∀G,lV base (i::outer) e r.cls (ls L) G->s.heap.UpToSlots G->Q () {s with heap:=G}):
  bl M A (do let a<-frameOf i;let z<-entryPlaceOf L hadNext;let b<-adp head a .none (ls L) .none z;setField (.ref e) 1 b) Q E s:=by
 have u:e∉dF (i::outer):=λhm=>by
  obtain⟨_,o,N,g⟩:=x.mem hm
  rw[y] at N;cases N;exact g p hd
 refine bu (wpAny_frameOf_fun B x R λc d=>bu (wpAny_entryPlaceOf λz v=>?_))
 unfold adp newFields
 refine bu (uT ?_ (v.sizeOk5 _ _ _ _ _))
 have f:=(d.2.1 e u).trans y
 have j:base.StaysIn c:=λb o hb=>(d.2.1 b λhm=>by rw[(x.mem hm).1] at hb;exact ba hb).trans (F b o hb)
 generalize S:({cls:=.type "traceback",dict:=none,data:=.fields ([head,.ref L,.none,ls L,.none]++(if z.isEmpty then jp 6 uO else z)).toArray}:PO)=oT
 have m:∃ts:Array ak,oT.data=.fields ts/\ts[3]? =some (ls L):=aD _ (by rw[<-S]) (by first|(simp;done)|(rcases v with rfl|⟨_,_,_,_,_,_,_,rfl⟩<;>simp))
 refine aB m λts m H=>?_
 refine AE (hJ oT f) hd hsz (h _ ?_ ?_)
 all_goals
  have w:=mU (mZ f)
  have keep:∀b o,b≠e->c.get? b=some o->((c.push oT).update e (NE (·.setIfInBounds 1 (.ref c.objs.size)))).get? b=some o:=λb o K hb=>by
   rw[xE _ _ (eG K)];exact hJ _ hb
 ·have k:=NG hd (·.setIfInBounds 1 (uP c.objs.size))
  refine⟨λb o hb=>keep b o (λq=>by rw[q,t] at hb;exact ba hb) (j b o hb),t,x.of_keeps λb o hb g=>?_,_,_,c.objs.size,oT,ts,E1 _ (hJ oT f) (E2 k),PySem.Obj.cls_mapFields ..,k,by simp[hsz],?_,j.fresh,w,?_,m,H⟩
  ·obtain⟨P,hs⟩:=d.2.2 b o hb
   exact aD _ (keep b _ (uv (T:=e) (ts:=p) (oT:=r) hb g y hd) hs) rfl
  ·rw[Array.getElem?_setIfInBounds_ne (by decide)];exact h2
  ·rw[xE _ _ (eG w)];exact kt c (by rw[E2 m])
 ·intro b o hb g
  obtain⟨P,hs⟩:=d.2.2 b o hb
  exact⟨P,keep b _ (uv (T:=e) (ts:=p) (oT:=r) hb g y hd) hs⟩
theorem Yr{a:PO}{b:Array ak}(c:A.frames=O (i::outer))(o:s.heap.FunFrames base<|i::outer)(j:i.frame=O L)(k:s.heap.get? e=O a)(d:base.StaysIn s.heap)(f:base.get? e=U)
  (hd:a.data=.fields b)(m:b[1]? =O .none)(h2:b[2]? =O .none)(h:∀g,lV base (i::outer) e a.cls (ls L) g->s.heap.UpToSlots g->Q () {s with heap:=g}):bl M A (AF (.ref e) i) Q E s:=by
 unfold AF;simp only[j];refine bu<|sZ k hd m ?_;rw[a9 (D J)];exact Ki c o j k d f hd (E3.mp m).1 h2 h
theorem Kj(g:A.frames=O (i::outer))(r:i.frame=O L)(x:lV base (i::outer) e cls .none s.heap)(h:∀d,lV base (i::outer) e cls (ls L) d->s.heap.UpToSlots d->Q () {s with heap:=d}):bl M A (AF (.ref e) i) Q E s:=by
 obtain⟨j,k,B,t,v,T,oT,ts,w,hcls,hd,y,h2,m,p,f,a,z⟩:=x;subst hcls;unfold AF;simp only[r];refine bu<|sZ w hd y ?_;rw[aN (by simp)];refine bu<|sZ f a z ?_;rw[a9 (by simp[ls])];refine bu<|AE f a (E3.mp z).1 ?_;have other:∀b,b≠T->(s.heap.update T (NE (·.setIfInBounds 3 uO))).get? b=s.heap.get? b:=λb hb=>xE _ _<|eG hb;refine Ki g (B.of_keeps λb o hb c=>aD o ((other b<|uv (T:=e) (ts:=v) (oT:=t) hb c f a).trans hb) J) r ((other e<|eG p).trans w)
  (λb o hb=>(other b λq=>by rw[q,m] at hb;exact ba hb).trans<|j b o hb) k hd (E3.mp y).1 h2
  λd x u=>h d x λb o hb c=>u b o ((other b<|uv (T:=e) (ts:=v) (oT:=t) hb c f a).trans hb) c
theorem zs(x:lV base l e cls fl s.heap)(h:∀k,lV base l e cls .none k->s.heap.UpToSlots k->Q () {s with heap:=k}):bl M A (Fi (.ref e) U) Q E s:=by
 obtain⟨m,p,w,r,t,T,oT,ts,u,hcls,hd,v,h2,g,i,j,a,y⟩:=x;have c:=(E3.mp y).1;have other:∀b,b≠T->(s.heap.update T (NE (·.setIfInBounds 3 ((U:Option aH).elim uO λf=>ls f)))).get? b=s.heap.get? b:=
  λb hb=>xE _ _<|eG hb
 unfold Fi;refine bu<|sZ u hd v ?_;rw[aN (by simp)];refine AE j a c<|h _ ⟨λb o hb=>(other b λq=>by rw[q,g] at hb;exact ba hb).trans<|m b o hb,p,w.of_keeps λb o hb d=>aD o ((other b<|uv (T:=e) (ts:=t) (oT:=r) hb d j a).trans hb) J,r,t,T,_,_,(other e<|eG i).trans u,hcls,hd,v,h2,g,i,E1 _ j<|E2<|NG a _,NG a _,by simp[c]⟩
  λb o hb d=>⟨o.slots,(other b<|uv (T:=e) (ts:=t) (oT:=r) hb d j a).trans hb⟩
theorem Kk{fl:ak}(x:lV base (i::outer) e cls fl h):lV base outer e cls fl h:=⟨x.1,x.2.1,x.2.2.1.2.2,x.2.2.2⟩
theorem Ys(g:A.frames=O (i::outer))(m:i.frame=O L)(x:lV base (i::outer) e cls .none s.heap)(h:∀j,lV base outer e cls .none j->s.heap.UpToSlots j->Q () {s with heap:=j}):bl M A («leaving» i<|.ref e) Q E s:=by
 unfold «leaving»;exact bu<|Kj g m x λk a b=>zs a λc d f=>h c (Kk d)<|b.trans f
theorem Yt{g:PO}{j:Array ak}(k:A.frames=O (i::outer))(r:s.heap.FunFrames base<|i::outer)(t:i.frame=O L)(u:s.heap.get? e=O g)(m:base.StaysIn s.heap)(o:base.get? e=U)
  (hd:g.data=.fields j)(v:j[1]? =O .none)(h2:j[2]? =O .none)(h:∀p,lV base outer e g.cls .none p->s.heap.UpToSlots p->Q () {s with heap:=p}):bl M A («leaving» i<|.ref e) Q E s:=by
 unfold «leaving»;exact bu<|Yr k r t u m o hd v h2 λq a b=>zs a λc d f=>h c (Kk d)<|b.trans f
end
noncomputable def bZ:aH:=129
inductive qM(base G:cz)(l:List dA)(e:aH)(news:aV)(h:cz):Prop
 |mk:∀B,base.StaysIn B->(∀b o,G.get? b=some o->b∉dF l->B.get? b=some o)->(∀q∈news,B.get? q.1=some q.2/\G.get? q.1=none/\base.get? q.1=none)->lV B l e (.ref bZ) .none h->qM base G l e news h
structure DC(h h':cz)(e:aH):Prop where
 DD:∀b o,h.get? b=some o->h'.get? b=some o
 ce:h.get? e=none
 Kl:∃oe vs,h'.get? e=some oe/\oe.cls=.ref bZ/\oe.data=.fields vs/\vs[1]? =some .none/\vs[2]? =some .none
theorem Yu(Y:s0 cm cs cells):(∀n c,(n,c)∈cs->L<c)->∀q∈cells,L<q.1:=by
 induction Y with
 |nil=>exactλh q a=>ax a eU
 |cons hd Y b=>exactλh q a=>(d2.mp a).elim (λe=>e▸h _ _ (.head _))<|b (λn c hm=>h n c<|.tail _ hm) q
theorem DE{cs:List<|aw×aH}{cells:aV}(Y:s0 cm cs cells):cells.map (·.1)=cs.map (·.2):=by
 induction Y with
 |nil=>rfl
 |cons hd Y a=>exact bJ (_::·) a
section
variable{K:cT}{p:kv}{loose:List aw}{lW:ExcName->Option ak}{mg mb:aw->Option ak}
theorem Yv{base a g j:cz}{f:dA}
  (B:lu A₀ base outer a)(h:Fr a L g m)(T:mj (dF<|f::outer) g j)(v:f.frame=O L):
  ∃k,mj (dF outer) a k/\Fr k L j m/\lu A₀ base outer k/\(∀b,j.get? b=U->k.get? b=U):=by
 have nL:=AG h;refine ej h.ns λE w x y l r s=>?_;obtain⟨F,hs⟩:=T.up y;obtain⟨c,d⟩:=aei (fs:=dF outer)
  (λb hb=>by
   obtain⟨_,o,t,_⟩:=B.frames.mem hb;exact⟨o,t⟩)
  (λb o e i=>T.other b o (h.keep b o e) (λq=>by
   rcases so v q with z|z
   ·rw[z,nL] at e;exact ba e
   ·exact i z))
  (λb o e hm=>T.up<|h.keep b o e)
 refine⟨_,c,⟨f8 _ w x hs l r s,d,by rw[c.size];exact h.above⟩,⟨B.stack,λb o e=>c.other b o (B.stays b o e) (λhm=>by
  rw[(B.frames.mem hm).1] at e;exact ba e),B.frames.of_keeps λb o e G=>by
  obtain⟨A,u⟩:=c.up e;exact aD _ u J⟩,λb e=>?_⟩
 cases q:(ktsHeap j (dF outer) a).get? b with
 |none=>rfl
 |some o=>have:=d b o q;rw[e] at this;exact ba this
set_option backward.match.sparseCases true in
theorem Km{A₀ A:dN}{s:ay}{base i nY:cz}{k:dA}
  {R:s1->ay->Prop}{name qual:aw}{scope:c4}{dV kV doc pm j ct oc:ak}{S:Array<|Option ak}{args:Args}{binds:List<|aw×ak}
  (B:lu A₀ base outer i)(F:Fr i L s.heap m)(r:K.In i)(N:News i L s.heap news)(T:oz p loose lW mg mb i)(XB:K.In base)(TB:oz p loose lW mg mb base)(a:s5 (dF outer) i)
  (T0:mj (dF outer) nY i)(hA:A.frames=O (k::outer))(V:k.frame=O L)(W:k.scope.kind=.function)
  (X:K.lookup f=O ⟨oc,od,.func<|fnOf name qual params body scope dV kV doc pm an j ct,S⟩)(Z:codeIn K j qual=I)(hroom:A.depth<qd)
  (hbind:AH s (fnOf name qual params body scope dV kV doc pm an j ct) args binds)
  (hkind:(binds.all λy=>scope.names.lookup y.1==O .local||scope.names.lookup y.1==O .cell)=I)(lh:((AI 0 scope.names []).map (·.1)).Nodup)
  (h:∀g t l tk cells,Fr i L g m->Fr g t l (xG (jU qual scope t f j).kindOf binds λξ=>U)->News g t l (cells++news)->s0 (bindC (jU qual scope t f j).kindOf binds λξ=>U) (AI (t+1) scope.names []) cells->lu A base (k::outer) g->K.In g->oz p loose lW mg mb g->s5 (dF<|k::outer) g->(∀p∈news,p.1<t)->(∀p∈cells,t<p.1)->(cells.map (·.1)).Nodup->(∀E,mj (dF<|k::outer) g E->∃d,mj (dF outer) nY d/\Fr d L E m/\lu A₀ base outer d/\K.In d/\oz p loose lW mg mb d/\s5 (dF outer) d/\(∀b,E.get? b=U->d.get? b=U))->bl (du prog w) (A.deeper<|jU qual scope t f j) (execs body<|jU qual scope t f j) (λfl Q=>R (.ok<|.ret<|match fl with|.ret v=>v|_=>.none) Q) (λe Q=>bl (du prog w) (A.deeper<|jU qual scope t f j) («leaving» (jU qual scope t f j) e) (λξ H=>R (.error e) H) (λe' H=>R (.error e') H) Q) {s with heap:=l,toks:=tk})
  (hco:scope.isCoroutine=C)(hgen:scope.isGenerator=C)(hk:scope.kind=.function):ky (du prog w) A (.call (.ref f) args) R s:=by
 refine u0 (groundX (R:=R) B F N hA V W) ?_;rintro FG BG st-;have DG:s5 (dF<|k::outer) (ml s.heap (news.map (·.1))):=λb hb=>by
  rcases so V hb with rfl|hb
  ·refine xX FG.ns λo es n X hd ξ=>?_;exact lz o es n X hd
  ·exact iU (a b hb) λo es' n' ho' hd'=>lz o es' n' (st b o ho') hd'
 have UP:∀E,mj (dF<|k::outer) (ml s.heap (news.map (·.1))) E->∃d,mj (dF outer) nY d/\Fr d L E m/\lu A₀ base outer d/\K.In d/\oz p loose lW mg mb d/\s5 (dF outer) d/\(∀b,E.get? b=U->d.get? b=U):=λE T'=>FU (Yv B FG T' V) λh' G M u P=>OG h' (T0.trans G) M u (XB.keeps u.stays) (TB.keeps u.stays) (a.turn G) P;refine aej hroom ((r.keeps F.keep) _ _ X) J hco hgen J (codeRec_of (r.keeps F.keep) Z)<|hbind _ _ _ _ ?_;refine aek hk (kindsX hkind _) λenv' he Q x=>?_;subst he;refine⟨(T.nolimit.keeps F.keep).keeps x.toInCall.keep,ael ?_⟩;refine eB x.done ?_;rintro l tk rfl _;have z:=x.toInCall.keep;refine aB (Cl.news (bF _) λn c hm=>⟨x.cell n c<|aem (Oe scope.names 0 (s.heap.objs.size+1) [] [] J▸lh) hm,x.above n c hm⟩) λcells NC Y=>?_;have hcl:∀q∈cells,s.heap.objs.size<q.1:=Yu Y λn c hm=>x.above n c hm;have hcn:(cells.map (·.1)).Nodup:=by rw[DE Y];exact adq.mpr x.apart
 refine h _ s.heap.objs.size l tk cells FG ⟨x.toInCall.ns,λb o e=>z b o<|Fj _ e,b7<|hideAll_size _ _⟩ (λp hp=>?_) Y BG (r.keeps st) (T.keeps st) DG (λp hp=>mZ (N p hp).1) hcl hcn UP
 rcases eT.mp hp with hp|hp
 ·refine⟨(NC p hp).1,(NC p hp).2.1,?_⟩
  cases q:(ml s.heap (news.map (·.1))).get? p.1 with
  |none=>rfl
  |some o=>have:=Fj _ q;rw[(NC p hp).2.2] at this;exact ba this
 ·exact⟨z _ _ (N p hp).1,e9<|mZ (N p hp).1,aen _<|om hp⟩
end
noncomputable def de:eX->aH
 |.u=>38
 |.j=>230
 |.vg=>175
 |.q=>209
 |.i=>477
 |.vh=>612
 |.vi=>815
 |.vj=>916
 |.y=>720
 |.tg=>701
 |.ti=>767
 |.tj=>897
noncomputable def eb(a:At):aw:=⟨a.toArray⟩
noncomputable def iM:List At:=[.bO,.aq,.a_,.cj,.aP,.aJ,.jv,.kA,.gT,.fY,.dU,.lC,.bS,.oG,.rm,.iz,.qg,.qh,.rn,.lD,.rq,.rt,.s8,.s9,.hQ,.tb,.vb,.vc,.vd,.ve,.tc,.x0,.m3,.x6,.Ba]
structure lX(fs:List (At×V)):Prop where
 nd:(fs.map (·.1)).Nodup
 DF:∀q∈fs,q.1∈iM
noncomputable def sV(l:List Nat):aw:=⟨l.toArray⟩
noncomputable abbrev cZ(a:Array ak)(n:Nat):PO:={cls:=.type "list",data:=.seq a n}
noncomputable abbrev DH(a:Array ak)(n:Nat):PO:={cls:=.type "tuple",data:=.seq a n}
noncomputable abbrev nZ(a:Array eA)(n:Nat):PO:={cls:=.type "dict",data:=.dict a n}
structure Zs where
 Z:aV
 ad:List aH
structure Cx where
 dh:kv
 w:ed
 K:cT
 p:kv
 f3:List aw
 lW:ExcName->Option ak
 mg:aw->Option ak
 mb:aw->Option ak
noncomputable def KX(P:bX)(q:aH×jS):cT:=KF P++[q]
noncomputable def wQ(c:Cx):Prop:=∀(q:aH×jS) (s:ay) (a:aH) (e:Array ak) (n:Nat) (ts:List<|Int×qX) (H:Hp) (Q E:ak->ay->Prop),c.K=KX c.w.params q->c.K.In s.heap->oz c.p c.f3 c.lW c.mg c.mb s.heap->c.K.lookup a=O (cZ e n)->e.size<=eH->e.toList=ts.map (λp=>.int p.1 p.2)->
 Mine.ag 340 .j [.af (ts.map λp=>.aa p.1)] []=.ok (.i I) H->(∀d,(∀b o,s.heap.get? b=O o->d.heap.get? b=O o)->d={s with heap:=d.heap,toks:=d.toks}->Q (.bool I) d)->bl (du c.dh c.w) Fb (kq (.ref 1118) [.ref a]) Q E s
noncomputable def cx:Cx:= @Classical.epsilon Cx ⟨⟨default,aWorld 0,[],default,[],λa=>U,λa=>U,λa=>U⟩⟩ λc=>¬wQ c
theorem Yw(h:wQ cx)(c:Cx):wQ c:=M8 λn=>Classical.epsilon_spec_aux ⟨c⟩ (λc=>¬wQ c) ⟨c,n⟩ h
noncomputable def Zs.dZ(z:Zs)(a:aH)(o:PO):Prop:=(a,o)∈z.Z∨cx.K.lookup a=O o
structure Zs.le(z B:Zs):Prop where
 ez:∀q∈z.Z,q∈B.Z
 ad:∃r,B.ad=z.ad++r
theorem Zs.le.refl{z:Zs}:z.le z:=⟨λa h=>h,[],by simp⟩
theorem Zs.le.q{z B a:Zs}(x:z.le B)(y:B.le a):z.le a:=by
 obtain⟨r,e⟩:=x.ad;obtain⟨b,c⟩:=y.ad;exact⟨λq h=>y.ez q<|x.ez q h,r++b,by rw[c,e,b6]⟩
theorem Zs.le.dZ{z B:Zs}(x:z.le B)(h:z.dZ a o):B.dZ a o:=h.elim (λh=>.inl<|x.ez _ h) .inr
theorem Zs.le.at{z B:Zs}(x:z.le B){i:Nat}{a:aH}(h:z.ad[i]? =O a):B.ad[i]? =O a:=by
 obtain⟨r,e⟩:=x.ad;rw[e];have:=(fM.mp h).1;rw[p7 this];exact h
noncomputable def DI(w:ed)(a:Array eA):Prop:=(∀e∈a,∃i t,e.key=.int i t/\e.hash=hashInt i)∨(∀e∈a,∃x t,e.key=.str x t/\e.hash=hashStr w x)
mutual
noncomputable def aA(z:Zs):V->ak->Prop
 |.none,v=>v=.none
 |.i b,v=>v=.bool b
 |.aa i,v=>∃t,v=.int i t
 |.ah s,v=>(∃t,v=.str (sV s) t)/\s.length<=eH
 |.u g,v=>∃a e n,v=.ref a/\z.dZ a (DH e n)/\e.size<=eH/\aR z g e.toList
 |.af g,v=>∃a e n,v=.ref a/\z.dZ a (cZ e n)/\e.size<=eH/\aR z g e.toList
 |.aQ c h,v=>∃a d f n,v=.ref a/\z.dZ a (sX (de c) d)/\z.dZ d (nZ f n)/\lX h/\gQ z h f.toList
 |.dct j,v=>∃a f n,v=.ref a/\z.dZ a (nZ f n)/\(DI cx.w f/\(a==sysModules)=C)/\kb z j f.toList
 |.ae i,v=>∃a,v=.ref a/\z.ad[i]? =O a
noncomputable def aR(z:Zs):List V->List ak->Prop
 |[],[]=>True
 |x::a,v::b=>aA z x v/\aR z a b
 |_,_=>False
noncomputable def gQ(z:Zs):List (At×V)->List eA->Prop
 |[],[]=>True
 |(a,x)::b,e::c=>((∃t,e.key=.str (eb a) t)/\aA z x e.val)/\gQ z b c
 |_,_=>False
noncomputable def kb(z:Zs):List (V×V)->List eA->Prop
 |[],[]=>True
 |(k,x)::a,e::b=>(aA z k e.key/\aA z x e.val)/\kb z a b
 |_,_=>False
end
theorem V.j{M:V->Prop}(j:M .none)(k:∀b,M<|.i b)(h2:∀i,M<|.aa i)(l:∀s,M<|.ah s)(h4:∀a,(∀x∈a,M x)->M (.u a))(h5:∀a,(∀x∈a,M x)->M (.af a))(h6:∀c fs,(∀q∈fs,M q.2)->M (.aQ c fs))(h7:∀g,(∀q∈g,M q.1/\M q.2)->M (.dct g))(h8:∀i,M<|.ae i)(x:V):M x:=
 V.rec j k h2 l h4 h5 h6 h7 h8
  (λ_ h=>ax h eU) (λ_ _ h d x f=>(d2.mp f).elim (λe=>e▸h)<|d x) (λ_ h=>ax h eU) (λ_ _ h d x f=>(d2.mp f).elim (λe=>e▸h)<|d x) (λ_ h=>ax h eU) (λ_ _ h d x f=>(d2.mp f).elim (λe=>e▸h)<|d x) (λ_ _ h=>h) (λ_ _ h m=>⟨h,m⟩) x
structure Zs.lk(k:Nat)(z B:Zs):Prop where
 dZ:∀{a o},z.dZ a o->B.dZ a o
 cN:∀{i:Nat} {a},i<k->z.ad[i]? =some a->B.ad[i]? =some a
noncomputable def RL(k:Nat)(x:V):Prop:=∀(z B:Zs) (v:ak),z.lk k B->aA z x v->aA B x v
section
variable{z B:Zs}
theorem aR.i:∀{b:List ak},aR z a b->∀x∈a,∃v,aA z x v:=by
 induction a with
 |nil=>exactλ_ _ h=>ax h eU
 |cons x a c=>exactλ{b} r=>match b with|[]=>r.elim|_::_=>λy d=>(d2.mp d).elim (λe=>e▸⟨_,r.1⟩)<|c r.2 y
theorem gQ.i:∀{a:List eA},gQ z fs a->∀q∈fs,∃v,aA z q.2 v:=by
 induction fs with
 |nil=>exactλ_ _ h=>ax h eU
 |cons x f b=>exactλ{c} r=>match c with|[]=>r.elim|_::_=>λy d=>(d2.mp d).elim (λe=>e▸⟨_,r.1.2⟩)<|b r.2 y
theorem kb.i:∀{b:List eA},kb z a b->∀q∈a,(∃v,aA z q.1 v)/\∃v,aA z q.2 v:=by
 induction a with
 |nil=>exactλ_ _ h=>ax h eU
 |cons x g c=>exactλ{d} r=>match d with|[]=>r.elim|_::_=>λy f=>(d2.mp f).elim (λe=>e▸⟨⟨_,r.1.1⟩,_,r.1.2⟩)<|c r.2 y
theorem aR.u(le:z.lk k B):∀{a:List ak},(∀x∈b,RL k x)->aR z b a->aR B b a:=by
 induction b with
 |nil=>exactλ{a} _ r=>match a with|[]=>r|_::_=>r.elim
 |cons x b c=>exactλ{a} h r=>match a with|[]=>r.elim|_::_=>⟨h _ (.head _) _ _ _ le r.1,c (λy d=>h y<|.tail _ d) r.2⟩
theorem gQ.u(le:z.lk k B):∀{b:List eA},(∀q∈fs,RL k q.2)->gQ z fs b->gQ B fs b:=by
 induction fs with
 |nil=>exactλ{a} _ r=>match a with|[]=>r|_::_=>r.elim
 |cons x e c=>exactλ{a} h r=>match a with|[]=>r.elim|_::_=>⟨⟨r.1.1,h _ (.head _) _ _ _ le r.1.2⟩,c (λy d=>h y<|.tail _ d) r.2⟩
theorem kb.u(le:z.lk k B):∀{c:List eA},(∀q∈a,RL k q.1/\RL k q.2)->kb z a c->kb B a c:=by
 induction a with
 |nil=>exactλ{b} _ r=>match b with|[]=>r|_::_=>r.elim
 |cons x f d=>exactλ{b} h r=>match b with|[]=>r.elim|_::_=>⟨⟨(h _<|.head _).1 _ _ _ le r.1.1,(h _<|.head _).2 _ _ _ le r.1.2⟩,d (λy e=>h y<|.tail _ e) r.2⟩
theorem aA.rl(x:V):∀{z:Zs} {v:ak},aA z x v->RL z.ad.length x:=by
 induction x using V.j with
 |h4 l g=>exactλr _ _ _ le b=>ej r λ_ _ _ _ _ _ r=>ej b λa j n e o h b=>f8 a j n e (le.dZ o) h (b.u le λx f=>(r.i x f).elim λ_=>g x f)
 |h5 l g=>exactλr _ _ _ le b=>ej r λ_ _ _ _ _ _ r=>ej b λa j n e o h b=>f8 a j n e (le.dZ o) h (b.u le λx f=>(r.i x f).elim λ_=>g x f)
 |h6 c p g=>exactλr _ _ _ le b=>A5 r λ_ _ _ _ _ _ _ _ r=>A5 b λa d m n e o k h b=>A6 a d m n e (le.dZ o) (le.dZ k) h (b.u le λx f=>(r.i x f).elim λ_=>g x f)
 |h7 q g=>exactλr _ _ _ le b=>ej r λ_ _ _ _ _ _ r=>ej b λa j n e o h b=>f8 a j n e (le.dZ o) h (b.u le λx f=>⟨(r.i x f).1.elim λ_=>(g x f).1,(r.i x f).2.elim λ_=>(g x f).2⟩)
 |h8 i=>exactλr _ _ _ le b=>aB r λ_ _ o=>aB b λa e k=>aD a e<|le.cN (fM.mp o).1 k
 |_=>exactλ_ _ _ _ _ r=>r
theorem Zs.le.lk(h:z.le B){k:Nat}:z.lk k B:=⟨h.dZ,λ_=>h.at⟩
theorem aA.au(h:z.le B)(x:V)(v:ak)(r:aA z x v):aA B x v:=aA.rl x r _ _ _ h.lk r
theorem aR.au(h:z.le B)(a:List V)(b:List ak)(r:aR z a b):aR B a b:=r.u h.lk λx c=>(r.i x c).elim λ_=>aA.rl x
theorem gQ.au(h:z.le B)(a:List<|At×V)(b:List eA)(r:gQ z a b):gQ B a b:=r.u h.lk λx c=>(r.i x c).elim λ_=>aA.rl x.2
theorem kb.au(h:z.le B)(a:List<|V×V)(b:List eA)(r:kb z a b):kb B a b:=r.u h.lk λx c=>⟨(r.i x c).1.elim λ_=>aA.rl x.1,(r.i x c).2.elim λ_=>aA.rl x.2⟩
end
theorem aR.j{z:Zs}:∀{a:List V} {b:List ak},aR z a b->a.length=b.length
 |[],[],_=>rfl
 |[],_::_,r=>r.elim
 |_::_,[],r=>r.elim
 |_::_,_::_,r=>by simp[aR.j r.2]
theorem aR.nil{z:Zs}:aR z [] []:=by trivial
theorem aR.cons{z:Zs}(h:aA z x v)(t:aR z a b):aR z (x::a) (v::b):=⟨h,t⟩
theorem aR.cN{z:Zs}:∀{a:List V} {b:List ak},aR z a b->∀(i:Nat),(a[i]? =.none/\b[i]? =.none)∨∃x v,a[i]? =O x/\b[i]? =O v/\aA z x v:=by
 intro a
 induction a with
 |nil=>
  intro d
  induction d using aW with
  |nil=>
  intro c;intro i;exact .inl<|by simp
  |cons c c=>
  intro r;intro c;exact r.elim
 |cons x a e=>
  intro f
  induction f using aW with
  |nil=>
  intro r;intro c;exact r.elim
  |cons v b=>
  intro r;intro i
  induction i using fW with
  |zero=>exact .inr<|cK x v J J r.1
  |succ i=>simpa using e r.2 i
theorem aR.q{z:Zs}:∀{b:List V} {c:List ak} {d:List V} {e:List ak},aR z b c->aR z d e->aR z (b++d) (c++e):=by
 intro b
 induction b with
 |nil=>
  intro f
  induction f using aW with
  |nil=>
  intro a;intro a;intro a;intro t;simpa using t
  |cons a a=>
  intro a;intro a;intro r;intro a;exact r.elim
 |cons x b g=>
  intro h
  induction h using aW with
  |nil=>
  intro a;intro a;intro r;intro a;exact r.elim
  |cons v c=>
  intro a;intro a;intro r;intro t;exact aR.cons r.1<|g r.2 t
theorem aR.fC{z:Zs}:∀{a:List V} {c:List ak} (n:Nat),aR z a c->aR z (a.take n) (c.take n):=by
 intro a
 induction a with
 |nil=>
  intro d
  induction d using aW with
  |nil=>
  intro n;intro b;simp[aR.nil]
  |cons b b=>
  intro b;intro r;exact r.elim
 |cons x a e=>
  intro f
  induction f using aW with
  |nil=>
  intro b;intro r;exact r.elim
  |cons v c=>
  intro n;intro r
  induction n using fW with
  |zero=>simp[aR.nil]
  |succ n=>exact aR.cons r.1<|e n r.2
theorem aR.y{z:Zs}:∀{a:List V} {c:List ak} (n:Nat),aR z a c->aR z (a.drop n) (c.drop n):=by
 intro a
 induction a with
 |nil=>
  intro d
  induction d using aW with
  |nil=>
  intro n;intro b;simp[aR.nil]
  |cons b b=>
  intro b;intro r;exact r.elim
 |cons x a e=>
  intro f
  induction f using aW with
  |nil=>
  intro b;intro r;exact r.elim
  |cons v c=>
  intro n;intro r
  induction n using fW with
  |zero=>exact aR.cons r.1 r.2
  |succ n=>exact e n r.2
inductive g8(z:Zs):b4->aH->aV->Prop
 |af {xs:List V} {a:aH} {vs:Array ak} {n:Nat}:aR z xs vs.toList->vs.size<=eH->g8 z (.af xs) a [(a,cZ vs n)]
 |aQ {c:eX} {fs:List (At×V)} {a d:aH} {es:Array eA} {n:Nat}:lX fs->gQ z fs es.toList->g8 z (.aQ c fs) a [(a,sX (de c) d),(d,nZ es n)]
 |i {a:aH}:g8 z .i a []
theorem g8.au{z b:Zs}(h:z.le b){g:aV}(x:g8 z o a g):g8 b o a g:=by
 induction x with
 |af r q=>exact .af (aR.au h _ _ r) q
 |aQ q r=>exact .aQ q<|gQ.au h _ _ r
 |i=>exact .i
structure kc(z:Zs)(H:Hp)(B:List aV):Prop where
 bK:H.length=z.ad.length
 qN:B.length=z.ad.length
 dW:∀(i:Nat) (o:b4) (a:aH) (g:aV),H[i]? =some o->z.ad[i]? =some a->B[i]? =some g->g8 z o a g
theorem kc.cN{z:Zs}{H:Hp}{B:List aV}(x:kc z H B){i:Nat}{o:b4}(h:H[i]? =O o):∃a g,z.ad[i]? =O a/\B[i]? =O g/\g8 z o a g:=by
 have d:=(fM.mp h).1;have b:=x.bK▸d;have h2:=x.qN▸b;exact cK _ _ (li b) (li h2)<|x.dW i o _ _ h (li b)<|li h2
theorem kc.au{z:Zs}{H:Hp}{B:List aV}(x:kc z H B){Z:aV}(h:∀q∈z.Z,q∈Z):kc ⟨Z,z.ad⟩ H B:=
 ⟨x.bK,x.qN,λi o a g b h2 d=>(x.dW i o a g b h2 d).au ⟨h,[],by simp⟩⟩
theorem kc.q{z:Zs}{H:Hp}{B:List aV}(x:kc z H B){g:aV}(h:g8 z o a g):kc ⟨z.Z,z.ad++[a]⟩ (H++[o]) (B++[g]):=by
 have le:z.le ⟨z.Z,z.ad++[a]⟩:=⟨λl h=>h,[a],J⟩;refine⟨by simp[x.bK],by simp[x.qN],λi e f j b h2 d=>?_⟩;have e1:=x.bK;have e2:=x.qN
 dsimp only at h2
 rw[List.getElem?_append] at b h2 d
 by_cases q:i<z.ad.length
 ·rw[aN (by lia)] at b h2 d;exact(x.dW i e f j b h2 d).au le
 ·rw[a9 (by lia)] at b h2 d;have k:i-H.length=0:=by
   have:=(fM.mp b).1;simp at this;exact Am (L1<|b7 this)<|by simp+arith only
  rw[show i-z.ad.length=0 by lia] at h2;rw[show i-B.length=0 by lia] at d;rw[k] at b;simp at b h2 d;subst b h2 d;exact h.au le
theorem kc.y{z:Zs}{H:Hp}{B:List aV}(x:kc z H B){g:aV}(e:z.ad[i]? =O a)(h:g8 z o a g):kc z (H.set i o) (B.set i g):=by
 refine⟨by simp[x.bK],by simp[x.qN],λj f k l b h2 d=>?_⟩
 by_cases q:i=j
 ·subst q;rw[e] at h2;rw[oi (by have:=(fM.mp b).1;simpa using this)] at b;rw[oi (by have:=(fM.mp d).1;simpa using this)] at d
  cases b;cases h2;cases d;exact h
 ·rw[mS q] at b d;exact x.dW j f k l b h2 d
structure Fm where
 A₀:dN
 lY:cz
 iq:List dA
 L:aH
 aS:dA
 nY:cz
 P:aV
 eP:ay
section
structure Fm.Ok(c:Fm):Prop where
 wR:c.aS.frame=some c.L
 aq:c.aS.scope.kind=.function
 jM:c.aS.globals=ey
 hV:c.aS.builtins=uS
 XB:cx.K.In c.lY
 TB:oz cx.p cx.f3 cx.lW cx.mg cx.mb c.lY
 jk:c.aS.locals=c.L
 dZ:∀x,c.aS.kindOf x=some .cell->(c.aS.cells.lookup x).isSome=true
noncomputable abbrev bP(c:Fm)(z:Zs)(cs:aV)(B:List aV):aV:=c.P++(cs++(z.Z++B.flatten))
structure bG(c:Fm)(z:Zs)(H:Hp)(m:aw->Option ak)(cs:aV)(s:ay)(g:cz)(B:List aV):Prop where
 ir:mj (dF c.iq) c.nY g
 fr:Fr g c.L s.heap m
 nw:News g c.L s.heap (bP c z cs B)
 jl:lu c.A₀ c.lY c.iq g
 dv:cx.K.In g
 fK:oz cx.p cx.f3 cx.lW cx.mg cx.mb g
 jN:s5 (dF c.iq) g
 nd:((bP c z cs B).map (·.1)).Nodup
 cW:kc z H B
 fA:s={c.eP with heap:=s.heap,toks:=s.toks}
inductive St(c:Fm)(z:Zs)(H:Hp)(m:aw->Option ak)(cs:aV)(s:ay):Prop
 |mk:∀g B,bG c z H m cs s g B->St c z H m cs s
end
section
variable{c:Fm}{z:Zs}{H:Hp}{m:aw->Option ak}{cs:aV}{s:ay}{g:cz}{B:List aV}
theorem News.i{g h f:cz}{L:aH}{m:aw->Option ak}{d nw:aV}(F:Fr g L h m)(N:News g L h d)(i:∀b o,h.get? b=O o->f.get? b=O o)
  (j:∀q∈nw,f.get? q.1=O q.2/\h.objs.size<=q.1):∀q,q∈nw∨q∈d->f.get? q.1=O q.2/\q.1≠L/\g.get? q.1=none:=λq hq=>by
 rcases hq with hq|hq
 ·obtain⟨a,b⟩:=j q hq;refine⟨a,λe=>?_,?_⟩
  ·exact ax F.ns.lt<|rb.mpr<|e▸b
  ·cases e:g.get? q.1 with
   |none=>rfl
   |some o=>exact ax (mZ<|F.keep _ _ e)<|rb.mpr b
 ·exact⟨i _ _ (N q hq).1,(N q hq).2⟩
theorem bG.lt(S:bG c z H m cs s g B):∀q∈bP c z cs B,q.1<s.heap.objs.size:=λq a=>mZ (S.nw q a).1
theorem Yx{d f:List aH}(h:f.Nodup)(i:∀y∈f,y<n)(j:d.Nodup)(hg:∀x∈d,n<=x):(d++f).Nodup:=
 mY.mpr ⟨j,h,λa k b hb e=>ax (i b hb)<|rb.mpr<|e▸hg a k⟩
theorem wS{b:Type}:∀(a:List<|List b) (i:Nat) (g:List b),a[i]? =O g->a.flatten.Perm (g++(a.set i []).flatten):=by
 intro a
 induction a with
 |nil=>
  intro i;intro g;intro h;simp at h
 |cons l a d=>
  intro e
  induction e using fW with
  |zero=>
  intro g;intro h;simp at h;subst h;simp
  |succ i=>
  intro g;intro h;have:=d i g<|by simpa using h
  simp only[adr,ads];exact(sR l this).trans (by
   rw[<-b6,<-b6];exact uQ _ sS)
theorem Kn{a:Type}(b:List<|List a)(g:List a):(b++[g]).flatten=b.flatten++g:=by simp
theorem St.y(S:St c z H m cs s){d:cz}{tk:Nat}(nw:aV)(f:∀b o,s.heap.get? b=O o->d.get? b=O o)
  (i:∀q∈nw,d.get? q.1=O q.2/\s.heap.objs.size<=q.1)(hd:(nw.map (·.1)).Nodup):St c ⟨nw++z.Z,z.ad⟩ H m cs {s with heap:=d,toks:=tk}:=by
 obtain⟨g,B,S⟩:=S;have hp:(bP c ⟨nw++z.Z,z.ad⟩ cs B).Perm (nw++bP c z cs B):=by
  show(c.P++(cs++((nw++z.Z)++B.flatten))).Perm (nw++(c.P++(cs++(z.Z++B.flatten))));have e:c.P++(cs++((nw++z.Z)++B.flatten))=(c.P++cs)++(nw++(z.Z++B.flatten)):=by simp
  have j:nw++(c.P++(cs++(z.Z++B.flatten)))=nw++((c.P++cs)++(z.Z++B.flatten)):=by simp
  rw[e,j,<-b6,<-b6 nw];exact uQ _ sS
 refine⟨g,B,S.ir,S.fr.keeps f,λq a=>?_,S.jl,S.dv,S.fK,S.jN,?_,S.cW.au λq h=>dj _ h,by rw[S.fA]⟩
 ·exact News.i S.fr S.nw f i q<|eT.mp<|hp.mem_iff.mp a
 ·refine(hp.map _).nodup_iff.mpr ?_;rw[dz];refine Yx (n:=s.heap.objs.size) S.nd (λy k=>?_) hd λx l=>?_
  ·refine aB (eh.mp k) ?_;rintro q a rfl;exact S.lt q a
  ·refine aB (eh.mp l) ?_;rintro q a rfl;exact(i q a).2
theorem Ko(c:Fm)(z:Zs)(cs:aV)(B:List aV)(nw:aV):(bP c ⟨nw++z.Z,z.ad⟩ cs B).Perm (nw++bP c z cs B):=by
 show(c.P++(cs++((nw++z.Z)++B.flatten))).Perm (nw++(c.P++(cs++(z.Z++B.flatten))));have e:c.P++(cs++((nw++z.Z)++B.flatten))=(c.P++cs)++(nw++(z.Z++B.flatten)):=by simp
 have a:nw++(c.P++(cs++(z.Z++B.flatten)))=nw++((c.P++cs)++(z.Z++B.flatten)):=by simp
 rw[e,a,<-b6,<-b6 nw];exact uQ _ sS
theorem Kr(c:Fm)(z:Zs)(cs:aV)(B:List aV)(b:aV)(a:aH):(bP c ⟨z.Z,z.ad++[a]⟩ cs<|B++[b]).Perm (b++bP c z cs B):=by
 show(c.P++(cs++(z.Z++(B++[b]).flatten))).Perm (b++(c.P++(cs++(z.Z++B.flatten))));rw[Kn];have e:c.P++(cs++(z.Z++(B.flatten++b)))=(c.P++(cs++(z.Z++B.flatten)))++b:=by simp
 rw[e];exact sS
theorem zt{nw d:aV}(h:(d.map (·.1)).Nodup)(hd:(nw.map (·.1)).Nodup)(f:∀q∈nw,∀r∈d,r.1<q.1):((nw++d).map (·.1)).Nodup:=by
 rw[dz];refine mY.mpr ⟨hd,h,λa i b hb e=>?_⟩;refine aB (eh.mp i) ?_;rintro q j rfl;refine aB (eh.mp hb) ?_;rintro r hr rfl;exact ax (f q j r hr) (by rw[e];exact NA _)
theorem bG.DJ(S:bG c z H m cs s g B){nw:aV}(b:Fr g c.L a m)(d:News g c.L a<|nw++bP c z cs B)(e:∀q∈nw,∀r∈bP c z cs B,r.1<q.1)(hd:(nw.map (·.1)).Nodup):
  bG c ⟨nw++z.Z,z.ad⟩ H m cs {s with heap:=a,toks:=tk} g B:=by
 have hp:=Ko c z cs B nw;exact⟨S.ir,b,λq f=>d q<|hp.mem_iff.mp f,S.jl,S.dv,S.fK,S.jN,(hp.map _).nodup_iff.mpr<|zt S.nd hd e,S.cW.au λq h=>dj _ h,by rw[S.fA]⟩
theorem bG.DK(S:bG c z H m cs s g B){gr:aV}(d:Fr g c.L b m)(e:News g c.L b<|gr++bP c z cs B)(f:∀q∈gr,∀r∈bP c z cs B,r.1<q.1)(hd:(gr.map (·.1)).Nodup)
  (h:g8 z o a gr):bG c ⟨z.Z,z.ad++[a]⟩ (H++[o]) m cs {s with heap:=b,toks:=tk} g (B++[gr]):=by
 have hp:=Kr c z cs B gr a;exact⟨S.ir,d,λq i=>e q<|hp.mem_iff.mp i,S.jl,S.dv,S.fK,S.jN,(hp.map _).nodup_iff.mpr<|zt S.nd hd f,S.cW.q h,by rw[S.fA]⟩
theorem St.j(S:St c z H m cs s)(tk:Nat):St c z H m cs {s with toks:=tk}:=by
 obtain⟨g,B,S⟩:=S;exact⟨g,B,S.ir,S.fr,S.nw,S.jl,S.dv,S.fK,S.jN,S.nd,S.cW,by rw[S.fA]⟩
noncomputable def qO(c:Fm)(z:Zs)(cs:aV)(B:List aV)(i:Nat)(pre post:aV):aV:=pre++post++(c.P++(cs++(z.Z++(B.set i []).flatten)))
theorem zu{pre post:aV}(hg:B[i]? =O (pre++(d,od)::post)):(bP c z cs B).Perm ((d,od)::qO c z cs B i pre post):=by
 have q:=wS B i _ hg;have e:bP c z cs B=(c.P++(cs++z.Z))++B.flatten:=by simp[bP]
 rw[e];refine(sR _ q).trans ?_;have e2:(c.P++(cs++z.Z))++((pre++(d,od)::post)++(B.set i []).flatten)=(c.P++(cs++z.Z)++pre)++(d,od)::(post++(B.set i []).flatten):=by simp
 rw[e2];refine NJ.trans<|As _ ?_;have a:(c.P++(cs++z.Z)++pre)++(post++(B.set i []).flatten)=(c.P++(cs++z.Z))++(pre++post)++(B.set i []).flatten:=by simp
 have b:pre++post++(c.P++(cs++(z.Z++(B.set i []).flatten)))=(pre++post)++(c.P++(cs++z.Z))++(B.set i []).flatten:=by simp
 unfold qO;rw[a,b];exact uQ _ sS
theorem Yy{pre post:aV}(a:i<B.length):(bP c z cs<|B.set i<|pre++(d,od')::post).Perm ((d,od')::qO c z cs B i pre post):=by
 have:=zu (c:=c) (z:=z) (cs:=cs) (pre:=pre) (post:=post) (d:=d) (od:=od')<|oi a;unfold qO at this⊢;rwa [oo] at this
theorem bG.Ks(S:bG c z H m cs s g B){i:Nat}{pre post:aV}(hg:B[i]? =O (pre++(d,b)::post)):∀q∈qO c z cs B i pre post,q.1≠d:=λq f e=>by
 have a:=((zu hg).map (·.1)).nodup_iff.mp S.nd;exact(iQ.mp<|by simpa only[iP] using a).1<|eh.mpr<|aD q f e
theorem bG.Kt(S:bG c z H m cs s g B){i:Nat}{pre post:aV}(l:z.ad[i]? =O a)(hg:B[i]? =O (pre++(d,k)::post))
  (o:Fr g c.L f m)(p:News g c.L f<|(d,b)::qO c z cs B i pre post)(r:g8 z e a<|pre++(d,b)::post):bG c z (H.set i e) m cs {s with heap:=f,toks:=tk} g (B.set i<|pre++(d,b)::post):=by
 have t:=(fM.mp hg).1;have u:=zu (c:=c) (z:=z) (cs:=cs) hg;have j:=Yy (c:=c) (z:=z) (cs:=cs) (d:=d) (pre:=pre) (post:=post) (od':=b) t;refine⟨S.ir,o,λq v=>p q<|j.mem_iff.mp v,S.jl,S.dv,S.fK,S.jN,?_,S.cW.y l r,by rw[S.fA]⟩;have h:=(u.map (·.1)).nodup_iff.mp S.nd;refine(j.map _).nodup_iff.mpr ?_;simpa only[iP] using h
theorem bG.DL(S:bG c z H m cs s g B){i:Nat}{pre post:aV}(hg:B[i]? =O (pre++(d,a)::post)):News g c.L s.heap ((d,a)::qO c z cs B i pre post):=
 λq b=>S.nw q<|(zu hg).mem_iff.mpr b
theorem bG.u(S:bG c z H m cs s g B){k:cz}{i:Nat}{pre post:aV}{l j:PO}(r:z.ad[i]? =O a)(hg:B[i]? =O (pre++(d,l)::post))
  (hs:sU d s.heap k)(hd:k.get? d=O j)(t:g8 z h a<|pre++(d,j)::post):bG c z (H.set i h) m cs {s with heap:=k,toks:=tk} g (B.set i<|pre++(d,j)::post):=by
 have N:=S.DL hg;have f:=N (d,l)<|.head _;refine S.Kt r hg ⟨S.fr.ns.sameBut hs<|eG f.2.1,λb o e=>(hs.2 b λq=>?_).trans<|S.fr.keep b o e,S.fr.above⟩ (λq u=>?_) t
 ·rw[q,f.2.2] at e;exact ba e
 ·rcases d2.mp u with rfl|hq'
  ·exact⟨hd,f.2⟩
  ·have p:=N q<|.tail _ hq';exact⟨(hs.2 _<|S.Ks hg q hq').trans p.1,p.2⟩
theorem bG.Yz(S:bG c z H m cs s g B){i:Nat}(hg:B[i]? =O b):bG c ⟨b++z.Z,z.ad⟩ (H.set i .i) m cs s g (B.set i []):=by
 have j:=(fM.mp hg).1;have d:∃a,z.ad[i]? =O a:=⟨_,li<|S.cW.qN▸j⟩;obtain⟨a,d⟩:=d;have f:(bP c ⟨b++z.Z,z.ad⟩ cs<|B.set i []).Perm (bP c z cs B):=by
  have q:=wS B i _ hg;have e:bP c z cs B=(c.P++(cs++z.Z))++B.flatten:=by simp[bP]
  rw[e];refine adt ?_ (sR _ q.symm);have k:bP c ⟨b++z.Z,z.ad⟩ cs (B.set i [])=(c.P++cs)++((b++z.Z)++(B.set i []).flatten):=by simp[bP]
  have l:(c.P++(cs++z.Z))++(b++(B.set i []).flatten)=(c.P++cs)++((z.Z++b)++(B.set i []).flatten):=by simp
  rw[k,l];exact sR _<|uQ _ sS
 refine⟨S.ir,S.fr,λq o=>S.nw q<|f.mem_iff.mp o,S.jl,S.dv,S.fK,S.jN,(f.map _).nodup_iff.mpr S.nd,?_,S.fA⟩;exact(S.cW.au λq h=>dj _ h).y d .i
end
theorem YA(h:(a&&b)=I):a=I/\b=true:=ec.mp h
theorem bL(h:(a&&b)=I):a=true:=(ec.mp h).1
theorem bR(h:(a&&b)=I):b=true:=(ec.mp h).2
theorem dT{p:Prop}[Decidable p](h:decide p=I):p:=D h
theorem kf(h:(!b)=I):b=false:=by induction b using xx with|true=>exact bc h|false=>rfl
theorem Ku{c Q:Prop}[Decidable c]{t:c->Bool}(h:(if h:c then t h else C)=I)(k:∀h:c,t h=I->Q):Q:=by
 by_cases hc:c
 ·rw[dif_pos hc] at h;exact k hc h
 ·rw[dif_neg hc] at h;exact bc h
noncomputable def lZ(c:Fm)(j:dA)(m:aw->Option ak)(cs:aV)(x:aw)(v:ak):Prop:=match j.kindOf x with
 |some .local=>(j.locals=c.L/\m x=O v)∨∃o b n,(j.locals,o)∈c.P/\o.data=.dict b n/\Fo b/\Fc b x=O v
 |some .cell=>∃a o,j.cells.lookup x=O a/\(a,o)∈c.P++cs/\o.data=.cell (O v)
 |some .free=>∃a o,j.cells.lookup x=O a/\(a,o)∈c.P++cs/\o.data=.cell (O v)
 |_=>True
theorem lZ.u{c e:Fm}{j:dA}{m i:aw->Option ak}{cs d:aV}(h:lZ c j m cs x v)(f:((j.locals=c.L/\m x=O v)∨∃o b n,(j.locals,o)∈c.P/\o.data=.dict b n/\Fo b/\Fc b x=O v)->(j.locals=e.L/\i x=O v)∨∃o b n,(j.locals,o)∈e.P/\o.data=.dict b n/\Fo b/\Fc b x=O v)(g:(∃a o,j.cells.lookup x=O a/\(a,o)∈c.P++cs/\o.data=.cell (O v))->∃a o,j.cells.lookup x=O a/\(a,o)∈e.P++d/\o.data=.cell (O v)):lZ e j i d x v:=by
 delta lZ at h⊢;generalize j.kindOf x=o at h⊢
 induction o using gD with
 |none=>trivial
 |some k=>induction k using NameKind.casesOn with
  |«local»=>exact f h
  |cell=>exact g h
  |free=>exact g h
  |_=>trivial
section
noncomputable def g9(nm:Nat->aw)(c:Fm)(j:dA)(z:Zs)(m:aw->Option ak)(cs:aV)(l:Lc):Prop:=
 ∀(i:Nat) (v:V),l[i]? =O (O v)->∃a,aA z v a/\lZ c j m cs (nm i) a
inductive Xs(c:Fm)(z:Zs)(H:Hp)(m:aw->Option ak)(cs:aV)(x:ak)(s:ay):Prop
 |mk (e:aH) (G g:cz) (lvs:List aV) (hx:x=.ref e) (T:mj (dF c.iq) c.nY g) (F:Fr g c.L G m) (B:lu c.A₀ c.lY c.iq g) (K:cx.K.In g) (P:oz cx.p cx.f3 cx.lW cx.mg cx.mb g) (a:s5 (dF c.iq) g)
  (R:qM c.lY G (c.aS::c.iq) e (bP c z cs lvs) s.heap) (b:G.UpToSlots s.heap) (nd:((bP c z cs lvs).map (·.1)).Nodup) (L:kc z H lvs) (same:s={c.eP with heap:=s.heap,toks:=s.toks})
inductive kM{α β:Type}(rel:Zs->α->β->Prop)(c:Fm)(z:Zs)(m:aw->Option ak)(cs:aV)(r:R α)(b:β)(s:ay):Prop
 |mk:∀z' a H',r=.ok a H'->z.le z'->St c z' H' m cs s->rel z' a b->kM rel c z m cs r b s
inductive wT{α:Type}(c:Fm)(z:Zs)(m:aw->Option ak)(cs:aV)(r:R α)(x:ak)(s:ay):Prop
 |mk:∀z' H',r=.q H'->z.le z'->Xs c z' H' m cs x s->wT c z m cs r x s
end
section
variable{c:Fm}{z:Zs}{H:Hp}{m:aw->Option ak}{cs:aV}{s:ay}{l:Lc}{nm:Nat->aw}{j:dA}
theorem g9.au(h:z.le d)(x:g9 nm c j z m cs l):g9 nm c j d m cs l:=λi v e=>let⟨f,a,b⟩:=x i v e;(aD f (aA.au h _ _ a) b)
theorem kM.i{e f:Type}{d:Zs->e->f->Prop}{a:e}{b:f}(S:St c z H m cs s)(h:d z a b):kM d c z m cs (.ok a H) b s:=⟨z,a,H,J,.refl,S,h⟩
theorem bG.i(x:aH)(S:bG c z H m cs s g a)(h:z.dZ x o):s.heap.get? x=O o:=by
 rcases h with h|h
 ·exact(S.nw (x,o)<|dj _<|dj _<|fh _ h).1
 ·exact S.fr.keep _ _<|S.dv _ _ h
theorem St.i(x:aH)(S:St c z H m cs s)(h:z.dZ x o):s.heap.get? x=O o:=let⟨_,_,S⟩:=S;S.i x h
theorem St.dv(S:St c z H m cs s):cx.K.In s.heap:=let⟨_,_,S⟩:=S;S.dv.keeps S.fr.keep
theorem St.DM(S:St c z H m cs s){q:aH×PO}(h:q∈c.P++cs):s.heap.get? q.1=O q.2:=by
 obtain⟨g,a,S⟩:=S;refine(S.nw q ?_).1
 rcases eT.mp h with h|h
 ·exact fh _ h
 ·exact dj _<|fh _ h
theorem Kv{M:uR}{A:dN}{E:ak->ay->Prop}{Q:ak->ay->Prop}{x:aw}{v:ak}(S:St c z H m cs s)(h:lZ c j m cs x v)(b:j.scope.kind=.function)
  (hx:j.kindOf x=O .local∨j.kindOf x=O .cell∨j.kindOf x=O .free)(e:(x==("__classdict__":aw))=C)(q:Q v s):bl M A (loadName j x) Q E s:=by
 obtain⟨g,f,i⟩:=id S;unfold lZ at h
 rcases hx with hx|hx|hx
 ·rw[hx] at h
  rcases h with⟨k,hm⟩|⟨o,p,n,r,hd,hs,t⟩
  ·exact AJ b hx (k▸i.fr.ns) hm q
  ·exact AJ b hx (f8 o p n (S.DM<|fh _ r) hd hs λu=>rfl) t q
 ·rw[hx] at h;exact cU h λa o hc d hd=>wpAny_loadName_cell b hx hc (aD o (S.DM d) hd) q
 ·rw[hx] at h;exact cU h λa o hc d hd=>wpAny_loadName_free b hx hc (aD o (S.DM d) hd) q e
theorem YB{M:uR}{A:dN}{E:ak->ay->Prop}{Q:ak->ay->Prop}{x:aw}{v:ak}{a:dq}(S:St c z H m cs s)(e:gu cx.K ey x=O (O v))
  (b:j.scope.kind=.function)(hg:j.globals=ey)(d:j.kindOf x=O .globalImplicit)(hd:(x==("__debug__":aw))=C)(q:Q v s):bl M A (kw (.Name x a) j) Q E s:=by
 obtain⟨g,f,S⟩:=S;exact nameG_K S.fr S.dv (topRead_of S.fK) e q hg b d hd
theorem DN{M:uR}{A:dN}{E:ak->ay->Prop}{Q:ak->ay->Prop}{x:aw}{v:ak}{a:dq}(S:St c z H m cs s)(e:gu cx.K ey x=O U)(b:aeo x=O v)(d:x≠"__name__")
  (f:j.scope.kind=.function)(hg:j.globals=ey)(hb:j.builtins=uS)(h:j.kindOf x=O .globalImplicit)(hd:(x==("__debug__":aw))=C)(q:Q v s):bl M A (kw (.Name x a) j) Q E s:=by
 obtain⟨g,i,S⟩:=S;exact Name_function_global f h (loadGlobal_builtin (by rw[hg];exact S.fK.g.keeps S.fr.keep) (mg_none_of S.dv S.fK.g e) (by rw[hb];exact S.fK.b.keeps S.fr.keep) ((S.fK.builtins x d).trans b) q) hd
noncomputable def DO(x:V)(v:ak):Bool:=match x with
 |.none=>(match v with|.none=>I|_=>C)
 |.i b=>(match v with|.bool a=>b==a|_=>C)
 |.aa i=>(match v with|.int j _=>i==j|_=>C)
 |.ah s=>(match v with|.str x _=>decide (x.cps.toList=s)&&decide (s.length<=1000)|_=>C)
 |_=>C
noncomputable def DP(b:List V)(a:List ak):Bool:=match b with
 |[]=>a.isEmpty
 |x::b=>match a with
  |[]=>C
  |v::a=>DO x v&&DP b a
noncomputable def DQ(K:cT)(d:List V)(a:aH):Bool:=match K.lookup a with
 |some o=>(o.cls== .type "tuple")&&(o.dict.isNone&&(o.slots.isEmpty&&(if h:o.data.ctorIdx=2 then adu o.data h λb e=>decide (b.size<=1000)&&DP d b.toList else C)))
 |none=>C
noncomputable def DR(K:cT)(x:V)(v:ak):Bool:=match x with
 |.u b=>(match v with
  |.ref a=>DQ K b a
  |_=>C)
 |x=>DO x v
theorem Kw(h:DO x v=I):aA z x v:=by
 refine dn λa=>?_
 induction x using V.casesOn with
 |none=>induction v using sW with
  |none=>exact a J
  |_=>exact bc h
 |i b=>induction v using sW with
  |bool d=>exact a<|bJ adv (beq_iff_eq.mp h).symm
  |_=>exact bc h
 |aa i=>induction v using sW with
  |int j t=>exact a ⟨t,by rw[beq_iff_eq.mp h]⟩
  |_=>exact bc h
 |ah s=>induction v using sW with
  |str x t=>exact a ⟨⟨t,by unfold sV;rw[<-dT (bL h)]⟩,by rw[iy];exact aE (dT<|bR h)<|D J⟩
  |_=>exact bc h
 |_=>exact bc h
theorem YC(b:List V):∀{a:List ak},DP b a=I->aR z b a:=by
 induction b with
 |nil=>
  intro a h;rw[lq.mp h];exact aR.nil
 |cons x b d=>
  intro a h
  induction a using aW with
  |nil=>exact bc h
  |cons v a=>exact aR.cons (Kw<|bL h)<|d<|bR h
theorem YD(h:DR cx.K x v=I):aA z x v:=by
 refine dn λb=>?_
 induction x using V.casesOn with
 |u d=>induction v using sW with
  |ref a=>
   have h:DQ cx.K d a=true:=h;unfold DQ at h
   cases e:cx.K.lookup a with
   |none=>rw[e] at h;exact bc h
   |some o=>
    rw[e] at h;obtain⟨cl,f,dt,g⟩:=o;obtain rfl:cl=.type "tuple":=beq_iff_eq.mp<|bL h;obtain rfl:f=none:=E4.mp<|bL<|bR h;obtain rfl:g= #[]:=Array.isEmpty_iff.mp<|bL<|bR<|bR h;refine b<|Ku (bR<|bR<|bR h) λe1 h=>adu dt e1 (λi n j h e=>?_) e1 h e;exact f8 a i n J (.inr e) (by rw[iy];exact aE (dT<|bL h)<|D J)<|YC d<|bR h
  |_=>exact bc h
 |_=>exact b<|Kw h
end
noncomputable def ma:f7->Oa
 |.i=>.Add|.ez=>.Sub|.j=>.Mult|.q=>.FloorDiv|.y=>.Mod|.u=>.BitAnd|.ry=>.Pow
section
variable{A:dN}{E:ak->ay->Prop}
variable{c:Fm}{z:Zs}{H:Hp}{m:aw->Option ak}{cs:aV}{s:ay}{l:Lc}{nm:Nat->aw}{i:dA}
theorem zv{n:Nat}(h:n<=eH):(n:Int)<2^63:=by rw[iy] at h;lia
theorem St.u(S:St c z H m cs s){i:Nat}{d:List V}(h:H[i]? =O (.af d)):∃a b n,z.ad[i]? =O a/\s.heap.get? a=O (cZ b n)/\aR z d b.toList/\b.size<=eH:=by
 obtain⟨g,e,S⟩:=S;refine cU (S.cW.cN h) λa j f hg L=>?_
 cases L with
 | @af _ _ b n r q=>
  refine f8 a b n f ((S.nw (a,cZ b n) ?_).1) r q;exact dj _<|dj _<|dj _<|NK.mpr<|aD _ (mi hg)<|.head _
theorem gp{h:cz}(e:h.get? a=O (cZ b n)):h.IsList a b:=⟨_,e,J,n,J⟩
theorem su{h:cz}(e:h.get? a=O (DH b n)):h.IsTuple a b:=⟨_,e,J,n,J⟩
theorem jO{i:Nat}(r:aA z (.ae i) v)(d:z.ad[i]? =O a):v=.ref a:=by
 refine aB r λb e hb=>?_;rw[d] at hb;cases hb;exact e
theorem Kx{v:V}{pv:ak}{b:Bool}{Q:Bool->ay->Prop}(S:St c z H m cs s)(r:aA z v pv)(h:dC v H=O b)(q:∀j,St c z H m cs j->Q b j):
  bl (du cx.dh cx.w) A (Au pv) Q E s:=by
 refine dn λd=>?_
 induction v using V.casesOn with
 |none=>rw[r] at d;cases h;exact d<|truthy_none<|q _ S
 |i _=>rw[r] at d;cases h;exact d<|wpAny_truthy_bool<|q _ S
 |aa _=>obtain⟨t,rfl⟩:=r;cases h;exact d<|P.truthy_int<|q _ S
 |ae i=>
  have h:(match H[i]? with|some (.af f)=>O (!f.isEmpty)|_=>U)=O b:=h
  cases g:H[i]? with
  |none=>rw[g] at h;exact ba h
  |some o=>
   rw[g] at h
   induction o using b4.casesOn with
   |af f=>
    refine ej (S.u g) λa k n p u hr hs=>?_;rw[jO r p] at d;refine d<|wpAny_truthy_list (gp u) (zv hs) ?_;have e:k.isEmpty=f.isEmpty:=by
     have:=hr.j
     induction f using aW with
     |nil=>exact dH this.symm
     |cons _ _=>exact dO λe=>nomatch this.trans e
    rw[e,cS h];exact q _<|S.j _
   |_=>exact ba h
 |_=>exact ba h
theorem jP{i:Int}:aA z (.aa i) (.int i t):=⟨t,J⟩
theorem Ky:aA z (.i b) (.bool b):=by rfl
theorem wU:aA z .none .none:=by rfl
theorem pT{x:List Nat}(h:x.length<=eH):aA z (.ah x) (.str (sV x) t):=⟨⟨t,J⟩,h⟩
theorem me(x:List Nat):(sV x).length=x.length:=by simp[sV,PySem.Str.length]
theorem zw(x y:List Nat):sV x++sV y=sV (x++y):=PySem.Str.ext' (by rw[PySem.Str.cps_append];simp[sV])
theorem aA.ah{x:List Nat}(h:aA z (.ah x) v):(∃t,v=.str (sV x) t)/\x.length<=eH:=h
theorem qP{a:Type}{c:Prop}[Decidable c]{r:R a}(h:(if c then r else .j)≠ .j):c:=NL λq=>h<|a9 q
theorem Kz{x:Int}(h:x.natAbs<2^n):NM x<=n:=by
 unfold NM
 by_cases a:(x==0)=I
 ·rw[aN a];exact dG _
 ·rw[a9 a];exact(NN λq=>a<|beq_iff_eq.mpr<|Int.natAbs_eq_zero.mp q).mpr h
theorem DS{y:Int}(h:0<y):¬(y==0)=true:=λe=>ax (beq_iff_eq.mp e)<|NB h
theorem YE{op:f7}{x y:Int}{t u:qX}(S:St c z H m cs s)(b:o5 op x y H≠ .j):bl (du cx.dh cx.w) A (Fp (ma op) (.int x t)<|.int y u) (kM (aA) c z m cs<|o5 op x y H) E s:=by
 have a:∀i t k,kM (aA) c z m cs (.ok (.aa i) H) (.int i t) {s with toks:=k}:=λi t k=>.i (S.j _) jP
 induction op using f7.casesOn with
 |i=>exact P.add_int<|a ..
 |ez=>exact P.sub_int<|a ..
 |j=>
  have hb:=qP b;rw[show o5 .j x y H=_ from aN hb];exact P.mul_int (a ..)<|IntMulOk.of_left<|aE (Kz (n:=48) hb.1)<|D J
 |q=>
  have hb:=qP b;rw[show o5 .q x y H=_ from aN hb];refine ae0 (DS hb.1) ?_ ?_
  ·intro hp;have h2:y.natAbs.log2<24:=(NN<|Int.natAbs_ne_zero.mpr<|NB hb.1).mpr (by have:=hb.2;unfold bg at this;lia);have f:300<(if(y==0)=I then 0 else y.natAbs.log2/30+1):=D (ec.mp hp).1;rw[a9 (DS hb.1)] at f;lia
  ·rw[Int.fdiv_eq_ediv_of_nonneg _ (NO hb.1)];exact a ..
 |y=>
  have hb:=qP b;rw[show o5 .y x y H=_ from aN hb];refine ae1 (DS hb) ?_;rw[Int.fmod_eq_emod_of_nonneg _ (NO hb)];exact a ..
 |u=>
  have hb:=qP b;rw[show o5 .u x y H=_ from aN hb];refine and_int ?_;rw[show adw x y=(Nat.land x.toNat y.toNat:Nat) by unfold adw;rw[dH hb.1,dH hb.2];rfl];exact a ..
 |ry=>
  have hb:=qP b;rw[show o5 .ry x y H=_ from aN hb];refine u0 hb λo p d g=>?_
  by_cases h:(y==0)=I
  ·refine ae2 d h ?_;rw[beq_iff_eq.mp h];rw[Int.pow_zero x];exact a ..
  ·refine ae3 d h ?_ ?_ ?_ (a ..)
   ·exactλe=>(jr.mp e).elim (λe=>ax (beq_iff_eq.mp e)<|by lia) λe=>ax (beq_iff_eq.mp e)<|by lia
   ·exactλe=>ax (beq_iff_eq.mp e)<|by lia
   ·have f:((NM x:Nat):Int)*y<=4*16:=Int.mul_le_mul (sN.mpr<|Kz<|by lia) (NO g) d<|D J;exactλe=>ax (D e)<|ra.mpr<|EY f<|by decide+kernel
theorem YF{op:f7}{x y:List Nat}{t u:qX}(S:St c z H m cs s)(lx:x.length<=eH)(f:y.length<=eH)(a:vl op x y H≠ .j):bl (du cx.dh cx.w) A (Fp (ma op) (.str (sV x) t)<|.str (sV y) u) (kM (aA) c z m cs<|vl op x y H) E s:=by
 induction op using f7.casesOn with
 |i=>
  have hb:=qP a;rw[show vl .i x y H=_ from aN hb];have e:(x++y).length<=eH:=by rw[iy];exact hb
  refine P.add_str ?_;rw[zw,me,me]
  by_cases b:(x.length==0)=true
  ·rw[aN b,xD (beq_iff_eq.mp b)];exact .i S<|pT f
  ·rw[a9 b]
   by_cases d:(y.length==0)=true
   ·rw[aN d,xD (beq_iff_eq.mp d),cM];exact .i S<|pT lx
   ·rw[a9 d];exact⟨by rw[me];exact e,.i (S.j _)<|pT e⟩
 |_=>exact ax rfl a
theorem YG(S:St c z H m cs s)(B:aA z (.ae x) u)(F:aA z (.ae y) v)(b:vm op x y H≠ .j):bl (du cx.dh cx.w) A (Fp (ma op) u v) (kM (aA) c z m cs<|vm op x y H) E s:=by
 refine dn λd=>?_
 induction op using f7.casesOn with
 |i=>
  unfold vm at b d
  cases e:H[x]? with
  |none=>rw[e] at b;exact b J
  |some o=>induction o using b4.casesOn with
   |af V=>cases h2:H[y]? with
    |none=>rw[e,h2] at b;exact b J
    |some o=>induction o using b4.casesOn with
     |af W=>
      rw[e,h2] at b d;have hb:=qP b
      dsimp only at d
      rw[aN hb] at d;refine ej (S.u e) λa w n G K hr hs=>ej (S.u h2) λX f Y p t j L=>?_;rw[jO B G,jO F p] at d;obtain⟨g,M,k⟩:=S;have N:(w.toList++f.toList).length<=eH:=by rw[iy,<-(hr.q j).j];exact hb
      refine d<|add_lists k.fr k.nw (gp K) (gp t) λZ P Q=>?_;have R:=k.DK (tk:=s.toks) (gr:=[(s.heap.objs.size,cZ (w.toList++f.toList).toArray 0)]) P Q (λq T r hr=>by
       rw[iv.mp T];exact k.lt r hr) (E5 ..)<|.af (hr.q j) N
      exact⟨⟨z.Z,z.ad++[s.heap.objs.size]⟩,_,_,J,⟨λξ h=>h,_,J⟩,⟨g,_,R⟩,_,J,by rw[k.cW.bK];exact mT⟩
     |_=>rw[e,h2] at b;exact b J
   |_=>rw[e] at b;exact b J
 |_=>exact b J
theorem YH(S:St c z H m cs s)(d:aA z x f)(e:aA z y g)(a:fQ op x y H≠ .j):
  bl (du cx.dh cx.w) A (Fp (ma op) f g) (kM (aA) c z m cs<|fQ op x y H) (wT c z m cs<|fQ op x y H) s:=by
 refine dn λb=>?_
 induction x using V.casesOn with
 |aa x=>induction y using V.casesOn with
  |aa y=>
   rw[show fQ op (.aa x) (.aa y) H=o5 op x y H from J] at a b;obtain⟨t,rfl⟩:=d;obtain⟨u,rfl⟩:=e;exact b<|YE S a
  |_=>exact a J
 |ah x=>induction y using V.casesOn with
  |ah y=>
   rw[show fQ op (.ah x) (.ah y) H=vl op x y H from J] at a b;obtain⟨⟨t,rfl⟩,lx⟩:=d.ah;obtain⟨⟨u,rfl⟩,h⟩:=e.ah;exact b<|@YF A _ c z H m cs s op x y t u S lx h a
  |_=>exact a J
 |ae x=>induction y using V.casesOn with
  |ae y=>
   rw[show fQ op (.ae x) (.ae y) H=vm op x y H from J] at a b;exact b<|YG S d e a
  |_=>exact a J
 |_=>exact a J
end
end
section
open PySem PySem.W PySem.Calls PyProof.Rows
open SeqAt (EqAt RcAt RcNeAt)
noncomputable def qQ:qf->CmpOp
 |.eq=>.Eq|.ne=>.NotEq|.lt=>.Lt|.gt=>.Gt|.ge=>.GtE|.le=>.LtE|.i=>.In|.q=>.NotIn|.j=>.Is|.u=>.IsNot
theorem YI{is a:List Int}(h:is.length=a.length):(kj is.length).all (λj=>decide (is[j]? =a[j]?))=decide (is=a):=by
 rw[Af,lr,decide_eq_true_eq];constructor
 ·intro x;apply List.ext_getElem?;intro j
  by_cases q:j<is.length
  ·exact D<|x j<|adg.mpr q
  ·rw[EP (L1<|sL q),EP (L2 (b7 h.symm)<|sL q)]
 ·clear h
  rintro rfl j _
  simp
section
variable{A:dN}{E:ak->ay->Prop}
variable{c:Fm}{z:Zs}{H:Hp}{m:aw->Option ak}{cs:aV}{s:ay}{l:Lc}{nm:Nat->aw}{i:dA}
theorem KC(b:List V):∀{is:List Int} {a:List ak},nh b=O is->aR z b a->is.length=a.length/\∀j (h:j<a.length),∃t i,is[j]? =O i/\a[j]=.int i t:=by
 induction b with
 |nil=>
  intro is a e r
  induction a using aW with
  |nil=>cases e;exact⟨J,λj h=>ax h<|Nb j⟩
  |cons _ _=>exact r.elim
 |cons x b d=>
  intro is a e r
  induction a using aW with
  |nil=>exact r.elim
  |cons v a=>induction x using V.casesOn with
   |aa i=>
    refine aB (fX.mp<|e) ?_;rintro f g rfl;obtain⟨k,h2⟩:=d g r.2;obtain⟨t,rfl⟩:=r.1;refine⟨bJ (·+1) k,λj o=>?_⟩
    induction j using fW with
    |zero=>exact cJ t i J J
    |succ j=>exact h2 j<|Nq o
   |_=>exact ba e
noncomputable def KD(x:V):Bool:=match x with
 |.none=>I
 |_=>C
theorem KE(r:aA z x a):(a==uO)=KD x:=by
 induction x using V.casesOn with
 |none=>rw[r];rfl
 |i _=>rw[r];rfl
 |aa _=>obtain⟨_,rfl⟩:=r;rfl
 |ah _=>obtain⟨_,rfl⟩:=r.ah.1;rfl
 |aQ _ _=>refine u7 r ?_;clear r;rintro _ _ _ _ rfl _;rfl
 |ae _=>refine aB r ?_;clear r;rintro _ rfl _;rfl
 |_=>refine iU r ?_;clear r;rintro _ _ _ rfl _;rfl
noncomputable def mh:ak->ak->Bool
 |.int a _,.int b _=>a==b
 |.str a _,.str b _=>a==b
 |_,_=>C
theorem YJ(h:sV x=sV y):x=y:=bJ (λs:PySem.Str=>s.cps.toList) h
theorem YK(x y:List Nat)(t u:qX):mh (.str (sV x) t) (.str (sV y) u)=decide (x=y):=by
 by_cases q:x=y
 ·rw[q,dH J];exact beq_self_eq_true _
 ·rw[dO q];exact beq_eq_false_iff_ne.mpr λe=>q<|YJ e
theorem zx{P:V->V->ak->ak->Bool->Prop}(h:rA a k=O b)(f:aA z a d)(g:aA z k e)(j:∀x y t u,P (.aa x) (.aa y) (.int x t) (.int y u)<|decide (x=y))(hs:∀x y t u,P (.ah x) (.ah y) (.str (sV x) t) (.str (sV y) u)<|decide (x=y)):P a k d e b:=by
 refine dn λi=>?_
 induction a using V.casesOn with
 |aa x=>induction k using V.casesOn with
  |aa y=>
   obtain⟨t,rfl⟩:=f;obtain⟨u,rfl⟩:=g;exact i<|cS h▸j x y t u
  |_=>exact ba h
 |ah x=>induction k using V.casesOn with
  |ah y=>
   obtain⟨t,rfl⟩:=f.ah.1;obtain⟨u,rfl⟩:=g.ah.1;exact i<|cS h▸hs x y t u
  |_=>exact ba h
 |_=>exact ba h
theorem KG{s:ay}(h:rA a k=O b)(f:aA z a d)(g:aA z k e):EqAt A s d e (mh d e)/\mh d e=b:=
 zx (P:=λi i d e b=>EqAt A s d e (mh d e)/\mh d e=b) h f g (λx y t u=>⟨adx x t y u,J⟩) λx y t u=>⟨SeqAt.EqAt.str_str (sV x) t (sV y) u,YK x y t u⟩
theorem YL{s:ay}(g:aA z k d)(f:List V):∀{a:List ak} {b:Bool},rC k f=O b->aR z f a->(∀y,y∈a->EqAt A s y d (mh y d))/\a.any (mh · d)=b:=by
 induction f with
 |nil=>
  intro a b h r
  induction a using aW with
  |nil=>exact⟨λw q=>ax q eU,cS h⟩
  |cons _ _=>exact r.elim
 |cons x f i=>
  intro a b h r
  induction a using aW with
  |nil=>exact r.elim
  |cons v a=>
   refine aB (oq.mp<|h) λb1 j h2=>?_;clear h;refine aB (fX.mp h2) ?_;rintro b2 o rfl;obtain⟨p,t⟩:=i o r.2;obtain⟨e1,e2⟩:=KG j r.1 g;exact⟨λy u=>(d2.mp u).elim (λe=>e▸e1)<|p y,by rw[ady,e2,t]⟩
noncomputable def pU(z:Zs)(o:Option V)(r:Option ak):Prop:=match o with
 |.none=>r=U
 |some x=>∃v,r=O v/\aA z x v
theorem pU.is{o:Option V}{r:Option ak}(h:pU z o r):r.isSome=o.isSome:=by
 induction o using gD with
 |none=>rw[h];rfl
 |some x=>refine aB h ?_;clear h;rintro v rfl _;rfl
noncomputable def KH(a v:ak):Prop:=match a with
 |.int _ _=>∃i t,v=.int i t
 |.str _ _=>∃x t,v=.str x t
 |_=>False
structure FkR(z:Zs)(k:V)(pk:ak)(es:List eA)(o:Option V):Prop where
 f:pU z o ((es.find? λe=>mh e.key pk).map (·.val))
 kd:∀e∈es,KH pk e.key
 ok:(∃i t,pk=.int i t)∨∃x t,pk=.str (sV x) t
theorem YM(p:aA z k j)(u:List<|V×V):∀{g:List eA} {o:Option V},ng k u=O o->kb z u g->FkR z k j g o:=by
 induction u with
 |nil=>
  intro g o h r
  induction g using aW with
  |cons _ _=>exact r.elim
  |nil=>induction k using V.casesOn with
   |aa i=>obtain⟨t,rfl⟩:=p;exact⟨cS h▸J,λa q=>ax q eU,.inl<|gH i t J⟩
   |ah x=>obtain⟨t,rfl⟩:=p.ah.1;exact⟨cS h▸J,λa q=>ax q eU,.inr<|gH x t J⟩
   |_=>exact ba h
 |cons d u y=>
  intro g o h r
  induction g using aW with
  |nil=>exact r.elim
  |cons e g=>
   refine aB (oq.mp<|h) λb w h2=>aB (fX.mp h2) ?_;rintro K B rfl;obtain⟨f,kd,ok⟩:=y B r.2;refine⟨?_,λF v=>(d2.mp v).elim (λq=>q▸zx (P:=λa a G j a=>KH j G) w r.1.1 p (λx a t a=>gH x t J) λx a t a=>gH (sV x) t J)<|kd F,ok⟩;rw[adz,(KG (A:=Fb) (s:=⟨{},#[],{},0,{}⟩) w r.1.1 p).2]
   induction b using xx with
   |true=>exact aD e.val J r.1.2
   |false=>exact f
theorem DT{b:Array eA}{h:cz}(r:h.get? a=O (nZ b n))(ok:DI cx.w b)(rd:kb z p b.toList)(v:aA z k g)(w:ng k p=O o):
  (∃i t f,g=.int i t/\h.MapOf (ae5 cx.dh cx.w) a f/\pU z o (f i))∨
  (∃x t f,g=.str x t/\h.MapOf (adA cx.dh cx.w) a f/\pU z o (f x)):=by
 obtain⟨F,G,K⟩:=YM v p w rd;clear v
 rcases K with⟨i,t,rfl⟩|⟨x,t,rfl⟩
 ·refine .inl<|u4 i t (λk=>findBy adB b k) rfl (m2 _ b n r ⟨rfl,rfl,rfl⟩ rfl (λe d=>?_) λy=>rfl) ?_
  ·refine jV (G e<|E6.mpr d) λj u e1=>aD j (by rw[e1];exact beq_self_eq_true j) ?_
   rcases ok with ok|ok<;>refine eB (ok e d) λB L e2 q=>?_<;>cases e1.symm.trans e2
   exact q
  ·rw[show(λe:eA=>mh e.key<|.int i t)=λe=>adB i e.key by funext e;cases e.key<;>rfl] at F;show pU z o (NP (·.val)<|adC _ b);rw[<-adD];exact F
 ·refine .inr<|u4 (sV x) t (λk=>findBy adE b k) J (m2 _ b n r ⟨J,J,J⟩ J (λe d=>?_) λy=>J) ?_
  ·refine jV (G e<|E6.mpr d) λj u e1=>aD j (by rw[e1];exact beq_self_eq_true j) ?_
   rcases ok with ok|ok<;>refine eB (ok e d) λB L e2 q=>?_<;>cases e1.symm.trans e2
   exact q
  ·rw[show(λe:eA=>mh e.key<|.str (sV x) t)=λe=>adE (sV x) e.key by funext e;cases e.key<;>rfl] at F;show pU z o (NP (·.val)<|adC _ b);rw[<-adD];exact F
theorem KI{H:Hp}(h:cG o H≠ .j):∃a,o=O a:=by
 induction o using gD with
 |none=>exact(h J).elim
 |some a=>exact⟨a,J⟩
theorem KJ{Q:ak->ay->Prop}(S:St c z H m cs s)(v:aA z x e)(d:aA z y p)(h:Bj x y=some b):
  ((∀g,St c z H m cs g->Q (.bool b) g)->bl (du cx.dh cx.w) A (oB .In e p) Q E s)/\((∀g,St c z H m cs g->Q (.bool<|!b) g)->bl (du cx.dh cx.w) A (oB .NotIn e p) Q E s):=by
 refine dn λr=>?_
 induction y using V.casesOn with
 |u B=>
  refine ej d ?_;clear d;rintro a G n rfl k hs hr;obtain⟨w,hb⟩:=YL v B h hr;rw[Array.any_toList] at hb;exact r ⟨λq=>SeqAt.in_tupleAt (λy=>mh y e) (su<|S.i a k) (λy d=>w y<|E6.mpr d) (by rw[hb];exact q _ S),λq=>SeqAt.notIn_tupleAt (λy=>mh y e) (su<|S.i a k) (λy d=>w y<|E6.mpr d) (by rw[hb];exact q _ S)⟩
 |dct K=>
  refine aB (fX.mp<|h) ?_;rintro o F rfl;refine ej d ?_;clear d;rintro a L n rfl k ⟨ok,hd⟩ hr
  rcases DT (S.i a k) ok hr v F with⟨i,t,f,rfl,hm,j⟩|⟨i,t,f,rfl,hm,j⟩
  ·exact r ⟨λq=>aep (AK cx.dh cx.w i t) hd hm (by rw[j.is];exact q _<|S.j _),λq=>aeq (AK cx.dh cx.w i t) hd hm (by rw[j.is];exact q _<|S.j _)⟩
  ·exact r ⟨λq=>aep (AL cx.dh cx.w i t) hd hm (by rw[j.is];exact q _<|S.j _),λq=>aeq (AL cx.dh cx.w i t) hd hm (by rw[j.is];exact q _<|S.j _)⟩
 |_=>exact ba h
theorem YN{Q:ak->ay->Prop}(S:St c z H m cs s)(f:aA z x d)(g:aA z y e)(h:vn x y=O b)(q:∀a,St c z H m cs a->Q (.bool b) a):
  bl (du cx.dh cx.w) A (oB .In d e) Q E s:=by
 refine dn λi=>?_
 induction y using V.casesOn with
 |ah a=>induction x using V.casesOn with
  |ah cc=>
   induction cc using aW with
   |nil=>exact ba h
   |cons j r=>induction r using aW with
    |cons _ _=>exact ba h
    |nil=>
     obtain⟨t,rfl⟩:=f.ah.1;obtain⟨u,rfl⟩:=g.ah.1;refine i<|P.in_str ?_;rw[StrLaws.found_one,show decide (j∈(sV a).cps.toList)=a.contains j from List.elem_eq_mem .. |>.symm,cS h];exact q _ S
  |_=>exact ba h
 |_=>exact i<|(KJ S f g h).1 q
theorem YO(h:Gf x y H=O b):rA x y=O b∨∃i j,x=.ae i/\y=.ae j/\vo i j H=O b:=by
 induction x using V.casesOn with
 |ae i=>induction y using V.casesOn with
  |ae j=>exact .inr<|cK i j J J h
  |_=>exact ba h
 |_=>exact .inl h
theorem zy{P:ak->ak->Bool->Prop}{f:Int->Int->Bool}(h:vp f x y=O b)(e:aA z x a)(g:aA z y d)(k:∀i j t u,P (.int i t) (.int j u)<|f i j):P a d b:=by
 refine dn λo=>?_
 induction x using V.casesOn with
 |aa i=>induction y using V.casesOn with
  |aa j=>
   obtain⟨t,rfl⟩:=e;obtain⟨u,rfl⟩:=g;exact o<|cS h▸k i j t u
  |_=>exact ba h
 |_=>exact ba h
theorem KL(h:Bk x y=O b):y=.none/\KD x=b:=by
 induction y using V.casesOn with
 |none=>cases x<;>exact⟨J,cS h⟩
 |_=>exact ba h
theorem KN{i:Nat}(h:qk H i=O b):H[i]? =O (.af b):=by
 unfold qk at h
 cases a:H[i]? with
 |none=>rw[a] at h;exact ba h
 |some o=>induction o using b4.casesOn with
  |af d=>rw[a] at h;exact bJ (λx=>O<|b4.af x)<|cS h
  |_=>rw[a] at h;exact ba h
theorem YQ{i j:Nat}{Q:ak->ay->Prop}(R:A.units<m0)(S:St c z H m cs s)(L:aA z (.ae i) x)(M:aA z (.ae j) y)(h:vo i j H=O b)(q:∀B,St c z H m cs B->Q (.bool b) B):bl (du cx.dh cx.w) A (oB .Eq x y) Q E s:=by
 refine aB (oq.mp h) λN o h=>aB (oq.mp h) λP h2 h=>aB (oq.mp h) λis e1 h=>aB (fX.mp h) ?_;rintro F e2 rfl;refine ej (S.u<|KN o) λa G n T K hr hs=>ej (S.u<|KN h2) λa' f n' p g r V=>?_;rw[jO L T,jO M p];obtain⟨n1,W⟩:=KC N e1 hr;obtain⟨n2,X⟩:=KC P e2 r;have n1:is.length=G.size:=n1;have n2:F.length=f.size:=n2
 by_cases d:G.size=f.size
 ·refine SeqAt.eq_listAt (gp K) (gp g) d R (λj o h2=>?_) (by rw[<-n1,YI (n1.trans<|d.trans n2.symm)];exact q _ S);refine eB (W j o) λt k Y Z=>eB (X j h2) λt' u v w=>?_;rw[Z,w,Y,v,show decide (O k=O u)=(k==u) by rw[Af];simp];exact adx k t u t'
 ·refine SeqAt.eq_list_lengthsAt (gp K) (gp g) (bne_iff_ne.mpr d) R ?_;rw[show C=decide (is=F) from(dO λe=>d<|by rw[<-n1,<-n2,e]).symm];exact q _ S
theorem KO(x y:List Nat):((sV x).cps.toList==(sV y).cps.toList)=decide (x=y):=by rw[Af];simp[sV]
theorem KP(R:A.units<m0)(S:St c z H m cs s)(h:aA z x f)(k:aA z y g)(p:lH op x y H≠ .j):
  bl (du cx.dh cx.w) A (oB (qQ op) f g) (kM (aA) c z m cs<|lH op x y H) (wT c z m cs<|lH op x y H) s:=by
 unfold lH at p⊢;obtain⟨r,hr⟩:=KI p;refine aB (fX.mp hr) ?_;rintro b hb rfl;rw[hr];clear hr p;generalize v:kM (aA) c z m cs (cG (O<|V.i b) H)=Q;have a:∀d,St c z H m cs d->Q (.bool b) d:=λd B=>v▸ .i B Ky;clear v;generalize wT c z m cs (cG (O<|V.i b) H)=E
 induction op using qf.casesOn with
 |eq=>
  rcases YO hb with hb|⟨i,j,rfl,rfl,hb⟩
  ·exact zx (P:=λe e f g b=>(∀d,St c z H m cs d->Q (.bool b) d)->bl (du cx.dh cx.w) A (oB .Eq f g) Q E s) hb h k (λx y t u q=>P.eq_int<|q _ S) (λx y t u q=>P.eq_str (by rw[KO];exact q _ S)) a
  ·exact YQ R S h k hb a
 |ne=>
  refine aB (fX.mp hb) ?_;rintro w o rfl;exact zx (P:=λe e f g b=>(∀d,St c z H m cs d->Q (.bool<|!b) d)->bl (du cx.dh cx.w) A (oB .NotEq f g) Q E s) o h k (λx y t u q=>P.ne_int<|q _ S) (λx y t u q=>P.ne_str (by unfold bne;rw[KO];exact q _ S)) a
 |lt=>exact zy (P:=λf g b=>(∀d,St c z H m cs d->Q (.bool b) d)->bl (du cx.dh cx.w) A (oB .Lt f g) Q E s) hb h k (λe e e e q=>P.lt_int<|q _ S) a
 |gt=>exact zy (P:=λf g b=>(∀d,St c z H m cs d->Q (.bool b) d)->bl (du cx.dh cx.w) A (oB .Gt f g) Q E s) hb h k (λe e e e q=>P.gt_int<|q _ S) a
 |ge=>exact zy (P:=λf g b=>(∀d,St c z H m cs d->Q (.bool b) d)->bl (du cx.dh cx.w) A (oB .GtE f g) Q E s) hb h k (λe e e e q=>P.ge_int<|q _ S) a
 |le=>exact zy (P:=λf g b=>(∀d,St c z H m cs d->Q (.bool b) d)->bl (du cx.dh cx.w) A (oB .LtE f g) Q E s) hb h k (λe e e e q=>P.le_int<|q _ S) a
 |i=>exact YN S h k hb a
 |q=>
  refine aB (fX.mp hb) ?_;rintro w o rfl;exact(KJ S h k o).2 a
 |j=>
  obtain⟨rfl,rfl⟩:=KL hb;rw[k];exact is_none_gen (by rw[KE h];exact a _ S)
 |u=>
  refine aB (fX.mp hb) ?_;rintro w o rfl;clear hb;obtain⟨rfl,rfl⟩:=KL o;rw[k];exact isnot_none_gen (by rw[KE h];exact a _ S)
end
theorem YR(h:eb a=eb b):a=b:=bJ (λx:aw=>x.cps.toList) h
theorem YS{c:Type}[DecidableEq c]:∀(l b:List c),b.Nodup->(∀x∈b,x∈l)->b.length<=l.length:=by
 intro l
 induction l with
 |nil=>
  intro b g h
  induction b using aW with|nil=>exact bF _|cons x _=>exact ax (h x<|.head _)<|by simp
 |cons a l e=>
  intro b d h;have z:=e (b.erase a) (d.erase a) λx f=>by
   have:=(d.mem_erase_iff).mp f;exact(d2.mp<|h x this.2).resolve_left this.1
  by_cases q:a∈b
  ·rw[List.length_erase_of_mem q] at z;simp;lia
  ·rw[List.erase_of_not_mem q] at z;simp;exact L1 z
theorem lX.bK{fs:List<|At×V}(h:lX fs):fs.length<=35:=by
 have:=YS iM (fs.map (·.1)) h.nd λx a=>by
  refine aB (eh.mp a) ?_;rintro q b rfl;exact h.DF q b
 rw[c3] at this;exact this
theorem DU:fD ((b,u)::r) a v=if b=a then(b,v)::r else(b,u)::fD r a v:=rfl
theorem KQ:fd ((b,v)::r) a=if b=a then O v else fd r a:=rfl
theorem KR:∀{q:At×V},q∈fD fs a v->q∈fs∨q=(a,v):=by
 induction fs with
 |nil=>intro q h;exact .inr<|iv.mp h
 |cons p r c=>
  obtain⟨b,u⟩:=p;intro q h;rw[DU] at h;split at h
  ·rename_i e
   rcases d2.mp h with rfl|h
   ·exact .inr<|by rw[e]
   ·exact .inl<|.tail _ h
  ·rcases d2.mp h with rfl|h
   ·exact .inl<|.head _
   ·exact(c h).imp (.tail _) id
theorem lX.gx(h:lX fs)(v:V)(f:a∈iM):lX (fD fs a v):=by
 refine⟨?_,λq d=>?_⟩
 ·have:∀fs:List (At×V),(fs.map (·.1)).Nodup->((fD fs a v).map (·.1)).Nodup:=by
   intro fs
   induction fs with
   |nil=>intro _;show[a].Nodup;simp
   |cons p r g=>
    obtain⟨b,u⟩:=p;intro c;simp only[iP,iQ] at c;rw[DU];split
    ·rename_i e;simpa using c
    ·rename_i e
     simp only[iP,iQ];refine⟨λhm=>?_,g c.2⟩;refine aB (eh.mp hm) λq d e2=>?_
     rcases KR d with h|h
     ·exact c.1<|eh.mpr<|aD q h e2
     ·rw[h] at e2;exact e e2.symm
  exact this fs h.nd
 ·rcases KR d with h'|h'
  ·exact h.DF q h'
  ·rw[h'];exact f
theorem lX.nil:lX []:=⟨by simp,λa h=>ax h eU⟩
section
variable{z:Zs}
theorem KS{v:ak}(h:v=.str (eb a) t):v.isStr (eb b)=decide (a=b):=by
 subst h;unfold Value.isStr;rw[Af,beq_iff_eq,decide_eq_true_eq];exact⟨λe=>YR e,λe=>by rw[e]⟩
theorem KU:∀{c:List<|At×V} {d:List eA} (a:At),gQ z c d->match fd c a with
  |some v=>∃e,d.find? (·.key.isStr (eb a))=O e/\aA z v e.val
  |.none=>d.find? (·.key.isStr (eb a))=none:=by
 intro c
 induction c with
 |nil=>
  intro h
  induction h using aW with
  |nil=>
  intro a;intro f;exact J
  |cons f f=>
  intro f;intro r;exact r.elim
 |cons i c g=>
  obtain⟨b,x⟩:=i;intro j
  induction j using aW with
  |nil=>
  intro f;intro r;exact r.elim
  |cons e d=>
  intro a;intro r;obtain⟨⟨⟨t,k⟩,l⟩,hr⟩:=r;have g:=g a hr;rw[KQ];simp only[adz,KS k]
  by_cases q:b=a
  ·rw[aN q,dH q];exact aD e J l
  ·rw[a9 q,dO q];exact g
theorem YT:∀{a:List<|At×V} {c:List eA},gQ z a c->c.any (·.refKey)=false:=by
 intro a
 induction a with
 |nil=>
  intro f
  induction f using aW with
  |nil=>
  intro d;exact J
  |cons d d=>
  intro r;exact r.elim
 |cons g a h=>
  obtain⟨b,x⟩:=g;intro i
  induction i using aW with
  |nil=>
  intro r;exact r.elim
  |cons e c=>
  intro r;obtain⟨⟨⟨t,j⟩,k⟩,hr⟩:=r;rw[ady,h hr];unfold DictEntry.refKey;rw[j];rfl
theorem KV(r:gQ z fs b)(h:fd fs a=O v):∃c,getL (eb a) b=O (O c)/\aA z v c:=by
 have:=KU a r;rw[h] at this;exact aB this λe e1 e2=>aD e.val (by unfold getL;rw[e1]) e2
theorem KW(r:gQ z fs b)(h:fd fs a=.none):getL (eb a) b=O none:=by
 have:=KU a r;rw[h] at this;unfold getL;rw[this,YT r];rfl
theorem YU(a:At)(r:gQ z fs b):(getL (eb a) b).isSome=true:=by
 cases h:fd fs a with
 |none=>rw[KW r h];rfl
 |some v=>refine aB (KV r h) λc e d=>?_;rw[e];rfl
theorem KY{hsh:Int}(g:aA z v pv):∀{c:List<|At×V} {d:List eA},gQ z c d->gQ z (fD c a v) (putL (eb a) hsh (.str (eb a) t) pv d):=by
 intro c
 induction c with
 |nil=>
  intro i
  induction i using aW with
  |nil=>
  intro h;exact⟨⟨⟨t,J⟩,g⟩,bk⟩
  |cons h h=>
  intro r;exact r.elim
 |cons j c k=>
  obtain⟨b,x⟩:=j;intro l
  induction l using aW with
  |nil=>
  intro r;exact r.elim
  |cons e d=>
  intro r;obtain⟨⟨⟨u,f⟩,m⟩,hr⟩:=r;rw[DU];simp only[putL,KS f]
  by_cases q:b=a
  ·rw[aN q,dH q,aN J];exact⟨⟨⟨u,f⟩,g⟩,hr⟩
  ·rw[a9 q,dO q,a9 (D J)];exact⟨⟨⟨u,f⟩,m⟩,k hr⟩
theorem YV:∀{a:List<|At×V} {c:List eA},gQ z a c->a.length=c.length:=by
 intro a
 induction a with
 |nil=>
  intro f
  induction f using aW with
  |nil=>
  intro d;exact J
  |cons d d=>
  intro r;exact r.elim
 |cons g a h=>
  obtain⟨b,x⟩:=g;intro i
  induction i using aW with
  |nil=>
  intro r;exact r.elim
  |cons e c=>
  intro r;simp[h r.2]
theorem YW(h:∀q∈fs,q.1≠a):fd fs a=.none:=by
 induction fs with
 |nil=>rfl
 |cons p r c=>obtain⟨b,u⟩:=p;rw[KQ,a9 (h (b,u)<|.head _)];exact c λq d=>h q<|.tail _ d
end
noncomputable def DV(K:cT)(c:eX):Bool:=plainGet K (de c) ""&&hasDictIn K (de c)&&plainOver K (de c)&&(gF K (.ref<|de c) "__setattr__"==O (O<|.builtin "object.__setattr__"))&&makesIn K (de c)&&
 iM.all λa=>gF K (.ref<|de c) (eb a)==O U
structure hD(K:cT)(c:eX):Prop where
 cN:∀n,plainGet K (de c) n=true
 KZ:hasDictIn K (de c)=true
 zB:plainOver K (de c)=true
 DW:gF K (.ref (de c)) "__setattr__"=some (some (.builtin "object.__setattr__"))
 K0:makesIn K (de c)=true
 K1:∀a∈iM,gF K (.ref (de c)) (eb a)=some none
theorem YX{K:cT}{c:eX}(h:DV K c=I):hD K c:=by
 unfold DV at h;simp only[ol,beq_iff_eq,lr] at h;obtain⟨⟨⟨⟨⟨a,h2⟩,b⟩,h4⟩,d⟩,e⟩:=h;exact⟨λf=>a,h2,b,h4,d,e⟩
section
variable{A:dN}{E:ak->ay->Prop}
variable{c:Fm}{z:Zs}{H:Hp}{m:aw->Option ak}{cs:aV}{s:ay}{l:Lc}{nm:Nat->aw}{i:dA}
structure K2(z:Zs)(h:cz)(a:aH)(cl:eX)(fs:List (At×V))(d:aH)(es:List eA)(n:Nat):Prop where
 aQ:InstAt h a (sX (de cl) d) (de cl) (some (Fs es n))
 ok:lX fs
 K3:gQ z fs es
theorem zC(a:Array eA)(n:Nat):Fs a.toList n=nZ a n:=by simp[Fs]
set_option tactic.hygienic true in
theorem St.aQ(S:St c z H m cs s)(h:aA z v pv)(hc:ql v H=O cl):∃a d b n e,pv=.ref a/\K2 z s.heap a cl e d b n/\(v=.aQ cl e∨∃i,v=.ae i/\H[i]? =O (.aQ cl e)):=by
 induction v using V.casesOn with
 |aQ j e=>
  cases hc
  refine A5 h ?_;clear h;rintro a d b n rfl p h2 ok r;exact u8 a d b.toList n _ J ⟨⟨S.i a p,J,J,by rw[zC];exact S.i d h2⟩,ok,r⟩<|.inl J
 |ae i=>
  replace hc:(match H[i]? with|some (.aQ c _)=>O c|_=>U)=O cl:=hc
  cases f:H[i]? with
  |none=>rw[f] at hc;exact ba hc
  |some o=>
  rw[f] at hc
  induction o using b4.casesOn with
  |aQ j e=>
   cases hc
   obtain⟨g,t,k⟩:=id S;refine cU (k.cW.cN f) λa x u hg L=>?_
   cases L with
   | @aQ _ _ _ d b n ok r=>
    have rd:∀q∈[(a,sX (de cl) d),(d,nZ b n)],s.heap.get? q.1=O q.2:=λq w=>(k.nw q<|dj _<|dj _<|dj _<|NK.mpr<|aD _ (mi hg) w).1;exact u8 a d b.toList n e (jO h u) ⟨⟨rd _<|.head _,J,J,by rw[zC];exact rd _<|.tail _<|.head _⟩,ok,r⟩<|.inr<|aD i J f
  |_=>exact ba hc
 |_=>exact ba hc
theorem YY(h:aA z v pv):handedIn pv=true:=by
 cases v
 ·rw[h];rfl
 ·rw[h];rfl
 ·exact h.elim λt e=>by rw[e];rfl
 ·exact h.1.elim λt e=>by rw[e];rfl
 ·refine iU h ?_;clear h;rintro _ _ _ rfl _;rfl
 ·refine iU h ?_;clear h;rintro _ _ _ rfl _;rfl
 ·refine u7 h ?_;clear h;rintro _ _ _ _ rfl _;rfl
 ·refine iU h ?_;clear h;rintro _ _ _ rfl _;rfl
 ·refine aB h ?_;clear h;rintro _ rfl _;rfl
theorem YZ{H:Hp}{i:Nat}:kC (.ae i) a H=match H[i]? with
  |some (.aQ _ b)=>cG (fd b a) H
  |_=>.j:=rfl
theorem Y0{H:Hp}{i:Nat}:ql (.ae i) H=match H[i]? with
  |some (.aQ c _)=>O c
  |_=>none:=rfl
theorem Y1{H:Hp}{i:Nat}:jY (.ae i) a u H=match H[i]? with
  |some (.aQ c b)=>.ok ()<|H.set i<|.aQ c<|fD b a u
  |_=>.j:=rfl
set_option tactic.hygienic true in
theorem Y2(b:∀cl,hD cx.K cl)(S:St c z H m cs s)(G:aA z v pv)(K:a∈iM)(p:kC v a H≠ .j):
  bl (du cx.dh cx.w) A (Ft pv (eb a) I) (kM (aA) c z m cs<|kC v a H) E s:=by
 have go:∀{cl q t d x n},pv=.ref t->K2 z s.heap t cl q d x n->∀u,fd q a=O u->bl (du cx.dh cx.w) A (Ft pv (eb a) I) (kM (aA) c z m cs<|.ok u H) E s:=by
  intro cl q t d x n e f u w;subst e;refine aB (KV f.K3 w) λP L B=>?_;obtain⟨g,M,F⟩:=id S;exact get_own F.fr F.dv f.aQ ((b cl).cN _) (b cl).KZ ((b cl).K1 a K) J L (YY B)<|.i (S.j _) B
 have r:∀{cl q},ql v H=O cl->kC v a H=cG (fd q a) H->(∀k,(v=.aQ cl k∨∃i,v=.ae i/\H[i]? =O (.aQ cl k))->k=q)->bl (du cx.dh cx.w) A (Ft pv (eb a) I) (kM (aA) c z m cs<|kC v a H) E s:=by
  intro cl q e1 e2 N;rw[e2] at p⊢;obtain⟨u,w⟩:=KI p;refine lB (S.aQ G e1) λt d x n k e f h=>?_;rw[N k h] at f;rw[w];exact go e f u w
 induction v using V.casesOn with
 |aQ cl q=>exact r J J λk h=>h.elim (λh=>by cases h;rfl) λ⟨i,h,_⟩=>by cases h
 |ae i=>
  have e:=YZ (a:=a) (H:=H) (i:=i);have e1:=Y0 (H:=H) (i:=i)
  cases y:H[i]? with
  |none=>rw[y] at e;exact ax e p
  |some o=>
   rw[y] at e e1
   induction o using b4.casesOn with
   |aQ cl q=>exact r e1 e λk h=>h.elim (λh=>by cases h) λ⟨j,h,h2⟩=>by cases h;rw[y] at h2;cases h2;rfl
   |_=>exact ax e p
 |_=>exact ax J p
set_option tactic.hygienic true in
theorem Y3(f:∀cl,hD cx.K cl)(S:St c z H m cs s)(Q:aA z x M)(N:aA z u y)(B:a∈iM)(k:jY x a u H≠ .j):
  bl (du cx.dh cx.w) A (NQ M (eb a) y) (λT F=>∃p,jY x a u H=.ok () p/\St c z p m cs F) E s:=by
 induction x using V.casesOn with
 |ae i=>
  have t:=Y1 (a:=a) (u:=u) (H:=H) (i:=i)
  cases G:H[i]? with
  |none=>rw[G] at t;exact ax t k
  |some o=>
  rw[G] at t
  induction o using b4.casesOn with
  |aQ cl W=>
   rw[t];obtain⟨g,v,j⟩:=id S;refine cU (j.cW.cN G) λb gr hb hg L=>?_;have e:=jO Q hb;subst e
   cases L with
   | @aQ _ _ _ d P n ok r=>
    have K:∀q∈[(b,sX (de cl) d),(d,nZ P n)],q∈bP c z cs v:=λq w=>dj _<|dj _<|dj _<|NK.mpr<|aD _ (mi hg) w;have rd:=λq w=>(j.nw q<|K q w).1;have h:InstAt s.heap b (sX (de cl) d) (de cl) (O<|Fs P.toList n):=⟨rd _<|.head _,J,J,by rw[zC];exact rd _<|.tail _<|.head _⟩;have hp:=set_plain (prog:=cx.dh) (w:=cx.w) (A:=A) (E:=E) (v:=y) (name:=eb a) (Q:=λT F=>∃p,R.ok () (H.set i<|.aQ cl<|fD W a u)=R.ok () p/\St c z p m cs F) (j.dv.keeps j.fr.keep) h (f cl).DW ?_
    ·exact hp
    ·refine osa_dict (post:=qO c z cs v i [(b,sX (de cl) d)] []) j.fr (by rw[zC];exact j.DL hg) (j.dv.keeps j.fr.keep) h J (f cl).zB ?_ (f cl).KZ (YU a r) (λq w=>ax w eU) (j.Ks hg) (putName_dict _ _ _ _ _ _) J ?_ λh' X Y=>?_
     ·unfold takerIn;rw[(f cl).K1 a B];rfl
     ·have Z:=(ok.gx u B).bK;have h2:=YV<|KY (a:=a) (hsh:=ado cx.w.params<|eb a) (t:=s.toks+1) N r;rw[<-h2];exact L1 Z
     ·refine⟨_,J,g,_,j.Kt hb hg X Y<|g8.aQ (ok.gx u B) ?_⟩;simpa using KY N r
  |_=>exact ax t k
 |_=>exact ax J k
end
section
variable{M:uR}{A:dN}{E:ak->ay->Prop}{j:ay}{base G g h:cz}{i:dA}{outer:List dA}{L e:aH}{m:aw->Option ak}{Q:Unit->ay->Prop}{news news':aV}
theorem K4(R:qM base G l e news h)(hs:∀q∈news',q∈news):qM base G l e news' h:=by
 obtain⟨B,c,a,d,b⟩:=R;exact⟨B,c,a,λq f=>d q<|hs q f,b⟩
theorem Y4(K:lu A base outer g)(F:Fr g L G m)(R:qM base G (i::outer) e news j.heap)(p:i.frame=O L)(c:G.UpToSlots j.heap)
  (r:∀a,qM base g outer e news a->g.UpToSlots a->Q () {j with heap:=a}):
  bl M (A.deeper i) («leaving» i<|.ref e) Q E j:=by
 obtain⟨B,s,d,f,k⟩:=R;exact Ys (adF K.stack) p k λa t u=>
  r a ⟨B,s,λb o q nm=>d b o (F.keep b o q) (λhm=>by
   rcases so p hm with z|z
   ·rw[z,AG F] at q;exact ba q
   ·exact nm z),λq l=>⟨(f q l).1,kts_none F.keep (f q l).2.1,(f q l).2.2⟩,t⟩ ((NR F.keep).trans<|c.trans u)
theorem Y5(K:lu A base outer g)(F:Fr g L h m)(N:News g L h news)(c:i.frame=O L)(k:i.scope.kind=.function):
  base.StaysIn (ml h<|dF<|i::outer)/\(∀b o,g.get? b=O o->b∉dF outer->(ml h<|dF<|i::outer).get? b=O o)/\
  (∀q∈news,(ml h<|dF<|i::outer).get? q.1=O q.2/\g.get? q.1=U/\base.get? q.1=U)/\h.FunFrames (ml h<|dF<|i::outer) (i::outer):=by
 have d:=pushX K F c k;have f:∀env'∈(i::outer),∀b,env'.frame=O b->b∈dF (i::outer):=λenv' l b hb=>ND.mpr<|aD env' l hb;refine⟨λb o q=>Fu _ (d.stays b o q) λhm=>?_,λb o q nm=>Fu _ (F.keep b o q) λhm=>?_,λq a=>?_,funFrames_hide d.frames f⟩
 ·rw[(d.frames.mem hm).1] at q;exact ba q
 ·rcases so c hm with z|z
  ·rw[z,AG F] at q;exact ba q
  ·exact nm z
 ·refine⟨Fu _ (N q a).1 λhm=>?_,(N q a).2.2,fresh_of_stays K.stays (N q a).2.2⟩
  rcases so c hm with z|z
  ·exact(N q a).2.1 z
  ·obtain⟨_,o,j,_⟩:=K.frames.mem z;rw[(N q a).2.2] at j;exact ba j
theorem Y6(K:lu A base outer g)(a:DC h j.heap e)(F:Fr g L h m)(N:News g L h news)(d:i.frame=O L)(l:i.scope.kind=.function)
  (p:∀c,qM base g outer e news c->g.UpToSlots c->Q () {j with heap:=c}):
  bl M (A.deeper i) («leaving» i<|.ref e) Q E j:=by
 refine u0 (Y5 K F N d l) λst sg r ff=>xW a.Kl λv w s hc hd t h2=>?_;have f:∀b o,(ml h<|dF<|i::outer).get? b=O o->h.get? b=O o:=λb o q=>Fj _ q;have en:(ml h<|dF<|i::outer).get? e=none:=by
  cases q:(ml h<|dF<|i::outer).get? e with
  |none=>rfl
  |some o=>have:=f _ _ q;rw[a.ce] at this;exact ba this
 refine Yt (adF K.stack) (ff.of_keeps λb o hb x=>aD o (a.DD b o hb) J) d s (λb o hb=>a.DD b o<|f b o hb) en hd t h2 λc k u=>?_;rw[hc] at k;exact p c ⟨_,st,sg,r,k⟩<|((NR F.keep).trans<|NR a.DD).trans u
end
noncomputable def wV(c:Fm)(A:dN):Prop:=A.handled=U∨∃e a b,A.handled=O (.ref e)/\(e,a)∈c.P/\a.data=.fields b/\b[2]? =O .none
noncomputable def wW(h:cz)(A:dN):Prop:=A.handled=U∨∃e a b,A.handled=O (.ref e)/\h.get? e=O a/\a.data=.fields b/\b[2]? =O .none
section
inductive Ms(c:Fm)(z:Zs)(H:Hp)(x:ak)(s:ay):Prop
 |mk:∀e h m cs g lvs,x=.ref e->DC h s.heap e->bG c z H m cs {s with heap:=h} g lvs->Ms c z H x s
structure sw(nm:Nat->aw)(c:Fm)(l:Lc)(cm:aw->Option ak)(cs:aV):Prop where
 mQ:s0 cm c.aS.cells cs
 wX:∀i j,i<l.length->j<l.length->nm i=nm j->i=j
 nn:(c.aS.cells.map (·.1)).Nodup
 bK:∀i,nm i≠⟨#[]⟩->i<l.length
 dZ:∀x,c.aS.kindOf x=some .cell->(c.aS.cells.lookup x).isSome=true
inductive jQ(nm:Nat->aw)(c:Fm)(z:Zs)(l:Lc)(H:Hp)(s:ay):Prop
 |mk:∀m cs cm,St c z H m cs s->g9 nm c c.aS z m cs l->sw nm c l cm cs->jQ nm c z l H s
noncomputable def sx(z:Zs):Fl->ku->Prop
 |.aU,.next=>True
 |.u,.brk=>True
 |.q,.cont=>True
 |.am v,.ret a=>aA z v a
 |_,_=>False
end
noncomputable def dy(ns:List aw)(i:Nat):aw:=ns.getD i ⟨#[]⟩
noncomputable abbrev MM:uR:=du cx.dh cx.w
structure Gx where
 ag:fi
 ns:List aw
 hd:Bool
 c:Fm
 A:dN
 fr:A.frames=some (c.aS::c.iq)
 ok:Fm.Ok c
 fg:wV c A
 qR:A.units<m0
structure Fx where
 g:Gx
 bo:dA
 m:aw->Option ak
 cs:aV
 l:Lc
 jM:bo.globals=ey
 hV:bo.builtins=uS
 aq:bo.scope.kind=.function
 dZ:∀x,bo.kindOf x=some .cell->(bo.cells.lookup x).isSome=true
structure Pt(f:Fx) where
 z:Zs
 H:Hp
 s:ay
 st:St f.g.c z H f.m f.cs s
 lo:g9 (dy f.g.ns) f.g.c f.bo z f.m f.cs f.l
noncomputable def Pt.le{f:Fx}(p q:Pt f):Prop:=p.z.le q.z
structure Tk{G F:Type}(y:Zs->G->F->Prop){f:Fx}(p:Pt f)(r:R G)(Q:F->ay->Prop)(E:ak->ay->Prop):Prop where
 ne:r≠ .j
 ok:∀(q:Pt f) a b,r=.ok a q.H->p.le q->y q.z a b->Q b q.s
 ex:∀x s z' H',r=.q H'->p.z.le z'->Xs f.g.c z' H' f.m f.cs x s->E x s
noncomputable def Go{G F:Type}(y:Zs->G->F->Prop){f:Fx}(p:Pt f)(r:R G)(t:Sem F):Prop:=∀Q E,Tk y p r Q E->bl MM f.g.A t Q E p.s
section
variable{G F u B:Type}{y:Zs->G->F->Prop}{rel':Zs->u->B->Prop}{f:Fx}{p:Pt f}{r:R G}{t:Sem F}{r':G->Hp->R u}{Q:B->ay->Prop}{E:ak->ay->Prop}
theorem Tk.to{q:Pt f}{r:R u}(T:Tk rel' p r Q E)(le:p.le q):Tk rel' q r Q E:=
 ⟨T.ne,λd a b e c=>T.ok d a b e<|le.q c,λx s g h e c=>T.ex x s g h e<|le.q c⟩
theorem Go.tA{c:F->ay->Prop}(h:Go y p r t)(k:∀(q:Pt f) a b,r=.ok a q.H->p.le q->y q.z a b->Tk rel' q (r' a q.H) Q E->c b q.s)(T:Tk rel' p (r.i r') Q E):bl MM f.g.A t c E p.s:=
 h c E ⟨λe=>T.ne (by rw[e];rfl),λq a b e le rl=>k q a b e le rl (by rw[e] at T;exact T.to le),λx s d g e le X=>T.ex x s d g (by rw[e];rfl) le X⟩
theorem Go.nx{c:F->ay->Prop}(h:Go y p r t)(k:∀(q:Pt f) a b,p.le q->y q.z a b->Tk rel' q (r' a q.H) Q E->c b q.s)(T:Tk rel' p (r.i r') Q E):bl MM f.g.A t c E p.s:=
 h.tA (λq a b _=>k q a b) T
theorem Go.of(h:r≠ .j->bl MM f.g.A t (kM y f.g.c p.z f.m f.cs r) (wT f.g.c p.z f.m f.cs r) p.s):Go y p r t:=λQ E T=>
 mm (h T.ne) (λb s ⟨c,a,d,e,le,S,rl⟩=>T.ok ⟨c,d,s,S,p.lo.au le⟩ a b e le rl) λx s ⟨c,d,e,le,X⟩=>T.ex x s c d e le X
noncomputable def Pt.tk(p:Pt f)(k:Nat):Pt f:=⟨p.z,p.H,{p.s with toks:=k},p.st.j k,p.lo⟩
theorem Tk.i(T:Tk rel' p (.ok a p.H) Q E)(h:rel' p.z a b):Q b p.s:=T.ok p a b J .refl h
theorem Tk.j(T:Tk rel' p (.ok a p.H) Q E)(h:rel' p.z a b)(k:Nat):Q b {p.s with toks:=k}:=T.ok (p.tk k) a b J .refl h
theorem Tk.q{c:Prop}[Decidable c]{r:R u}{a:Prop}(T:Tk rel' p (if c then r else .j) Q E)(k:c->Tk rel' p r Q E->a):a:=by
 by_cases h:c
 ·rw[aN h] at T;exact k h T
 ·rw[a9 h] at T;exact(T.ne J).elim
theorem Tk.op{b:Prop}(T:Tk rel' p (cG o H) Q E)(k:∀a,o=O a->Tk rel' p (.ok a H) Q E->b):b:=by
 cases o with
 |none=>exact(T.ne J).elim
 |some a=>exact k a J T
theorem Tk.as{b c:Type}{r:R b}{k:b->Hp->R c}{d:c->Hp->R u}(T:Tk rel' p ((r.i k).i d) Q E):Tk rel' p (r.i λa H=>(k a H).i d) Q E:=by cases r<;>exact T
end
section
variable{f:Fx}{p:Pt f}
noncomputable def sy:Zs->Bool->Bool->Prop:=λ_ a b=>a=b
noncomputable abbrev eF(x:V)(H:Hp):R Bool:=cG (Mine.dC x H) H
noncomputable def bj(f:Fx)(e:E)(a:aX):Prop:=∀p:Pt f,Go aA p (az f.g.ag e f.l p.H) (kw a f.bo)
noncomputable def iN(f:Fx)(e:E)(a:aX):Prop:=∀p:Pt f,Go sy p ((az f.g.ag e f.l p.H).i eF) (isTrue a f.bo<|kw a f.bo)
noncomputable def EsR(n:Nat)(z:Zs)(b:List V)(a:List ak):Prop:=aR z b a/\b.length=n
noncomputable def n6(f:Fx)(b:List E)(a:List aX):Prop:=∀p:Pt f,Go (EsR b.length) p (cu f.g.ag b f.l p.H) (spliced<|a.map λe=>(C,kw e f.bo))
noncomputable def Pt.on(p:Pt f)(s:ay)(S:St f.g.c p.z p.H f.m f.cs s):Pt f:=⟨p.z,p.H,s,S,p.lo⟩
theorem K5{u B:Type}{rel':Zs->u->B->Prop}{Q:B->ay->Prop}{E:ak->ay->Prop}{a:Bool->ay->Prop}{d:Bool->R u}(g:aA p.z x e)(k:∀s S b,Tk rel' (p.on s S) (d b) Q E->a b s)(T:Tk rel' p (match Mine.dC x p.H with|some c=>d c|.none=>.j) Q E):
  bl MM f.g.A (Au e) a E p.s:=by
 cases h:Mine.dC x p.H with
 |none=>rw[h] at T;exact(T.ne J).elim
 |some b=>rw[h] at T;exact Kx p.st g h λs S=>k s S b<|T.to .refl
theorem Y7{u B:Type}{rel':Zs->u->B->Prop}{r:R V}{Q:B->ay->Prop}{E:ak->ay->Prop}{a:Bool->Hp->R u}(T:Tk rel' p (r.i λx H=>match Mine.dC x H with|some c=>a c H|.none=>.j) Q E):Tk rel' p ((r.i eF).i a) Q E:=by
 cases r with
 |ok x H=>
  have e:(match Mine.dC x H with|some c=>a c H|.none=>.j)=(eF x H).i a:=by unfold eF;cases Mine.dC x H<;>rfl
  exact e▸T
 |_=>exact T
theorem K6(i:bj f a e)(hb:bj f b g):bj f (.bI op a b) (.BinOp e (ma op) g c):=
 λp Q E T=>wpAny_BinOp<|(i p).nx (λq x m le j=>(hb q).nx λk y o d l=>Go.of (λh=>YH k.st (aA.au d _ _ j) l h) Q E) T
theorem Y8(hm:Of (qQ op) c=C)(i:bj f a g)(hb:bj f b c):bj f (.b9 op a b) (.Compare g [qQ op] [c] d):=
 λp Q E T=>wpAny_Compare1 ((i p).nx (λq x m le j=>(hb q).nx λk y o e l=>Go.of (λh=>KP f.g.qR k.st (aA.au e _ _ j) l h) Q E) T) hm
theorem Y9(h:bj f a c):bj f a (.BoolOp op [c] b):=λp Q E T=>BoolOp_one<|h p Q E T
theorem Za(i:bj f a e)(hb:bj f b<|.BoolOp .And (g::rest) d):bj f (.bN a b) (.BoolOp .And (e::g::rest) d):=
 λp Q E T=>BoolOp_and<|(i p).nx (λq x j le h=>K5 h λs S c T=>by cases c with
  |true=>exact hb (q.on s S) Q E T
  |false=>exact T.i h) T
theorem Zb(i:bj f a e)(hb:bj f b<|.BoolOp .Or (g::rest) d):bj f (.or a b) (.BoolOp .Or (e::g::rest) d):=
 λp Q E T=>BoolOp_or<|(i p).nx (λq x j le h=>K5 h λs S c T=>by cases c with
  |true=>exact T.i h
  |false=>exact hb (q.on s S) Q E T) T
theorem DX(r:aA p.z x a):Go sy p (eF x p.H) (Au a):=λQ E T=>by
 cases h:Mine.dC x p.H with
 |none=>exact(T.ne (by unfold eF;rw[h];rfl)).elim
 |some b=>exact Kx p.st r h λs S=>T.ok (p.on s S) b b (by unfold eF;rw[h];rfl) .refl J
theorem Zc:(eF x H).i (λb H=>R.ok (V.i<|!b) H)=cG ((Mine.dC x H).map λb=>V.i<|!b) H:=by unfold eF;cases Mine.dC x H<;>rfl
theorem Zd(g:bj f a d):bj f (.cB a) (.UnaryOp .Not d c):=
 λp Q E T=>UnaryOp_<|(g p).nx (λq x j le h T=>not_of<|(DX h).nx (λq t b i e T=>T.i<|bJ (λb=>adv<|!b) e.symm)<|Zc▸T) T
theorem Ze{t a b:E}(ht:iN f t g)(j:bj f a h)(hb:bj f b i):bj f (.bz t a b) (.IfExp g h i d):=
 λp Q E T=>IfExp_<|(ht p).nx (λq t c le e T=>by cases e;cases t with
  |true=>exact j q Q E T
  |false=>exact hb q Q E T)<|Y7 T
theorem Zf{b:aX}(d:∀c whole,isTrue b c whole=(do let v<-whole;Og b.pos;holding [v]<|Au v))(e:bj f a b):iN f a b:=
 λp Q E T=>isTrue_plain ((e p).nx (λq x h le g=>DX g Q E) T)<|d _ _
theorem Zg{op:qf}{a b:E}{g c:aX}{d:dq}(hm:Of (qQ op) c=C)(i:bj f a g)(hb:bj f b c):iN f (.b9 op a b) (.Compare g [qQ op] [c] d):=
 λp Q E T=>wpAny_isTrue_Compare1 ((i p).nx (λq x m le j T=>(hb q).nx (λq y o e k T=>(Go.of λh=>KP f.g.qR q.st (aA.au e _ _ j) k h).nx (λq v s le l=>DX l Q E) T) T.as)<|Tk.as T) hm
theorem Zh{a:E}{d:aX}{c:dq}(g:iN f a d):iN f (.cB a) (.UnaryOp .Not d c):=
 λp Q E T=>isTrue_not ((g p).nx (λq t b le e T=>T.i (congrArg not e)) (by
  have T:Tk sy p (((az f.g.ag a f.l p.H).i λx H=>cG ((Mine.dC x H).map λb=>V.i (!b)) H).i eF) Q E:=T
  cases h:az f.g.ag a f.l p.H with
  |ok x H=>rw[h] at T;exact(show(eF x H).i (λb H=>R.ok (!b) H)=(cG ((Mine.dC x H).map λb=>V.i (!b)) H).i eF by unfold eF;cases Mine.dC x H<;>rfl)▸T
  |_=>rw[h] at T;exact T))
theorem Zi(g:iN f a d):iN f a (.BoolOp .And [d] c):=
 λp Q E T=>isTrue_and<|g p _ E ⟨T.ne,λq t b e le rl=>by
  cases rl;cases t with
  |true=>exact isTrue_and_nil<|T.ok q _ _ e le J
  |false=>exact T.ok q _ _ e le J,T.ex⟩
theorem Zj(g:iN f a d):iN f a (.BoolOp .Or [d] c):=
 λp Q E T=>isTrue_or<|g p _ E ⟨T.ne,λq t b e le rl=>by
  cases rl;cases t with
  |true=>exact T.ok q _ _ e le J
  |false=>exact isTrue_or_nil<|T.ok q _ _ e le J,T.ex⟩
theorem Zk{r:R V}{k:Hp->R V}{Q:Bool->ay->Prop}{E:ak->ay->Prop}(T:Tk sy p ((r.i λx H=>match Mine.dC x H with|some c=>if c then k H else .ok x H|.none=>.j).i eF) Q E):
  Tk sy p ((r.i eF).i λc H=>if c then(k H).i eF else .ok C H) Q E:=by
 cases r with
 |ok x H=>
  have e:(match Mine.dC x H with|some c=>if c=I then k H else R.ok x H|.none=>.j).i eF=(eF x H).i λc H=>if c then(k H).i eF else .ok C H:=by
   unfold eF
   cases h:Mine.dC x H with
   |none=>rfl
   |some c=>cases c with
    |true=>rfl
    |false=>show cG (Mine.dC x H) H=_;rw[h];rfl
  exact e▸T
 |_=>exact T
theorem Zl{r:R V}{k:Hp->R V}{Q:Bool->ay->Prop}{E:ak->ay->Prop}(T:Tk sy p ((r.i λx H=>match Mine.dC x H with|some c=>if c then .ok x H else k H|.none=>.j).i eF) Q E):
  Tk sy p ((r.i eF).i λc H=>if c then .ok I H else(k H).i eF) Q E:=by
 cases r with
 |ok x H=>
  have e:(match Mine.dC x H with|some c=>if c=I then R.ok x H else k H|.none=>.j).i eF=(eF x H).i λc H=>if c then .ok I H else(k H).i eF:=by
   unfold eF
   cases h:Mine.dC x H with
   |none=>rfl
   |some c=>cases c with
    |false=>rfl
    |true=>show cG (Mine.dC x H) H=_;rw[h];rfl
  exact e▸T
 |_=>exact T
theorem Zm(h:iN f a g)(hb:iN f b<|.BoolOp .And rest d):iN f (.bN a b) (.BoolOp .And (g::rest) d):=
 λp Q E T=>isTrue_and<|(h p).nx (λq t c le e T=>by cases e;cases t with
  |true=>exact hb q Q E T
  |false=>exact T.i J)<|Zk T
theorem Zn(h:iN f a g)(hb:iN f b<|.BoolOp .Or rest d):iN f (.or a b) (.BoolOp .Or (g::rest) d):=
 λp Q E T=>isTrue_or<|(h p).nx (λq t c le e T=>by cases e;cases t with
  |true=>exact T.i J
  |false=>exact hb q Q E T)<|Zl T
end
noncomputable def DY(sc:c4)(x:aw):Bool:=sc.names.lookup x==O .local||sc.names.lookup x==O .cell||sc.names.lookup x==O .free
noncomputable def iu(sc:c4)(x:aw):Bool:=sc.names.lookup x==O .globalImplicit
noncomputable def kN(x:aw):Bool:=(x==("__debug__":aw))==C&&(x==("__classdict__":aw))==C
section
variable{f:Fx}{p:Pt f}
theorem Zo{i:Int}:bj f (.c<|.aa i) (.Constant (.int i) k a):=λp Q E T=>Oh<|T.j jP _
theorem Zp{x:List Nat}{y:aw}(h:y.cps.toList=x)(b:x.length<=1000):bj f (.c<|.ah x) (.Constant (.str y) k a):=
 λp Q E T=>Constant_str<|T.j (by rw[show y=sV x by unfold sV;rw[<-h]];exact pT<|aE b (by rw[iy];decide)) _
theorem Zq:bj f (.c<|.i b) (.Constant (.bool b) k a):=λp Q E T=>Constant_bool<|T.i Ky
theorem Zr:bj f (.c .none) (.Constant .none k a):=λp Q E T=>Constant_none<|T.i wU
theorem Pt.jM(p:Pt f){Q E:ak->ay->Prop}(h:gu cx.K ey x=O (O v))(b:iu f.bo.scope x=I)(h4:kN x=I)(q:Q v p.s):bl MM f.g.A (kw (.Name x a) f.bo) Q E p.s:=
 YB p.st h f.aq f.jM (beq_iff_eq.mp b) (beq_iff_eq.mp<|bL h4) q
theorem Zt(b:gu cx.K ey x=O (O pv))(h2:DR cx.K v pv=I)(c:iu f.bo.scope x=I)(h4:kN x=I):bj f (.c v) (.Name x a):=
 λp Q E T=>p.jM b c h4<|T.i<|YD h2
theorem Zu(b:dy f.g.ns i=x)(h3:DY f.bo.scope x=I)(h4:kN x=I):bj f (.l i) (.Name x a):=λp Q E T=>by
 have T:Tk aA p (match f.l[i]? with|some (some v)=>.ok v p.H|_=>.j) Q E:=T
 rcases e:f.l[i]? with _|_|v<;>rw[e] at T
 ·exact(T.ne rfl).elim
 ·exact(T.ne J).elim
 ·refine aB (p.lo i v e) λc r V=>Fv (Kv p.st (b▸V) f.aq ?_ (beq_iff_eq.mp<|bR h4)<|T.i r)<|beq_iff_eq.mp<|bL h4
  rcases jr.mp h3 with h3|h3
  ·exact(jr.mp h3).imp beq_iff_eq.mp λh=>.inl<|beq_iff_eq.mp h
  ·exact .inr<|.inr<|beq_iff_eq.mp h3
theorem Zv{n:Nat}{i:Int}{k:Nat}{a pos':dq}(h:i=n):bj f (.qi n) (.UnaryOp .USub (.Constant (.int i) k pos') a):=
 λp Q E T=>UnaryOp_<|Oh<|P.neg_int<|h▸T.j jP _
noncomputable def fL:aX->Bool
 |.Starred _ _=>C
 |_=>I
noncomputable def uw:aX->Bool
 |.Call (.Name _ _) [] [] _=>C
 |_=>I
theorem Zw(b:List aX):b.all fL=I->Oi b a=b.map λe=>(C,kw e a):=by
 induction b with
 |nil=>exactλ_=>J
 |cons e b c=>
  intro h;have c:=c<|bR h
  cases e<;>first|exact bc (bL h)|exact bJ _ c
theorem pV{b:List aX}(h:b.all fL=I):backTo c (Oi b a)=b.map λe=>(C,kw e a):=by
 rw[Zw b h];exact rc
theorem K7(h:uw v=I):aer v attr a whole=whole:=by
 cases v<;>first|rfl|(cases func<;>first|rfl|(cases args<;>cases keywords<;>first|rfl|exact bc h))
theorem qS{b:List aX}{c:dq}{d:ak}{first:List ak}{P:cz->Prop}{Q E:ak->ay->Prop}
  (i:∀h,P h->∃k,(k=NT∨k=NV∨k=NW)/\uU MM h (Oj d) k)
  (h:bl MM f.g.A (spliced<|b.map λe=>(C,kw e f.bo)) (λg a=>P a.heap/\bl MM f.g.A (call d<|first++g) Q E a) E p.s):
  bl MM f.g.A (callWith c d first (b.map λe=>(C,kw e f.bo)) []) Q E p.s:=by
 refine callWith_of ?_ i ?_
 ·rw[List.any_nil,oj,adG];exactλx j=>(eh.mp j).elim λe h=>h.2▸sP
 ·cases b with
  |cons e b=>exact evalArgs_plain h
  |nil=>
   unfold evalArgs;exact bu<|mm h (λg o l=>bu<|dB<|mn<|bu<|dB<|bu<|dB<|dB l) λm m x=>x
structure Av(run:fi)(A:dN):Prop where
 fg:A.handled=none
 sA:∀pas,(A.under (.builtin "type.__call__" ⟨.ref bZ::pas,[]⟩)).depth<qd
 j2:∀cl,hD cx.K cl
 ao:∀(fn:Fn) (f:Fx),f.g.A=A->∀(p:Pt f) (as:List V) (pas:List ak),aR p.z as pas->Go aA p (run fn as p.H) (kq (.ref fn) pas)
 aO:∀cl a fn,gV cl a=some fn->gF cx.K (.ref (de cl)) (eb a)=some (some (.ref fn))/\a∉iM/\adH cx.K (.ref fn)=true/\mo cx.K (.ref fn)=true
 Zx:∀(cl:eX) (f:Fx),f.g.A=A->∀(p:Pt f) (as:List V) (pas:List ak),aR p.z as pas->Go aA p (iZ run cl as p.H) (kq (.ref (de cl)) pas)
 zD:∀cl,mo cx.K (.ref (de cl))=true
theorem K8(F:∀cl,hD cx.K cl)(b:aA p.z v pv)(c:a∈iM):Go aA p (kC v a p.H) (Ft pv (eb a) I):=
 Go.of λh=>mm (Y2 (E:=λ_ _=>False) F p.st b c h) (λ_ _ x=>x) λ_ _ x=>x.elim
theorem Zy(F:∀cl,hD cx.K cl)(d:x=eb a)(g:a∈iM)(hs:uw b=I)(h:bj f e b):bj f (.q e a) (.Attribute b x c):=
 λp Q E T=>Attribute_any_ ((h p).nx (λq v j le i=>d▸K8 F i g Q E) T)<|by rw[arm_eval_Attribute,K7 hs]
theorem Zz:n6 f [] []:=λp Q E T=>Fw<|T.i ⟨aR.nil,J⟩
theorem ZA(h:bj f e g)(hs:n6 f d a):n6 f (e::d) (g::a):=
 λp Q E T=>Fz ((h p).nx (λq v k le i=>(hs q).nx λl m j c b T=>T.i ⟨aR.cons (aA.au c _ _ i) b.1,bJ (·+1) b.2⟩) T)
theorem ZB{a:List aX}(F:Av f.g.ag f.g.A)(e:gu cx.K ey x=O (O<|.ref fn))(g:iu f.bo.scope x=I)(h4:kN x=I)(hp:a.all fL=I)(h:mo cx.K (.ref fn)=I)
  (i:n6 f as a):bj f (.ao fn as) (.Call (.Name x np) a [] b):=
 λp Q E T=>xJ<|pV hp▸p.jM e g h4 (qS (FA h)<|(i p).nx (λq j c le d T=>⟨q.st.dv,F.ao fn f J q j c d.1 Q E T⟩) T)
theorem ZC{a:List aX}(F:Av f.g.ag f.g.A)(e:gu cx.K ey x=O (O<|.ref<|de cl))(g:iu f.bo.scope x=I)(h4:kN x=I)(hp:a.all fL=I)
  (h:n6 f as a):bj f (.ce cl as) (.Call (.Name x np) a [] b):=
 λp Q E T=>xJ<|pV hp▸p.jM e g h4 (qS (FA<|F.zD cl)<|(h p).nx (λq i c le d T=>⟨q.st.dv,F.Zx cl f J q i c d.1 Q E T⟩) T)
theorem DZ(c:∀a,b≠ .ref a)(h:cz)(_:True):∃k,(k=NT∨k=NV∨k=NW)/\uU M h (Oj b) k:=by
 refine aD .machine (.inr<|.inl J) ?_
 cases b<;>first|exact .now|exact ax rfl<|c _
theorem zE{c:List aX}(h:gu cx.K ey x=O U)(i:aeo x=O fv)(j:x≠"__name__")(k:∀a,fv≠ .ref a)(l:iu f.bo.scope x=I)(h4:kN x=I)(hp:c.all fL=I)
  (B:∀(p:Pt f) (as:List V) (c:List ak),aR p.z as c->Go aA p (ga b as p.H) (kq fv c))(m:n6 f as c):bj f (.bi b as) (.Call (.Name x np) c [] d):=
 λp Q E T=>xJ<|pV hp▸DN p.st h i j f.aq f.jM f.hV (beq_iff_eq.mp l) (beq_iff_eq.mp<|bL h4) (qS (DZ k)<|(m p).nx (λq o e le g T=>⟨bk,B q o e g.1 Q E T⟩) T)
end
section
variable{c:Fm}{z:Zs}{H:Hp}{m:aw->Option ak}{cs:aV}{s:ay}
theorem Zs.le.i{Z:aV}:z.le ⟨Z++z.Z,z.ad⟩:=⟨λq h=>dj _ h,[],(cM _).symm⟩
theorem Zs.le.ce:z.le ⟨z.Z,z.ad++[a]⟩:=⟨λb h=>h,_,J⟩
theorem St.q(S:St c z H m cs s){o:PO}(a:o.isFreed=C):St c ⟨[(s.heap.objs.size,o)]++z.Z,z.ad⟩ H m cs {s with heap:=s.heap.push o}:=
 S.y [(s.heap.objs.size,o)] (λb g e=>hJ o e) (λq d=>by rw[iv.mp d];exact⟨kt _ a,bF _⟩) (E5 ..)
theorem St.K9(S:St c z H m cs s){a:Array ak}(r:aR z b a.toList)(d:a.size<=eH):St c ⟨z.Z,z.ad++[s.heap.objs.size]⟩ (H++[.af b]) m cs {s with heap:=s.heap.push<|cZ a n}:=by
 obtain⟨g,e,S⟩:=S;exact⟨g,_,S.DK (gr:=[(s.heap.objs.size,cZ a n)]) (S.fr.push _) (S.nw.push S.fr _) (λq h r hr=>by rw[iv.mp h];exact S.lt r hr) (E5 ..)<|.af r d⟩
inductive ZD(c:Fm)(z:Zs)(H:Hp)(m:aw->Option ak)(cs:aV)(s:ay)(i:Nat)(xs:List V):Prop
 |mk (a:aH) (vs:Array ak) (n:Nat) (ha:z.ad[i]? =some a) (ho:s.heap.get? a=some (cZ vs n)) (r:aR z xs vs.toList) (hs:vs.size<=eH)
  (up:∀h' xs' vs' n',sU a s.heap h'->h'.get? a=some (cZ vs' n')->aR z xs' vs'.toList->vs'.size<=eH->St c z (H.set i (.af xs')) m cs {s with heap:=h'})
theorem St.cW(S:St c z H m cs s){i:Nat}{j:List V}(h:H[i]? =O (.af j)):ZD c z H m cs s i j:=by
 obtain⟨g,l,S⟩:=S;refine cU (S.cW.cN h) λa w k hg L=>?_
 cases L with
 | @af _ _ o n r q=>
  exact⟨a,o,n,k,(S.DL (pre:=[]) hg _<|.head _).1,r,q,λx t u y b d v e=>⟨g,_,S.u (pre:=[]) k hg b d<|.af v e⟩⟩
end
section
variable{f:Fx}{p:Pt f}
noncomputable def Pt.i(p:Pt f){z:Zs}{H:Hp}{s:ay}(S:St f.g.c z H f.m f.cs s)(le:p.z.le z):Pt f:=⟨z,H,s,S,p.lo.au le⟩
theorem ZE{d:List V}(r:aR p.z d a)(b:d.length<=eH):Go aA p (.ok (.u d) p.H) (newTuple a):=λQ E T=>by
 have b:a.toArray.size<=eH:=by rw[NX,<-r.j];exact b
 exact uT (T.ok (p.i (p.st.q J) .i) _ _ J Zs.le.i<|f8 _ a.toArray 0 J (.inl<|.head _) b<|aR.au .i _ _ r) b
theorem ZF{b:List V}(r:aR p.z b d)(a:b.length<=eH):Go aA p (.ok (.ae p.H.length)<|p.H++[.af b]) (AC d):=λQ E T=>by
 have a:d.toArray.size<=eH:=by rw[NX,<-r.j];exact a
 refine uT (T.ok (p.i (p.st.K9 r a) .ce) _ _ J Zs.le.ce<|aD _ J ?_) a;obtain⟨g,e,S⟩:=p.st;rw[S.cW.bK];exact mT
theorem ZG{d:List E}{a:List aX}(hp:a.all fL=I)(g:d.length<=1000)(h:n6 f d a):bj f (.u d) (.Tuple a k e):=
 λp Q E T=>Tuple_<|pV hp▸(h p).nx (λq j i le b=>ZE b.1 (by rw[b.2,iy];exact aE g<|D J) Q E) T
theorem ZH{d:List E}{a:List aX}(hp:a.all fL=I)(g:d.length<=1000)(h:n6 f d a):bj f (.af d) (.List a e):=
 λp Q E T=>List_<|pV hp▸(h p).nx (λq j i le b=>ZF b.1 (by rw[b.2,iy];exact aE g<|D J) Q E) T
end
theorem ZI{A:dN}{E:ak->ay->Prop}{s:ay}{a:dA}{o:aX}{name:aw}{apos c:dq}{b:List aX}{Q:ak->ay->Prop}(hs:uw o=I)(hp:b.all fL=I)(m:b.length<30)(hline:(apos.endLine==c.line)=I)
  (h:∀q,bl MM A (kw o a) (λov d=>bl MM A (getMethod ov name q) (λfp g=>bl MM A (callWith c fp.1 fp.2 (b.map λe=>(C,kw e a)) []) Q E g) E d) E s):
  bl MM A (kw (.Call (.Attribute o name apos) b [] c) a) Q E s:=by
 show bl MM A (aer o name a (kw o a)>>=λov=>Og apos.atName>>=λ_=>methodCall o name apos c a ov b.length (backTo c<|Oi b a) []) Q E s;rw[K7 hs,pV hp];have i:aes b.length (b.map λe=>(C,kw e a)) []=true:=by
  unfold aes;rw[lr.mpr λx r=>(eh.mp r).elim λe h=>h.2▸J];exact dH m
 refine bu<|mm (h<|do return(<-importBound o a).getD I) (λov d j=>bu<|uV ?_) λl l x=>x;unfold methodCall;rw[i,show methodCallPos I o a apos c=pure c from aN hline];exact bu<|mn<|mm j (λfp g k=>bu<|dB k) λl l x=>x
inductive ux{f:Fx}(p:Pt f)(v:V)(pv:ak)(a:At):Prop
 |mk (id:String) (get:∀(Q:ak×List ak->ay->Prop) (E:ak->ay->Prop) (pl:Sem Bool),Q (.builtin id,[pv]) p.s->bl MM f.g.A (getMethod pv (eb a) pl) Q E p.s)
  (call:∀(q:Pt f) (vs:List V) (pvs:List ak),p.le q->aR q.z vs pvs->Go aA q (hS v a vs q.H) (kq (.builtin id) (pv::pvs)))
section
variable{f:Fx}{p:Pt f}
theorem ZJ{id:String}(h:cz)(_:True):∃k,(k=NT∨k=NV∨k=NW)/\uU MM h (Oj<|.builtin id) k:=aD .machine (.inr<|.inl J) .now
theorem ZK{v:V}{a:At}{H:Hp}{b:Prop}[Decidable b]{Q:ak->ay->Prop}{E:ak->ay->Prop}{e:Prop}(g:Fn->R V)(d:R V)(T:Tk aA p (match ql v H with|some c=>(match gV c a with|some fn=>g fn|none=>.j)|none=>if b then d else .j) Q E)
  (k1:∀cl fn,ql v H=O cl->gV cl a=O fn->Tk aA p (g fn) Q E->e)(h:b->Tk aA p d Q E->e):e:=by
 cases hc:ql v H with
 |none=>rw[hc] at T;exact T.q h
 |some cl=>
  rw[hc] at T;have T:Tk aA p (match gV cl a with|some fn=>g fn|none=>.j) Q E:=T
  cases hm:gV cl a<;>rw[hm] at T
  ·exact(T.ne J).elim
  ·exact k1 _ _ hc hm T
theorem ZL{h:List aX}{apos m:dq}(F:Av f.g.ag f.g.A)(B:∀(p:Pt f) (v:V) (pv:ak),aA p.z v pv->o7 v a p.H=I->ux p v pv a)(u:x=eb a)(hs:uw r=I)(hp:h.all fL=I)(w:h.length<30)(hline:(apos.endLine==m.line)=I)
  (y:bj f e r)(t:n6 f as h):bj f (.aO e a as) (.Call (.Attribute r x apos) h [] m):=by
 subst u;refineλp Q E T=>ZI hs hp w hline λz=>(y p).nx (λq v pv le s T=>ZK (λfn=>(cu f.g.ag as f.l q.H).i λi H=>f.g.ag fn (v::i) H) ((cu f.g.ag as f.l q.H).i λi H=>hS v a i H) T (λcl fn hc hm T=>?_) λhb T=>(B q v pv s hb).casesOn λid A G=>A _ E z (qS ZJ<|(t q).nx (λo i j k l T=>⟨bk,G o i j k l.1 Q E T⟩) T)) T
 refine lB (q.st.aQ s hc) ?_;rintro b d R n W rfl c-;obtain⟨g,K,S⟩:=id q.st;obtain⟨L,lh,M,N⟩:=F.aO cl a fn hm;exact method_inst S.fr S.dv c.aQ ((F.j2 cl).cN _) L M (KW c.K3<|YW λq P e=>lh<|e▸c.ok.DF q P)<|qS (FA N)
  ((t q).nx (λo i j k l T=>⟨o.st.dv,F.ao fn f J o (v::i) (_::j) (aR.cons (aA.au k _ _ s) l.1) Q E T⟩) T)
theorem ZM{H:Hp}(h:Bp H i=I):∃a,H[i]? =O (.af a):=by
 unfold Bp at h
 rcases e:H[i]? with _|⟨a|_|_⟩<;>rw[e] at h<;>first|exact⟨a,rfl⟩|exact bc h
theorem D0{d g:Type}{c:Zs->d->g->Prop}{H:Hp}{i:Nat}{k:List V->R d}{Q:g->ay->Prop}{E:ak->ay->Prop}{a:Prop}(T:Tk c p (match H[i]? with|some (.af b)=>k b|_=>.j) Q E)(h:∀b,H[i]? =O (.af b)->Tk c p (k b) Q E->a):a:=by
 rcases e:H[i]? with _|⟨b|_|_⟩<;>rw[e] at T<;>first|exact h b e T|exact(T.ne rfl).elim
theorem D1(h:aR z [u] a):∃b,a=[b]/\aA z u b:=by
 cases a with
 |nil=>exact h.elim
 |cons b r=>cases r with
  |nil=>exact aD b J h.1
  |cons _ _=>exact h.2.elim
theorem Lb{b:Array ak}(h:aR z a b.toList)(d:aA z u c):aR z (a++[u]) (b.push c).toList:=by
 rw[Array.toList_push];exact h.q<|aR.cons d aR.nil
theorem Ld{H:Hp}(h:o7 v a H=I)(c:a≠ .jW)(hg:a≠ .cN):∃i b,v=.ae i/\H[i]? =O (.af b):=by
 refine dn λd=>?_
 induction v using V.casesOn with
 |ae i=>exact(ZM<|bR h).elim λb e=>d ⟨i,b,J,e⟩
 |ah _=>exact c<|D h
 |dct _=>exact hg<|D h
 |_=>exact bc h
theorem wY{i j:Type}{d:Zs->i->j->Prop}{k:List V->R i}{b:List V}{g:List ak}{Q:j->ay->Prop}{E:ak->ay->Prop}{a:Prop}(T:Tk d p (k b) Q E)(rs:aR p.z b g)(l:k []=.j)(h2:∀u v r,k (u::v::r)=.j)(m:∀u h,b=[u]->g=[h]->aA p.z u h->Tk d p (k [u]) Q E->a):a:=by
 refine dn λc=>?_
 induction b using aW with
 |nil=>exact T.ne l
 |cons u b=>induction b using aW with
  |cons v r=>exact T.ne<|h2 u v r
  |nil=>exact aB (D1 rs) λh e o=>c<|m u h J e o T
theorem ZN{v:V}{pv:ak}(r:aA p.z v pv)(hb:o7 v .q p.H=I):ux p v pv .q:=by
 refine eB (Ld hb (λh=>ax h<|D J) λh=>ax h<|D J) λi l e d=>?_;obtain⟨a,m,n,j,c,-⟩:=p.st.cW d;rw[e] at r⊢;rw[jO r j];refine⟨"list.append",λQ E y q=>?_,λq k o le rs Q E T=>?_⟩
 ·rw[show eb .q=("append":aw) from by decide+kernel];exact FC (aD _ c J) adI PySem.F.slot_list_append PySem.F.type_list_append (λb e=>by cases e;exact aD _ c J) q
 ·refine wY (k:=λk=>hS (.ae i) .q k q.H) T rs J (λ_ _ _=>J) λu z e s t T=>?_;rw[s];refine D0 T λl d T=>T.q λw T=>?_;obtain⟨b,m,n,hb,c,r,hs,up⟩:=q.st.cW d;obtain rfl:=cS<|(le.at j).symm.trans hb;exact append_at (hsz:=hs) c λx g hd=>T.ok (q.i (up x _ _ _ g hd (Lb r t) (by rw[adJ,iy,<-NY,<-r.j];exact w)) .refl) _ _ J Zs.le.refl wU
end
section
variable{f:Fx}{p:Pt f}
theorem aR.eJ{u:V}(b:List V):∀{a:List ak},aR z (b++[u]) a->∃c y,a=c++[y]/\aR z b c/\aA z u y:=by
 induction b with
 |nil=>exactλh=>aB (D1 h) λy e r=>cK [] y e aR.nil r
 |cons y b d=>
  intro a h
  induction a using aW with
  |nil=>exact h.elim
  |cons v a=>exact cU (d h.2) λc y e r g=>cK (v::c) y (bJ _ e) (aR.cons h.1 r) g
theorem ZO{g i:Type}{d:Zs->g->i->Prop}{k:List V->R g}{e:List V}{b:List ak}{Q:i->ay->Prop}{E:ak->ay->Prop}{a:Prop}(T:Tk d p (k e) Q E)(rs:aR p.z e b)(h:∀u r,k (u::r)=.j)(j:b=[]->Tk d p (k []) Q E->a):a:=by
 refine dn λc=>?_
 induction e using aW with
 |cons u r=>exact T.ne<|h u r
 |nil=>induction b using aW with
  |nil=>exact c<|j J T
  |cons _ _=>exact rs
theorem ZP{a:Array ak}{b:List ak}(e:a.toList=b++[y]):a.size=b.length+1/\a[a.size-1]? =O y/\(a.eraseIdxIfInBounds<|a.size-1).toList=b:=by
 have h:a.size=b.length+1:=by rw[<-NY,e];exact bx
 refine⟨h,by rw[<-adK,e,h];exact mT,?_⟩;unfold Array.eraseIdxIfInBounds;rw[dif_pos (by rw[h];exact sM _),Array.toList_eraseIdx,e,h,acU,List.eraseIdx_append_of_length_le (bF _),p9];exact cM _
theorem ZQ(r:aA p.z v pv)(hb:o7 v .hO p.H=I):ux p v pv .hO:=by
 refine eB (Ld hb (λh=>ax h<|D J) λh=>ax h<|D J) λi g e j=>?_;obtain⟨a,d,n,l,c,-⟩:=p.st.cW j;rw[e] at r⊢;rw[jO r l];refine⟨"list.pop",λQ E B q=>?_,λq m w le rs Q E T=>?_⟩
 ·rw[show eb .hO=("pop":aw) from by decide+kernel];exact FC (aD _ c J) adI adL PySem.F.type_list_pop (λb e=>by cases e;exact aD _ c J) q
 ·refine ZO (k:=λm=>hS (.ae i) .hO m q.H) T rs (λ_ _=>J) λe T=>?_;rw[e];refine D0 T λg j T=>?_
  cases k:g.getLast? with
  |none=>rw[k] at T;exact(T.ne J).elim
  |some u=>
   rw[k] at T;obtain⟨b,d,n,hb,c,r,hs,up⟩:=q.st.cW j;obtain rfl:=cS<|(le.at l).symm.trans hb;obtain⟨x,e⟩:=List.getLast?_eq_some_iff.mp k;rw[e] at r T;refine cU (aR.eJ x r) λF y e r z=>ly (ZP e) λA h2 o=>call_meets adL (aD _ c J) PySem.F.entry_list_pop (PySem.F.args_list_pop_1 _) (PySem.MeetsSeq.list_pop_last _ _ n y h2 hs) ⟨c,?_⟩;have s:=PySem.IsL.update c λg=>g.eraseIdxIfInBounds<|d.size-1;have t:(d.eraseIdxIfInBounds<|d.size-1).size+1=d.size:=by rw[<-NY,o];exact A.symm
   rw[a9 (λq=>ax (t.trans (beq_iff_eq.mp q).symm)<|Nz _)] at s;exact T.ok (q.i (up _ _ _ _ (adM ..) s (by rw[o,ac0];exact r)<|aE (sQ<|Nat.lt_of_succ_le<|b7 t) hs) .refl) _ _ J Zs.le.refl z
theorem ZR(b:List V):∀{c:List<|List Nat} {a:List ak},rE b=O c->aR z b a->∃l:List (aw×qX),a=strValues l/\l.map (·.1)=c.map sV:=by
 induction b with
 |nil=>
  intro c a e r
  induction a using aW with
  |nil=>cases e;exact aD [] J J
  |cons _ _=>exact r.elim
 |cons x b d=>
  intro c a e r
  induction a using aW with
  |nil=>exact r.elim
  |cons v a=>induction x using V.casesOn with
   |ah y=>
    refine aB (fX.mp<|e) λg e h=>aB (d e r.2) λl i h2=>?_;obtain⟨⟨t,e1⟩,_⟩:=r.1;rw[<-h,e1,i];exact aD ((sV y,t)::l) J (bJ (sV y::·) h2)
   |_=>exact ba e
theorem Lf(a:List Nat):∀b:List (List Nat),Str.join (sV a) (b.map sV)=sV (dJ a b)
 |[]=>rfl
 |[x]=>rfl
 |x::y::r=>by
  show sV x++sV a++Str.join (sV a) ((y::r).map sV)=_;rw[Lf a (y::r),zw,zw];rfl
theorem Lg(a:List Nat):∀b:List (List Nat),(dJ a b).length<=(b.map (·.length)).sum+b.length*a.length
 |[]=>dG _
 |[x]=>d7 _ _
 |x::y::r=>by
  have c:=Lg a<|y::r;show(x++a++dJ a (y::r)).length<=(x.length+((y::r).map (·.length)).sum)+((y::r).length+1)*a.length;rw[bx,bx,adc,EW];exact L1 c
theorem ZS(r:aA p.z v pv)(hb:o7 v .jW p.H=I):ux p v pv .jW:=by
 refine dn λh=>?_
 induction v using V.casesOn with
 |ah c=>
  obtain⟨⟨t,e⟩,s⟩:=r.ah;rw[e] at h;refine h ⟨"str.join",λQ E G q=>?_,λq j w le rs Q E T=>?_⟩
  ·rw[show eb .jW=("join":aw) from by decide+kernel];exact FC (typeIs_str _ _ _) PySem.F.plainAttrs_str PySem.F.slot_str_join PySem.F.type_str_join (λb e=>by cases e) q
  ·refine wY (k:=λj=>hS (.ah c) .jW j q.H) T rs J (λu _ _=>by cases u<;>rfl) λu H _ e y T=>?_;rw[e];refine dn λh=>?_
   induction u using V.casesOn with
   |ae i=>
    refine D0 T λm z T=>?_
    cases d:rE m with
    |none=>rw[d] at T;exact T.ne J
    |some g=>
     rw[d] at T;refine T.q λo T=>h ?_;obtain⟨a,K,n,A,B,r,hs,-⟩:=q.st.cW z;rw[jO y A];refine aB (ZR m d r) λl F h2=>SC.join (show q.s.heap.IsList a (strValues l).toArray by rw[<-F,Array.toArray_toList];exact gp B) h2 ?_ λL k=>?_
     ·unfold JoinOk;rw[StrLaws.joinTotal,show((g.map sV).map (·.length)).sum=(g.map (·.length)).sum by rw[rc,show((λx:aw=>x.length)∘sV)=λx=>x.length from funext me],c3,me];unfold Builtin.Str.tooLong;rw[iy];exact Ae .. ▸dO (rb.mpr<|aE (by simp+arith only) o)
     ·rw[show Txt.join (sV c) (g.map sV)=sV (dJ c g) from(StrLaws.glued_eq_join _ _).trans (Lf c g)];exact T.j (pT<|aE (Lg c g) (by rw[iy];exact o)) _
   |_=>exact T.ne J
 |_=>exact bc hb
theorem Lh{i j:Type}{g:Zs->i->j->Prop}{k:List V->R i}{d:List V}{b:List ak}{Q:j->ay->Prop}{E:ak->ay->Prop}{a:Prop}(T:Tk g p (k d) Q E)(rs:aR p.z d b)(l:k []=.j)(m:∀u,k [u]=.j)(o:∀u v w r,k (u::v::w::r)=.j)
  (q:∀u v h pv,b=[h,pv]->aA p.z u h->aA p.z v pv->Tk g p (k [u,v]) Q E->a):a:=by
 refine dn λc=>?_
 induction d using aW with
 |nil=>exact T.ne l
 |cons u d=>induction d using aW with
  |nil=>exact T.ne<|m u
  |cons v d=>induction d using aW with
   |cons w r=>exact T.ne<|o u v w r
   |nil=>induction b using aW with
    |nil=>exact rs
    |cons h b=>exact aB (D1 rs.2) λpv e s=>c<|q u v h pv (bJ _ e) rs.1 s T
theorem ZT{o:Option V}{r:Option ak}(h:pU z o r)(hd:aA z d a):aA z (o.getD d) (r.getD a):=by
 induction o using gD with
 |none=>rw[h];exact hd
 |some x=>exact aB h λv e r=>e▸r
theorem ZU(r:aA p.z v pv)(hb:o7 v .cN p.H=I):ux p v pv .cN:=by
 refine dn λm=>?_
 induction v using V.casesOn with
 |dct x=>
  refine ej r λA B n e s h hr=>?_;have u:=p.st.i A s;rw[e] at m;refine m ⟨"dict.get",λQ E G q=>?_,λq w y le rs Q E T=>?_⟩
  ·rw[show eb .cN=("get":aw) from by decide+kernel];exact FC (aD _ u J) PySem.F.plainAttrs_dict NZ PySem.F.type_dict_get (λb e=>by cases e;exact aD _ u J) q
  ·refine Lh (k:=λw=>hS (.dct x) .cN w q.H) T rs J (λ_=>J) (λ_ _ _ _=>J) λk d H g e z hd T=>?_;rw[e];refine Tk.op T λa j T=>aB (fX.mp j) λo l e=>?_;rw[<-e] at T;have rd:∀{F:Option ak},pU q.z o F->∀tk,Q (F.getD g) {q.s with toks:=tk}:=λc tk=>T.j (ZT c hd) tk
   rcases DT (q.st.i A<|le.dZ s) h.1 (kb.au le _ _ hr) z l with⟨i,t,F,e,hm,c⟩|⟨i,t,F,e,hm,c⟩<;>rw[e]
   ·exact aet NZ hm.typeIs adN (adO _ _ _) (aeu (PySem.intKind cx.dh cx.w) _ (AK cx.dh cx.w i t) h.2 g)<|aD F hm<|rd c _
   ·exact aet NZ hm.typeIs adN (adO _ _ _) (aeu (adA cx.dh cx.w) _ (AL cx.dh cx.w i t) h.2 g)<|aD F hm<|rd c _
 |_=>exact bc hb
theorem ZV(r:aA p.z v pv)(hb:o7 v a p.H=I):ux p v pv a:=by
 by_cases h:a=.q∨a=.hO∨a=.jW∨a=.cN
 ·rcases h with e|e|e|e<;>rw[e] at hb⊢
  ·exact ZN r hb
  ·exact ZQ r hb
  ·exact ZS r hb
  ·exact ZU r hb
 ·exfalso
  induction v using V.casesOn with
  |ah _=>exact h<|.inr<|.inr<|.inl<|D hb
  |dct _=>exact h<|.inr<|.inr<|.inr<|D hb
  |ae _=>exact(jr.mp (ec.mp hb).1).elim (λq=>h<|.inl<|D q) λq=>h<|.inr<|.inl<|D q
  |_=>exact bc hb
end
section
variable{f:Fx}{p:Pt f}
theorem Pt.j(p:Pt f)(g:aA p.z v pv)(h:hR v p.H=O c):∃a b n,pv=.ref a/\(p.s.heap.get? a=O (cZ b n)∨p.s.heap.get? a=O (DH b n))/\aR p.z c b.toList/\b.size<=eH:=by
 refine dn λj=>?_
 induction v using V.casesOn with
 |u k=>exact ej g λa b n e d hs hr=>j<|f8 a b n e (.inr<|p.st.i a d) (cS h▸hr) hs
 |af k=>exact ej g λa b n e d hs hr=>j<|f8 a b n e (.inl<|p.st.i a d) (cS h▸hr) hs
 |ae i=>
  have h:(match p.H[i]? with|some (.af c)=>O c|_=>U)=O c:=h
  rcases e:p.H[i]? with _|⟨k|_|_⟩<;>rw[e] at h
  ·exact ba h
  ·obtain⟨a,b,n,d,l,r,hs,-⟩:=p.st.cW e;exact j<|f8 a b n (jO g d) (.inl l) (cS h▸r) hs
  ·exact ba h
  ·exact ba h
 |_=>exact ba h
theorem ZW(g:aR p.z as b):Go aA p (ga .bK as p.H) (kq (.builtin "len") b):=λQ E T=>by
 refine wY (k:=λas=>ga .bK as p.H) T g J (λu v r=>by cases u<;>rfl) λv q _ e j T=>?_;rw[e];refine dn λh=>?_;have go:Tk aA p (cG ((hR v p.H).map λd=>V.aa d.length) p.H) Q E->False:=λT=>Tk.op T λu k T=>aB (fX.mp k) λd l e=>h (ej (p.j j l) λa s n m c hr hs=>by
  rw[m];rw[<-e,hr.j] at T
  rcases c with c|c
  ·exact len_list (gp c) (zv hs)<|T.j jP _
  ·exact len_tuple ⟨_,c,J,n,J⟩ (zv hs)<|T.j jP _)
 induction v using V.casesOn with
 |ah x=>
  obtain⟨⟨t,e⟩,o⟩:=j.ah;rw[e] at h;exact h<|P.len_str (by rw[me];exact EZ.mpr<|zv o) (by rw[me];exact T.j jP _)
 |u d=>exact go T
 |af d=>exact go T
 |ae i=>exact go T
 |_=>exact T.ne J
theorem ZX(h:f.g.A.handled=U)(d:aR p.z as c):Go aA p (ga .i as p.H) (kq (.builtin "max") c):=λQ E T=>by
 refine Lh (k:=λas=>ga .i as p.H) T d J (λu=>by cases u<;>rfl) (λu v w r=>by cases u<;>first|rfl|(cases v<;>rfl)) λu v m o e i j T=>?_;rw[e];refine dn λg=>?_
 induction u using V.casesOn with
 |aa a=>induction v using V.casesOn with
  |aa b=>
   obtain⟨t,e1⟩:=i;obtain⟨s,e2⟩:=j;rw[e1,e2] at g;refine g<|max_two_ints h λx tk k=>T.ok (p.i (p.st.y [] k (λq l=>ax l eU) xB) .refl) _ _ J Zs.le.refl ?_
   by_cases q:a<b
   ·rw[aN q,aN (q)];exact jP
   ·rw[a9 q,a9 (q)];exact jP
  |_=>exact T.ne J
 |_=>exact T.ne J
theorem ZY(c:aR p.z as a):Go aA p (ga .aa as p.H) (kq (.type "int") a):=λQ E T=>by
 refine wY (k:=λas=>ga .aa as p.H) T c J (λu v r=>by cases u<;>rfl) λv h _ e g T=>?_;rw[e];refine dn λb=>?_
 induction v using V.casesOn with
 |ah x=>
  obtain⟨⟨t,e⟩,-⟩:=g.ah;rw[e] at b;have T:Tk aA p (if x=[48] then .ok (.aa 0) p.H else if x=[52,50] then .ok (.aa 42) p.H else .j) Q E:=T
  by_cases d:x=[48]
  ·rw[aN d] at T;rw[d] at b;exact b<|adP (by decide+kernel) (by decide+kernel)<|T.j jP _
  ·rw[a9 d] at T;exact T.q λh2 T=>by
    rw[h2] at b;exact b<|adP (by decide+kernel) (by decide+kernel)<|T.j jP _
 |_=>exact T.ne J
theorem ZZ(b:List V):∀{is:List Int} {a:List ak},nh b=O is->aR z b a->IntsAre a is:=by
 induction b with
 |nil=>
  intro is a e r
  induction a using aW with
  |nil=>cases e;exact .nil
  |cons _ _=>exact r.elim
 |cons x b c=>
  intro is a e r
  induction a using aW with
  |nil=>exact r.elim
  |cons v a=>induction x using V.casesOn with
   |aa i=>
    refine aB (fX.mp<|e) λg d e=>?_;obtain⟨t,e1⟩:=r.1;rw[<-e,e1];exact .cons _ _<|c d r.2
   |_=>exact ba e
theorem Z0(m:f.g.A.handled=U)(j:aR p.z as c):Go aA p (ga .j as p.H) (kq (.builtin "sum") c):=λQ E T=>by
 refine wY (k:=λas=>ga .j as p.H) T j J (λu v r=>by cases u<;>rfl) λv z _ e o T=>?_;rw[e];refine dn λq=>?_
 induction v using V.casesOn with
 |ae i=>
  refine Tk.op T λu s T=>aB (fX.mp s) λis k e=>aB (oq.mp k) λd b k=>q ?_;rw[<-e] at T;have b:(match p.H[i]? with|some (.af d)=>O d|_=>U)=O d:=b
  rcases e:p.H[i]? with _|⟨A|_|_⟩<;>rw[e] at b
  ·exact ba b
  ·rw[cS b] at e;obtain⟨a,B,n,t,w,r,hs,-⟩:=p.st.cW e;rw[jO o t];obtain⟨g,l,S⟩:=id p.st;exact PyProof.Rows.LSm.sum_ints S.fr S.nw m (gp w) (ZZ d k r) λF tk G x y=>T.ok (p.i ⟨g,l,S.DJ x y (λH h=>ax h eU) xB⟩ Zs.le.i) _ _ J Zs.le.i jP
  ·exact ba b
  ·exact ba b
 |_=>exact T.ne J
end
structure Wt(g:Gx) where
 z:Zs
 H:Hp
 s:ay
 l:Lc
 m:aw->Option ak
 cs:aV
 cm:aw->Option ak
 st:St g.c z H m cs s
 lo:g9 (dy g.ns) g.c g.c.aS z m cs l
 fx:sw (dy g.ns) g.c l cm cs
section
variable{g:Gx}
noncomputable def Wt.f(w:Wt g):Fx:=⟨g,g.c.aS,w.m,w.cs,w.l,g.ok.jM,g.ok.hV,g.ok.aq,g.ok.dZ⟩
noncomputable def Wt.p(w:Wt g):Pt w.f:=⟨w.z,w.H,w.s,w.st,w.lo⟩
noncomputable def Wt.at(w:Wt g)(q:Pt w.f):Wt g:=⟨q.z,q.H,q.s,w.l,w.m,w.cs,w.cm,q.st,q.lo,w.fx⟩
structure Ts(w:Wt g)(r:R (Fl×Lc))(Q:ku->ay->Prop)(E:ak->ay->Prop):Prop where
 ne:r≠ .j
 ok:∀(v:Wt g) fl pfl,r=.ok (fl,v.l) v.H->w.z.le v.z->sx v.z fl pfl->Q pfl v.s
 ex:∀x s z' H',r=.q H'->w.z.le z'->((∃m cs,Xs g.c z' H' m cs x s)∨(g.hd=false/\Ms g.c z' H' x s))->E x s
 kD:PassesOwn MM g.A g.c.aS E
noncomputable def di(g:Gx)(st:S)(a:cA):Prop:=∀(w:Wt g) Q E,Ts w (f0 g.ag st w.l w.H) Q E->bl MM g.A (exec a g.c.aS) Q E w.s
noncomputable def kg(g:Gx)(body:List S)(a:List cA):Prop:=∀(w:Wt g) Q E,Ts w (aZ g.ag body w.l w.H) Q E->bl MM g.A (execs a g.c.aS) Q E w.s
variable{w:Wt g}{Q:ku->ay->Prop}{j:ak->ay->Prop}
theorem Ts.to{v:Wt g}(T:Ts w r Q j)(le:w.z.le v.z):Ts v r Q j:=
 ⟨T.ne,λq a b e c=>T.ok q a b e<|le.q c,λx s d f e c=>T.ex x s d f e<|le.q c,T.kD⟩
theorem Ts.nx{f i:Type}{d:Zs->f->i->Prop}{r:R f}{t:Sem i}{r':f->Hp->R (Fl×Lc)}{c:i->ay->Prop}(T:Ts w (r.i r') Q j)(h:Go d w.p r t)(k:∀(q:Pt w.f) a b,w.z.le q.z->d q.z a b->Ts (w.at q) (r' a q.H) Q j->c b q.s):bl MM g.A t c j w.s:=
 h c j ⟨λe=>T.ne (by rw[e];rfl),λq a b e le rl=>k q a b le rl (by rw[e] at T;exact T.to le),λx s l m e le X=>T.ex x s l m (by rw[e];rfl) le<|.inl<|gH w.m w.cs X⟩
theorem Ts.i(T:Ts w (.ok (fl,w.l) w.H) Q j)(h:sx w.z fl a):Q a w.s:=T.ok w fl a J .refl h
theorem Z1:di g .Bb (.Pass a):=λw Q j T=>wpAny_Pass<|T.i bk
theorem Z2:di g .u (.Break a):=λw Q j T=>wpAny_Break<|T.i bk
theorem Z3:di g .q (.Continue a):=λw Q j T=>wpAny_Continue<|T.i bk
theorem Z4:di g (.am<|.c .none) (.Return U a):=λw Q j T=>wpAny_Return_none<|Ts.i T (wU:aA w.z .none .none)
theorem Z5{e:E}{b:aX}{a:dq}(c:∀w:Wt g,bj w.f e b):di g (.am e) (.Return (O b) a):=
 λw Q j T=>wpAny_Return_some<|T.nx (c w w.p) λq v f le d T=>T.i d
theorem Z6{e:E}{b:aX}{a:dq}(c:FD g.c.aS=C)(hs:oy b U a.line g.c.aS=pure C)(d:∀w:Wt g,bj w.f e b):di g (.ex e) (.Expr b a):=
 λw Q j T=>aev (T.nx (d w w.p) λq v f le h T=>T.i bk) c hs
theorem Z7{r:R V}{k:Bool->Hp->R (Fl×Lc)}(T:Ts w (r.i λx H=>match Mine.dC x H with|some c=>k c H|.none=>.j) Q j):Ts w ((r.i eF).i k) Q j:=by
 cases r with
 |ok x H=>
  have e:(match Mine.dC x H with|some c=>k c H|.none=>.j)=(eF x H).i k:=by unfold eF;cases Mine.dC x H<;>rfl
  exact e▸T
 |_=>exact T
theorem Z8:kg g [] []:=λw Q j T=>s6<|T.i bk
theorem Ts.ez{r:R<|Fl×Lc}{k:Fl×Lc->Hp->R (Fl×Lc)}{a:ku->ay->Prop}(T:Ts w (r.i k) Q j)(h:∀(v:Wt g) fl b,w.z.le v.z->sx v.z fl b->Ts v (k (fl,v.l) v.H) Q j->a b v.s):Ts w r a j:=
 ⟨λe=>T.ne (by rw[e];rfl),λv fl b e le fr=>h v fl b le fr (by rw[e] at T;exact T.to le),λx s c d e=>T.ex x s c d (by rw[e];rfl),T.kD⟩
@[elab_as_elim] theorem zF{P:Fl->ku->Prop}(h:sx z fl a)(k1:P .aU .next)(c:P .u .brk)(d:P .q .cont)(e:∀v pv,aA z v pv->P (.am v) (.ret pv)):P fl a:=by
 refine dn λb=>?_
 cases fl<;>cases a<;>first|exact h|exact b k1|exact b c|exact b d|exact b<|e _ _ h
theorem Z9{st:S}(h:di g st a)(hr:kg g r b):kg g (st::r) (a::b):=λw Q j T=>
 AM (h w _ j<|Ts.ez T λv fl c le fr T=>zF fr (λT=>hr v Q j T) (λT=>T.i bk) (λT=>T.i bk) (λ_ _ r T=>T.i r) T)
theorem Li{t b:Bool}{r r':R<|Fl×Lc}{a c:Prop}(e:t=b)(T:Ts w (if t then r else r') Q j)(k:Ts w r Q j->a)(d:Ts w r' Q j->c):if b then a else c:=by
 cases e;cases t
 ·exact d T
 ·exact k T
theorem aaa{e:E}{a d:List S}{f:aX}{h i:List cA}{c:dq}(k:∀w:Wt g,iN w.f e f)(l:kg g a h)(hd:kg g d i):di g (.bQ e a d) (.If f h i c):=
 λw Q j T=>wpAny_If<|Ts.nx (Z7 T) (k w w.p) λq t b le e T=>Li e T (l (w.at q) Q j)<|hd (w.at q) Q j
end
theorem D2{cm:aw->Option ak}{cs:List<|aw×aH}(Y:s0 cm cs cells):cs.lookup x=O a->∃o,(a,o)∈cells/\o.data=.cell (cm x):=by
 induction Y with
 |nil=>exact ba
 | @cons n c o cs cells hd Y b=>
  intro h;rw[ot] at h
  cases hb:x==n with
  |true=>rw[hb] at h;rw[beq_iff_eq.mp hb,<-cS h];exact aD o (.head _) hd
  |false=>rw[hb] at h;exact aB (b h) λd e h2=>aD d (.tail _ e) h2
noncomputable def rp(a:aH)(b:PO)(q:aH×PO):aH×PO:=if q.1=a then(a,b) else q
theorem aab(q:aH×PO):(rp a b q).1=q.1:=by
 unfold rp;split
 ·rename_i h;exact h.symm
 ·rfl
theorem aac(cs:aV):(cs.map<|rp a b).map (·.1)=cs.map (·.1):=by
 rw[rc];exact List.map_congr_left λq d=>aab q
theorem aad{cm:aw->Option ak}{d:PO}(j:d.data=.cell (O v)){cs:List<|aw×aH}{cells:aV}(Y:s0 cm cs cells):(∀n b,(n,b)∈cs->(n=x↔b=a))->
  s0 (λy=>if y=x then O v else cm y) cs (cells.map<|rp a d):=by
 induction Y with
 |nil=>exactλh=>.nil
 | @cons n b o cs cells hd Y f=>
  intro h;have f:=f λn b hm=>h n b<|.tail _ hm;have hb:=h n b<|.head _;rw[iP]
  by_cases i:n=x
  ·have e:=hb.mp i;rw[show rp a d (b,o)=(b,d) from(aN e).trans (by rw[e])];exact .cons (by rw[j,aN i]) f
  ·rw[show rp a d (b,o)=(b,o) from a9 λe=>i (hb.mpr e)];exact .cons (by rw[hd,a9 i]) f
theorem Lj:∀{cs:List<|aw×aH},cs.lookup x=O a->(x,a)∈cs:=by
 intro cs
 induction cs with
 |nil=>
  intro h;exact ba h
 |cons b cs d=>
  obtain⟨n,c⟩:=b;intro h;rw[ot] at h
  cases hb:x==n with
  |true=>rw[hb] at h;cases h;rw[beq_iff_eq.mp hb];exact .head _
  |false=>rw[hb] at h;exact .tail _<|d h
theorem D3{d e:Type}{l:List<|d×e}(h:(l.map (·.1)).Nodup){x:d}{a b:e}(h1:(x,a)∈l)(h2:(x,b)∈l):a=b:=by
 induction l with
 |nil=>cases h1
 |cons q l f=>
  simp only[iP,iQ] at h
  rcases d2.mp h1 with e1|h1<;>rcases d2.mp h2 with e2|h2
  ·rw[<-e1] at e2;cases e2;rfl
  ·exact ax (eh.mpr<|aD _ h2<|by rw[<-e1]) h.1
  ·exact ax (eh.mpr<|aD _ h1<|by rw[<-e2]) h.1
  ·exact f h.2 h1 h2
theorem aae{b d:Type}{l:List<|b×d}(h:(l.map (·.2)).Nodup){x y:b}{a:d}(h1:(x,a)∈l)(h2:(y,a)∈l):x=y:=by
 induction l with
 |nil=>cases h1
 |cons q l e=>
  simp only[iP,iQ] at h
  rcases d2.mp h1 with e1|h1<;>rcases d2.mp h2 with e2|h2
  ·rw[<-e1] at e2;cases e2;rfl
  ·exact ax (eh.mpr<|aD _ h2<|by rw[<-e1]) h.1
  ·exact ax (eh.mpr<|aD _ h1<|by rw[<-e2]) h.1
  ·exact e h.2 h1 h2
section
variable{A:dN}
variable{c:Fm}{z:Zs}{H:Hp}{m:aw->Option ak}{cs:aV}{s:ay}
theorem aaf{x:aw}{v:ak}{Q:Unit->ay->Prop}{E:ak->ay->Prop}(S:St c z H m cs s)(b:c.aS.locals=c.L)(f:c.aS.scope.kind=.function)(i:c.aS.kindOf x=O .local)
  (h:∀d,St c z H (λy=>if y=x then O v else m y) cs d->Q () d):bl (du cx.dh cx.w) A (Ol c.aS x v) Q E s:=by
 obtain⟨g,a,S⟩:=S;refine aew i (by rw[b];exact S.fr.ns) (λj e hs=>?_) (by rw[f];rfl);rw[b] at e hs;refine h _ ⟨g,a,S.ir,S.fr.set e hs,S.nw.set hs,S.jl,S.dv,S.fK,S.jN,S.nd,S.cW,?_⟩;rw[S.fA]
theorem g9.i{c:Fm}{nm:Nat->aw}{l:Lc}{i:Nat}(f:nm=dy ns)(hd:∀j,j<l.length->nm j=nm i->j=i)(k:c.aS.kindOf (nm i)=O .local)(o:c.aS.locals=c.L)
  (x:g9 nm c c.aS z m cs l)(r:aA z v pv):g9 nm c c.aS z (λy=>if y=nm i then O pv else m y) cs (l.set i<|O v):=by
 intro j u e
 by_cases h:j=i
 ·subst h;have d:j<l.length:=by
   have:=(fM.mp e).1;simpa using this
  rw[oi d] at e;obtain rfl:=cS<|cS e;refine aD pv r ?_;unfold lZ;rw[k];exact .inl ⟨o,by simp⟩
 ·rw[mS (eG h)] at e;refine aB (x j u e) λq a b=>?_;have d:=(fM.mp e).1;exact aD q a<|b.u (λb=>b.imp_left λb=>⟨b.1,(a9 λe=>h<|hd j d e).trans b.2⟩) id
theorem bG.aag{g:cz}(S:bG c z H m cs s g f){t:cz}{o i:PO}(hm:(a,o)∈cs)(hs:sU a s.heap t)(hd:t.get? a=O i):
  bG c z H m (cs.map<|rp a i) {s with heap:=t} g f:=by
 have j:(a,o)∈bP c z cs f:=dj _<|fh _ hm;have d:=S.nw _ j;have u:∀q∈bP c z (cs.map<|rp a i) f,q=(a,i)∨(q∈bP c z cs f/\q.1≠a):=by
  intro q hq;have k:∀r:aV,(∀q∈r,q∈bP c z cs f)->(∀q∈r,q∉cs)->q∈r->q=(a,i)∨(q∈bP c z cs f/\q.1≠a):=by
   intro r p h2 hq;refine .inr ⟨p q hq,λe=>?_⟩;have:=D3 S.nd (by rw[<-e];exact p q hq) j;exact h2 q hq (by rw[show q=(a,o) from by rw[<-e,<-this]];exact hm)
  have l:∀q,q∈c.P∨q∈z.Z++f.flatten->q∉cs:=by
   intro q hq hc;have nd:=S.nd;simp only[bP,dz] at nd
   rcases hq with hq|hq
   ·exact(mY.mp nd).2.2 q.1 (om hq) q.1 (fh _<|om hc) J
   ·have:=(mY.mp (mY.mp nd).2.1).2.2 q.1 (om hc) q.1 (by rw[<-dz];exact om hq);exact this J
  rcases eT.mp hq with h|h
  ·exact k c.P (λq h=>fh _ h) (λq h=>l q<|.inl h) h
  ·rcases eT.mp h with h|h
   ·refine aB (eh.mp h) ?_;rintro r hr rfl;unfold rp;split
    ·exact .inl J
    ·rename_i e
     exact .inr ⟨dj _<|fh _ hr,e⟩
   ·exact k _ (λq h=>dj _<|dj _ h) (λq h=>l q<|.inr h) h
 refine⟨S.ir,⟨S.fr.ns.sameBut hs<|eG d.2.1,λb o e=>(hs.2 b λq=>?_).trans<|S.fr.keep b o e,S.fr.above⟩,λq hq=>?_,S.jl,S.dv,S.fK,S.jN,?_,S.cW,by rw[S.fA]⟩
 ·rw[q,d.2.2] at e;exact ba e
 ·rcases u q hq with rfl|⟨p,h2⟩
  ·exact⟨hd,d.2⟩
  ·have N:=S.nw q p;exact⟨(hs.2 _ h2).trans N.1,N.2⟩
 ·have e:(bP c z (cs.map<|rp a i) f).map (·.1)=(bP c z cs f).map (·.1):=by
   simp only[bP,dz,aac]
  rw[e];exact S.nd
theorem wZ{x:aw}{i:Nat}{l:Lc}{v:V}{pv:ak}{ns:List aw}{Q:Unit->ay->Prop}{E:ak->ay->Prop}(ok:Fm.Ok c)(S:jQ (dy ns) c z l H s)(r:aA z v pv)
  (hx:dy ns i=x)(K:x≠⟨#[]⟩)(hk:c.aS.kindOf x=O .local∨c.aS.kindOf x=O .cell)
  (h:∀G,jQ (dy ns) c z (l.set i<|O v) H G->Q () G):bl (du cx.dh cx.w) A (Ol c.aS x pv) Q E s:=by
 obtain⟨m,cs,cm,S,Z,Fx⟩:=S;subst hx;have f:=Fx.bK i K
 rcases hk with hk|hk
 ·refine aaf S ok.jk ok.aq hk λG L=>h G ⟨_,cs,cm,L,Z.i rfl (λj d e=>Fx.wX j i d f e) hk ok.jk r,Fx.mQ,λi j f d=>Fx.wX i j (by simpa using f) (by simpa using d),Fx.nn,λi M=>by simpa using Fx.bK i M,Fx.dZ⟩
 ·--a cell
  have hsome:∃a o,c.aS.cells.lookup (dy ns i)=some a/\(a,o)∈cs/\o.data=.cell (cm<|dy ns i):=by
   obtain⟨a,p⟩:=Aw.mp<|Fx.dZ _ hk;exact aB (D2 Fx.mQ p) λo N h2=>cK a o p N h2
  refine cU hsome λa o p P hd=>?_;obtain⟨g,R,S⟩:=S;have hr:=(S.nw (a,o)<|dj _<|fh _ P).1;refine wpAny_storeName_cell ok.aq hk p (aD o hr hd) λh' hc hs=>aB hc λo' T t=>?_;have L:=S.aag P hs T;have W:(c.aS.cells.map (·.2)).Nodup:=by
   rw[<-DE Fx.mQ];have nd:=S.nd;simp only[bP,dz] at nd;exact(mY.mp (mY.mp nd).2.1).1
  have y:∀n b,(n,b)∈c.aS.cells->(n=dy ns i↔b=a):=λn b hm=>by
   have B:=Lj p;exact⟨λe=>by subst e;exact D3 Fx.nn hm B,λe=>by subst e;exact aae W hm B⟩
  refine h _ ⟨m,_,_,⟨g,R,L⟩,?_,aad t Fx.mQ y,λi j f d=>Fx.wX i j (by simpa using f) (by simpa using d),Fx.nn,λi M=>by simpa using Fx.bK i M,Fx.dZ⟩;intro j u e
  by_cases d:j=i
  ·subst d;rw[oi f] at e;obtain rfl:=cS<|cS e;refine aD pv r ?_;unfold lZ;rw[hk];refine cK a o' p (dj _<|eh.mpr<|aD _ P (by unfold rp;simp)) t
  ·rw[mS (eG d)] at e;refine aB (Z j u e) λq N h2=>?_;have X:=(fM.mp e).1;refine aD q N ?_;have keep:∀k F,c.aS.cells.lookup (dy ns j)=O k->(k,F)∈c.P++cs->(k,F)∈c.P++cs.map (rp a o'):=λk F hl hm=>by
    have Y:k≠a:=λe=>d<|Fx.wX j i X f<|(y _ _<|Lj hl).mpr e
    rcases eT.mp hm with hm|hm
    ·exact fh _ hm
    ·exact dj _<|eh.mpr<|aD _ hm (by unfold rp;rw[a9 Y])
   exact h2.u id λh=>cU h λk F b1 b2 b3=>cK k F b1 (keep _ _ b1 b2) b3
end
noncomputable def jm(sc:c4)(ns:List aw)(i:Nat)(x:aw):Bool:=(dy ns i==x)&& !(x==⟨#[]⟩)&&(sc.names.lookup x==O .local||sc.names.lookup x==O .cell)
noncomputable def w0:f7->Bool
 |.i=>I
 |.ez=>I
 |_=>C
theorem aah(h:w0 op=I):op=.i∨op=.ez:=by cases op<;>first|exact .inl rfl|exact .inr rfl|exact bc h
theorem aai(h:iY .i x y H≠ .j):(∃i j,x=.aa i/\y=.aa j)∨∃i j,x=.ah i/\y=.ah j:=by
 refine dn λa=>?_
 induction x using V.casesOn with
 |aa i=>induction y using V.casesOn with
  |aa j=>exact a<|.inl ⟨_,_,J,J⟩
  |_=>exact h J
 |ah i=>induction y using V.casesOn with
  |ah j=>exact a<|.inr ⟨_,_,J,J⟩
  |_=>exact h J
 |_=>exact h J
theorem aaj(h:iY .ez x y H≠ .j):∃i j,x=.aa i/\y=.aa j:=by
 refine dn λa=>?_
 induction x using V.casesOn with
 |aa i=>induction y using V.casesOn with
  |aa j=>exact a ⟨_,_,J,J⟩
  |_=>exact h J
 |ah i=>cases y with
  |_=>exact h J
 |_=>exact h J
section
variable{g:Gx}{w:Wt g}{Q:ku->ay->Prop}{B:ak->ay->Prop}
theorem Ts.st{H:Hp}{z:Zs}{s:ay}(T:Ts w (.ok (fl,l) H) Q B)(S:jQ (dy g.ns) g.c z l H s)(le:w.z.le z)(fr:sx z fl a):Q a s:=
 let⟨m,cs,cm,S,L,F⟩:=S;T.ok ⟨z,H,s,l,m,cs,cm,S,L,F⟩ fl a J le fr
theorem Wt.S(w:Wt g):jQ (dy g.ns) g.c w.z w.l w.H w.s:=⟨w.m,w.cs,w.cm,w.st,w.lo,w.fx⟩
theorem uy(h:jm g.c.aS.scope g.ns i x=I):dy g.ns i=x/\x≠⟨#[]⟩/\(g.c.aS.kindOf x=O .local∨g.c.aS.kindOf x=O .cell):=
 ⟨beq_iff_eq.mp<|bL<|bL h,beq_eq_false_iff_ne.mp<|kf<|bR<|bL h,(jr.mp<|bR h).imp beq_iff_eq.mp beq_iff_eq.mp⟩
theorem Ts.j{i:Nat}(T:Ts w (.ok (.aU,w.l.set i<|O v) w.H) Q B)(a:jm g.c.aS.scope g.ns i x=I)(r:aA w.z v pv):bl MM g.A (Ol g.c.aS x pv) (λ_=>Q .next) B w.s:=
 ly (uy a) λb h2 d=>wZ g.ok w.S r b h2 d λs S=>T.st S .refl bk
theorem D4{pos' a:dq}(hs:oy b (O<|.Name x pos') a.line g.c.aS=pure C)(d:∀w:Wt g,bj w.f e b)(f:jm g.c.aS.scope g.ns i x=I):di g (.i i e) (.Assign [.Name x pos'] b a):=
 λw Q B T=>aex (T.nx (d w w.p) λq v j le h T=>Ts.j T f h) hs
theorem Lk{p:Pt f}(d:∀cl,hD cx.K cl)(j:aA p.z x h)(k:aA p.z u i)(l:a∈iM):Go (λ_ _ _=>True) p (jY x a u p.H) (NQ h (eb a) i):=λQ E T=>
 mm (Y3 (E:=λ_ _=>False) d p.st j k l T.ne) (λb s ⟨o,e,S⟩=>T.ok ⟨p.z,o,s,S,p.lo⟩ () b e .refl bk) λ_ _ x=>x.elim
theorem aak{pos' d:dq}(b:∀cl,hD cx.K cl)(hs:oy h (O<|.Attribute f x pos') d.line g.c.aS=pure C)(i:∀w:Wt g,bj w.f e h)(j:∀w:Wt g,bj w.f o f)
  (k:x=eb a)(l:a∈iM):di g (.cP o a e) (.Assign [.Attribute f x pos'] h d):=
 λw Q B T=>Om (T.nx (i w w.p) λq v r le p T=>T.nx (j (w.at q) (w.at q).p) λq o f le ro T=>k▸T.nx (Lk b ro (aA.au le _ _ p) l) λq _ _ le _ T=>T.i bk) hs
theorem Ll{p:Pt f}(d:w0 op=I)(a:aA p.z x k)(b:aA p.z y l):Go aA p (iY op x y p.H) (inplaceOp (ma op) k l):=λQ E T=>by
 rcases aah d with e|e<;>rw[e] at T⊢
 ·rcases aai T.ne with⟨i,j,e1,e2⟩|⟨i,j,e1,e2⟩<;>rw[e1] at a T<;>rw[e2] at b T
  ·obtain⟨t,e1⟩:=a;obtain⟨u,e2⟩:=b;rw[e1,e2];exact PyProof.Rows.iadd_int<|T.j jP _
  ·obtain⟨⟨t,e1⟩,lx⟩:=a.ah;obtain⟨⟨u,e2⟩,o⟩:=b.ah;rw[e1,e2];have T:=T;exact T.q λhb T=>PyProof.Rows.iadd_str (λq tk=>by rw[zw];exact T.j (pT (by rw[iy];exact hb)) _) (by rw[me,me,<-bx,iy];exact hb)
 ·refine jV (aaj T.ne) λi j h=>?_;rw[h.1] at a T;rw[h.2] at b T;obtain⟨t,e1⟩:=a;obtain⟨u,e2⟩:=b;rw[e1,e2];exact PyProof.Rows.isub_int<|T.j jP _
theorem aal(b:w0 op=I)(k:∀w:Wt g,bj w.f e f)(h:jm g.c.aS.scope g.ns i x=I)(d:kN x=I):di g (.db i op e) (.AugAssign (.Name x pos') (ma op) f a):=λw Q B T=>by
 have T:Ts w (match w.l[i]? with|some (some x)=>(az g.ag e w.l w.H).i λy H=>(iY op x y H).i λv H=>.ok (.aU,w.l.set i<|O v) H|_=>.j) Q B:=T
 rcases j:w.l[i]? with _|_|v<;>rw[j] at T
 ·exact(T.ne rfl).elim
 ·exact(T.ne J).elim
 ·exact ly (uy h) λl h2 o=>aB (w.lo i v j) λp r V=>wpAny_AugAssign_Name<|Kv w.st (l▸V) g.ok.aq (o.imp id .inl) (beq_iff_eq.mp<|bR d)<|T.nx (k w w.p) λq u G le t T=>T.nx (Ll b (aA.au le _ _ r) t) λq v p le F T=>Ts.j T h F
theorem aam(b:∀cl,hD cx.K cl)(h:w0 op=I)(r:∀w:Wt g,bj w.f e l)(t:∀w:Wt g,bj w.f o d)
  (y:x=eb a)(p:a∈iM):di g (.oW o a op e) (.AugAssign (.Attribute d x pos') (ma op) l f):=by
 subst y;exactλw Q B T=>wpAny_AugAssign_AttributeAny<|T.nx (t w w.p) λq o d le ro T=>T.nx (K8 b ro p) λq u K i F T=>T.nx (r _ ((w.at _).at q).p) λq v G rY j T=>
  T.nx (Ll h (aA.au rY _ _ F) j) λq v G k j T=>T.nx (Lk b (aA.au ((i.q rY).q k) _ _ ro) j p) λq _ _ le _ T=>T.i bk
inductive Lm(g:Gx)(t:Lc->Hp->R Bool)(bd:Lc->Hp->R (Fl×Lc))(Q:ku->ay->Prop)(B:ak->ay->Prop)(n:Nat):ay->Prop
 |mk (w:Wt g) (T:Ts w (qm t bd n w.l w.H) Q B):Lm g t bd Q B n w.s
noncomputable def aan(t:Lc->Hp->R Bool)(bd:Lc->Hp->R (Fl×Lc))(n:Nat)(r:Fl×Lc)(H:Hp):R (Fl×Lc):=match r with
 |(.aU,l)=>qm t bd n l H
 |(.q,l)=>qm t bd n l H
 |(.u,l)=>.ok (.aU,l) H
 |(.am v,l)=>.ok (.am v,l) H
theorem aao{t:Lc->Hp->R Bool}{bd:Lc->Hp->R (Fl×Lc)}{a:Prop}(T:Ts w (qm t bd n w.l w.H) Q B)(k:∀m,n=m+1->Ts w ((t w.l w.H).i λc H=>if c then(bd w.l H).i (aan t bd m) else .ok (.aU,w.l) H) Q B->a):a:=by
 cases n with
 |zero=>exact(T.ne J).elim
 |succ m=>exact k m J T
theorem aap(ht:∀w:Wt g,iN w.f t f)(hb:kg g bd h):di g (.gJ t bd) (.While f h [] a):=by
 refineλw Q B T=>wpAny_While<|codeAny_whileLoop (Lm g (λl H=>(az g.ag t l H).i eF) (λl H=>aZ g.ag bd l H) Q B) (λn s d=>?_) hT ⟨w,T⟩
 induction d with
 |mk w T=>exact aao T λm en T=>On T.kD<|T.nx (ht w w.p) λq t b le e T=>Li e T (λT=>On T.kD<|hb (w.at q) _ B (T.ez λv fl i le fr T=>have lt:=en▸sM m
   zF fr (λT=>⟨m,lt,v,T⟩) (λT=>T.i bk) (λT=>⟨m,lt,v,T⟩) (λ_ _ r T=>T.i r) T)) λT=>s6<|T.i bk
end
noncomputable abbrev Fm.P'(c:Fm)(P:aV):Fm:={c with P:=P}
section
variable{A:dN}
variable{c:Fm}{z:Zs}{H:Hp}{m:aw->Option ak}{cs:aV}{s:ay}{g:cz}{u:List aV}
theorem bG.y{P P':aV}(S:bG (c.P' P) z H m cs s g u)(sub:∀q∈bP (c.P' P') b cs a,q∈bP (c.P' P) z cs u)(nd:((bP (c.P' P') b cs a).map (·.1)).Nodup)
  (L:kc b d a):bG (c.P' P') b d m cs s g a:=
 ⟨S.ir,S.fr,λq e=>S.nw q<|sub q e,S.jl,S.dv,S.fK,S.jN,nd,L,S.fA⟩
theorem sB{P P':aV}(S:bG (c.P' P) z H m cs s g u)(Fx:sw nm c l cm cs)(ok:c.aS.locals=c.L)(f:g9 nm (c.P' P) c.aS z m cs l):g9 nm (c.P' P') c.aS z m cs l:=by
 intro i v e;refine aB (f i v e) λb r V=>aD b r ?_;have cell:∀x,(∃a o,c.aS.cells.lookup x=O a/\(a,o)∈P++cs/\o.data=.cell (O b))->∃a o,c.aS.cells.lookup x=O a/\(a,o)∈P'++cs/\o.data=.cell (O b):=by
  rintro x ⟨a,o,d,h2,j⟩
  refine aB (D2 Fx.mQ d) λk h4 y=>?_;have p:(a,o)∈bP (c.P' P) z cs u:=by
   rcases eT.mp h2 with h|h
   ·exact fh _ h
   ·exact dj _<|fh _ h
  have q:(a,k)∈bP (c.P' P) z cs u:=dj _<|fh _ h4;have:=D3 S.nd p q;subst this;exact cK a o d (dj _ h4) j
 exact V.u (λV=>V.elim .inl λV=>ej V λo B n t _ _ _=>ax ok (S.nw (c.aS.locals,o)<|fh _ t).2.1)<|cell _
theorem bG.xb{j f:PO}{h:cz}(S:bG (c.P'<|(d,j)::r) z H m cs s g u)(hs:sU d s.heap h)(hd:h.get? d=O f):
  bG (c.P'<|(d,f)::r) z H m cs {s with heap:=h,toks:=tk} g u:=by
 have a:=S.nw (d,j)<|.head _;have nd:=S.nd;simp only[bP,kR,iP,iQ] at nd;refine⟨S.ir,⟨S.fr.ns.sameBut hs<|eG a.2.1,λb o e=>(hs.2 b λq=>?_).trans<|S.fr.keep b o e,S.fr.above⟩,λq k=>?_,S.jl,S.dv,S.fK,S.jN,?_,S.cW,by rw[S.fA]⟩
 ·rw[q,a.2.2] at e;exact ba e
 ·rcases d2.mp k with rfl|hq'
  ·exact⟨hd,a.2⟩
  ·have N:=S.nw q<|.tail _ hq';have i:q.1≠d:=λe=>nd.1 (by rw[<-e];exact om hq');exact⟨(hs.2 _ i).trans N.1,N.2⟩
 ·simpa only[bP,kR,iP,iQ] using nd
theorem bG.j{P:aV}{i:cz}(S:bG (c.P' P) z H m cs s g u)(j:∀b o,s.heap.get? b=O o->i.get? b=O o)(hd:i.get? d=O f)(k:s.heap.objs.size<=d):
  bG (c.P'<|(d,f)::P) z H m cs {s with heap:=i,toks:=tk} g u:=by
 refine⟨S.ir,S.fr.keeps j,λq a=>?_,S.jl,S.dv,S.fK,S.jN,?_,S.cW,by rw[S.fA]⟩
 ·refine News.i S.fr S.nw j (nw:=[(d,f)]) (λq a=>?_) q ?_
  ·rcases iv.mp a with rfl;exact⟨hd,k⟩
  ·rcases d2.mp a with h|h
   ·exact .inl (by rw[h];exact .head _)
   ·exact .inr h
 ·rw[iP,iQ];refine⟨λh=>?_,S.nd⟩;refine aB (eh.mp h) λq a e=>?_;have:=S.lt q a;rw[e] at this;exact ax this<|rb.mpr k
theorem bG.D5{P Q:aV}(S:bG (c.P'<|Q++P) z H m cs s g u):bG (c.P' P) z H m cs s g u:=by
 have e:bP (c.P'<|Q++P) z cs u=Q++bP (c.P' P) z cs u:=by simp[bP]
 refine S.y (λq a=>by rw[e];exact dj _ a) ?_ S.cW;have nd:=S.nd;rw[e,dz] at nd;exact(mY.mp nd).2.1
theorem Ln{b:Type}:∀(a:List<|List b) (i:Nat),(a.set i []).flatten.Sublist a.flatten:=by
 intro a
 induction a with
 |nil=>
  intro i;simp
 |cons l a d=>
  intro e
  induction e using fW with
  |zero=>
  simp
  |succ i=>
  simp only[ads,adr];exact(List.Sublist.refl l).append<|d i
theorem bG.rF{P:aV}(S:bG (c.P' P) z H m cs s g u){i:Nat}(h:H[i]? =O (.af d)):
  ∃a b n,z.ad[i]? =O a/\aR z d b.toList/\b.size<=eH/\bG (c.P'<|(a,cZ b n)::P) z (H.set i .i) m cs s g (u.set i []):=by
 refine cU (S.cW.cN h) λa o f hg L=>?_
 cases L with
 | @af _ _ b n r q=>
  have j:(bP (c.P'<|(a,cZ b n)::P) z cs<|u.set i []).Perm (bP (c.P' P) z cs u):=by
   have q:=wS u i _ hg;have e:bP (c.P' P) z cs u=(P++(cs++z.Z))++u.flatten:=by simp[bP]
   rw[e];refine adt ?_ (sR _ q.symm);have k:bP (c.P'<|(a,cZ b n)::P) z cs (u.set i [])=(a,cZ b n)::((P++(cs++z.Z))++(u.set i []).flatten):=by simp[bP]
   rw[k];exact NJ.symm
  exact f8 a b n f r q<|S.y (λq l=>j.mem_iff.mp l) ((j.map _).nodup_iff.mpr S.nd)<|S.cW.y f .i
theorem bG.rv{P:aV}{b:Array ak}{n i:Nat}{j:List V}(S:bG (c.P'<|(a,cZ b n)::P) z H m cs s g u)(k:z.ad[i]? =O a)(r:aR z j b.toList)(hs:b.size<=eH):
  ∃d,bG (c.P' P) z (H.set i<|.af j) m cs s g d:=by
 have l:i<u.length:=by rw[S.cW.qN];exact(fM.mp k).1
 refine⟨u.set i [(a,cZ b n)],S.y ?_ ?_ (S.cW.y k<|.af r hs)⟩
 ·intro q o;have f:=wS (u.set i [(a,cZ b n)]) i _<|oi l;rw[oo] at f
  rcases eT.mp o with h|h
  ·exact .tail _<|fh _ h
  ·rcases eT.mp h with h|h
   ·exact .tail _<|dj _<|fh _ h
   ·rcases eT.mp h with h|h
    ·exact .tail _<|dj _<|dj _<|fh _ h
    ·have h:=f.mem_iff.mp h
     rcases eT.mp h with h|h
     ·rw[iv.mp h];exact .head _
     ·exact .tail _<|dj _<|dj _<|dj _<|(Ln u i).subset h
 ·have f:=wS (u.set i [(a,cZ b n)]) i _<|oi l;rw[oo] at f;have p:(bP (c.P' P) z cs<|u.set i [(a,cZ b n)]).Perm ((a,cZ b n)::(P++(cs++(z.Z++(u.set i []).flatten)))):=by
   have e:bP (c.P' P) z cs (u.set i [(a,cZ b n)])=(P++(cs++z.Z))++(u.set i [(a,cZ b n)]).flatten:=by simp[bP]
   rw[e];refine(sR _ f).trans ?_;have e2:(a,cZ b n)::(P++(cs++(z.Z++(u.set i []).flatten)))=(a,cZ b n)::((P++(cs++z.Z))++(u.set i []).flatten):=by simp
   rw[e2];exact NJ
  refine(p.map _).nodup_iff.mpr<|List.Nodup.sublist ?_ S.nd;exact List.Sublist.map _<|((((Ln u i).append_left z.Z).append_left cs).append_left P).cons_cons _
end
theorem aaq:entryFor table "proto.unchain"=O Builtin.«proto.unchain»:=entryFor_of_fast<|by kernel_rfl
section
variable{prog:kv}{w:ed}
theorem aar{o:Type}{A:dN}{s:ay}{E:ak->ay->Prop}{Q:o->ay->Prop}{b:aH}{a:PO}{e:Array ak}(d:wW s.heap A)(f:s.heap.get? b=O a)(hd:a.data=.fields e)(hsz:2<e.size)
  (i:∀x,A.handled=O (.ref x)->x≠b)(h:∀j p,sU b s.heap j->j.get? b=O p->p.cls=a.cls->E (.ref b) {s with heap:=j}):bl (du prog w) A (raiseNew (.ref b):Sem o) Q E s:=by
 unfold raiseNew;refine bu<|wpAny_handled ?_
 rcases d with d|⟨x,r,t,d,q,k,h2⟩
 ·rw[d];exact bu<|dB<|aey<|h s.heap a (.refl ..) f rfl
 ·rw[d];have l:=i x d;have hb:(uP x !=uP b)=true:=by simp[l]
  dsimp only
  rw[aN hb];refine bu<|mn<|aez<|aeA aaq ?_;refine bu<|sZ q k h2 ?_;rw[aN (D J)];refine dB<|bu<|AE f hd hsz<|aey ?_;exact h _ _ (adM ..) (E1 _ f<|Obj.isFreed_of_fields<|Obj.data_mapFields hd _)<|Obj.cls_mapFields ..
theorem aas{A:dN}{E:ak->ay->Prop}{s:ay}{it l:aH}{i:Nat}{items:Array ak}{Q:Option ak->ay->Prop}(a:wW s.heap A)(d:s.heap.IsListIter it l i)(L:s.heap.IsList l items)(f:items[i]? =U)(k:A.handled≠O (.ref it))
  (M:∀h,Ax it s.heap h->Q U {s with heap:=h}):bl (du prog w) A (AN<|.ref it) Q E s:=by
 refine cF (id d) λo p hc hd=>?_;obtain⟨R,r,_,nl,t⟩:=L;unfold AN;refine bu<|wpAny_attempt<|wpAny_callSpecial?_slot d.typeIs aeB
  (wpAny_call_entry aeB d.typeIs entry_listiter_next ?_ (args_listiter_next _))
 show bl _ _ (field (.ref it) 0>>=_) _ _ s;refine bu<|sZ p hd (x:=.ref l) J ?_;rw[a9 (sP)];refine bu<|sZ p hd J ?_;refine bu<|wpAny_seqItems r t ?_;simp only[Int.toNat_natCast,f];refine bu<|wpAny_rule<|bu<|AE p hd (by simp) ?_;refine bu ?_;simp only[newExc,newTuple];refine bu<|uT ?_ (by size_fits);refine bu<|wpAny_of_eq (a:=uO) (by first|rfl|(simp only[ae6];rfl)) ?_;refine uT ?_ (by size_fits);have S:∀{h N:_},sU N ((((s.heap.update it (adQ (·.setIfInBounds 0 uO))).push {cls:=.type "tuple",dict:=U,data:=.seq ([]:List ak).toArray}))) h->True:=λT=>bk;refine aar (?_:wW _ A) (kt _ J) J (by show 2<(_++_:Array ak).size;rw[Array.size_append];exact iO (D J)<|d7 6 _) (λx f q=>?_) λh P hs h2 u=>?_
 ·rcases a with a|⟨x,B,F,a,e,j,h2⟩
  ·exact .inl a
  ·refine .inr<|f8 x B F a ?_ j h2;have v:x≠it:=λq=>k<|by rw[a,q]
   exact hJ _<|hJ _<|(xE _ _<|eG v).trans e
 ·rcases a with a|⟨V,B,F,a,e,j,h2⟩
  ·rw[show A.in1.handled=A.handled from rfl,a] at f;exact ba f
  ·rw[show A.in1.handled=A.handled from J,a] at f
   cases f
   have G:=mZ e;rw[q] at G;refine ax G<|rb.mpr ?_;rw[adR,Heap.size_after_update];exact et _
 ·refine bu<|wpAny_isInstance (aD P h2 u) isSubtype_stop ?_;refine dB<|M _ λb W hb y=>?_;have K:=hJ {cls:=.type "tuple",dict:=U,data:=.seq ([]:List ak).toArray} ((xE s.heap (adQ (·.setIfInBounds 0 uO))<|eG hb).trans y);refine(hs.2 b λq=>?_).trans<|hJ _ K;have:=mZ K;rw[q] at this;exact ax this<|NA _
end
structure uz(A:dN)(It:cz->aH->Nat->Prop)(n:Nat)(val:Nat->ak->Prop)(src:cz->Prop):Prop where
 xc:∀(s:ay) (a:aH) (k:Nat) (Q:Option ak->ay->Prop) (E:ak->ay->Prop),It s.heap a k->src s.heap->k<n->(∀x h' tk,val k x->It h' a (k+1)->sU a s.heap h'->Q (some x) {s with heap:=h',toks:=tk})->bl (du cx.dh cx.w) A (AN (.ref a)) Q E s
 d8:∀(s:ay) (a:aH) (Q:Option ak->ay->Prop) (E:ak->ay->Prop),wW s.heap A->A.handled≠some (.ref a)->It s.heap a n->src s.heap->(∀h',Ax a s.heap h'->Q none {s with heap:=h'})->bl (du cx.dh cx.w) A (AN (.ref a)) Q E s
 gk:∀(h:cz) (a:aH) (k:Nat),It h a k->∃o,h.get? a=some o
 fA:∀(h h':cz) (a:aH) (k:Nat),It h a k->h'.get? a=h.get? a->It h' a k
section
variable{A:dN}
variable{c:Fm}{z:Zs}{H:Hp}{m:aw->Option ak}{cs:aV}{s:ay}{g:cz}{u:List aV}
theorem D6{d:Array ak}:uz A (λh a k=>h.IsListIter a l k) d.size (λk x=>d[k]? =O x) (λh=>h.IsList l d) where
 xc:=λs a k Q E b hs i h=>aeC b hs (Ay i) λj p h2=>h _ j s.toks (Ay i) p h2
 d8:=λs a Q E q t b hs h=>aas q b hs (by simp) t h
 gk:=λh a k b=>let⟨o,f,_⟩:=b;⟨o,f⟩
 fA:=λh j a k b e=>let⟨o,f,r⟩:=b;(aD o (e.trans f) r)
theorem aat{d:Array ak}(p:A.handled=U):uz A (λh a k=>h.IsTupleIter a l k) d.size (λk x=>d[k]? =O x) (λh=>h.IsTuple l d) where
 xc:=λs a k Q E b hs i h=>wpAny_pyNext_tuple_item b hs (Ay i) λj q h2=>h _ j s.toks (Ay i) q h2
 d8:=λs a Q E t u b hs h=>wpAny_pyNext_tuple_end p b hs (by simp) h
 gk:=λh a k b=>let⟨o,f,_⟩:=b;⟨o,f⟩
 fA:=λh j a k b e=>let⟨o,f,r⟩:=b;(aD o (e.trans f) r)
theorem Lq{n:Nat}(f:A.handled=U):uz A (λh a k=>k<=n/\Oo h a k ((n:Int)-k) 1) n (λk x=>∃t,x=.int k t) (λi=>True) where
 xc:=λs a k Q E b hs j h=>by
  refine wpAny_pyNext_range_item b.2 (by lia) λd l h2=>h _ d _ ⟨_,J⟩ ⟨j,?_⟩ h2;have e:(n:Int)-((k+1:Nat):Int)=(n:Int)-(k:Int)-1:=by push_cast;lia
  rw[e];exact l
 d8:=λs a Q E i o b hs h=>wpAny_pyNext_range_end f b.2 (by lia) h
 gk:=λh a k b=>⟨_,b.2⟩
 fA:=λh d a k b e=>⟨b.1,e.trans b.2⟩
theorem bG.zG{P:aV}{i:cz}(S:bG (c.P'<|(a,o)::P) z H m cs s g u)(f:Ax a s.heap i):bG (c.P' P) z H m cs {s with heap:=i} g u:=by
 have d:=S.nw (a,o)<|.head _;have nd:=S.nd;simp only[bP,kR,iP,iQ] at nd;refine⟨S.ir,⟨S.fr.ns.extBut f<|eG d.2.1,λb j e=>f b j (λq=>?_)<|S.fr.keep b j e,S.fr.above⟩,λq k=>?_,S.jl,S.dv,S.fK,S.jN,nd.2,S.cW,by rw[S.fA]⟩
 ·rw[q,d.2.2] at e;exact ba e
 ·have N:=S.nw q<|.tail _ k;have h:q.1≠a:=λe=>nd.1 (by rw[<-e];exact om k);exact⟨f _ _ h N.1,N.2⟩
theorem wV.at{c:Fm}{A:dN}(h:wV c A){P:aV}(a:∀q∈c.P,q∈P)(S:bG (c.P' P) z H m cs s g u):wW s.heap A:=
 h.imp id λ⟨e,b,d,f,h2,i⟩=>u4 e b d f ((S.nw _<|fh _<|a _ h2).1) i
theorem wV.ne{c:Fm}{A:dN}(h:wV c A){P:aV}(b:∀q∈c.P,q∈P)(S:bG (c.P'<|(a,o)::P) z H m cs s g u):A.handled≠O (.ref a):=by
 rcases h with h|⟨e,i,j,d,h2,k⟩
 ·rw[h];exactλe=>ba e
 ·rw[d];intro q;refine dn λf=>?_
  cases q
  refine f ?_;have nd:=S.nd;simp only[bP,kR,iP,iQ] at nd;exact nd.1<|om<|fh _<|b _ h2
end
noncomputable def Gx.wP(g:Gx)(P:aV)(hP:∀q∈g.c.P,q∈P):Gx:=⟨g.ag,g.ns,g.hd,g.c.P' P,g.A,g.fr,⟨g.ok.wR,g.ok.aq,g.ok.jM,g.ok.hV,g.ok.XB,g.ok.TB,g.ok.jk,g.ok.dZ⟩,g.fg.imp id λ⟨e,a,b,d,h2,f⟩=>u4 e a b d (hP _ h2) f,g.qR⟩
section
variable{g:Gx}{P:aV}{hP:∀q∈g.c.P,q∈P}{q:aH×PO}{j:∀i∈g.c.P,i∈q::P}
theorem sw.re{c:Fm}{cs P P':aV}(F:sw nm (c.P' P) l cm cs):sw nm (c.P' P') l cm cs:=⟨F.mQ,F.wX,F.nn,F.bK,F.dZ⟩
theorem jQ.re{c:Fm}{P P':aV}{z b:Zs}(S:jQ nm (c.P' P) z l H s)(ok:c.aS.locals=c.L)(le:z.le b)(k:∀{m cs g a},bG (c.P' P) z H m cs s g a->St (c.P' P') b d m cs e):jQ nm (c.P' P') b l d e:=by
 obtain⟨m,cs,cm,⟨g,a,S⟩,L,F⟩:=S;exact⟨m,cs,cm,k S,(sB S F.re ok L).au le,F.re⟩
noncomputable def Lr(a:V->Lc->Hp->R (Fl×Lc))(r:List V)(fl:Fl)(l:Lc)(H:Hp):R (Fl×Lc):=match fl with
 |.aU=>dm a r l H
 |.q=>dm a r l H
 |.u=>.ok (.aU,l) H
 |.am v=>.ok (.am v,l) H
theorem aau{j:Gx}{i:Wt j}{b:V->Lc->Hp->R (Fl×Lc)}{a Q:ku->ay->Prop}(T:Ts f (dm b (v::r) l H) Q k)(m:PassesOwn MM j.A j.c.aS k)
  (h:∀(u:Wt j) fl d,i.z.le u.z->sx u.z fl d->Ts f (Lr b r fl u.l u.H) Q k->a d u.s):Ts i (b v l H) a k:=by
 have e:∀{x},b v l H=x->dm b (v::r) l H=match x with|.ok (.aU,l) H=>dm b r l H|.ok (.q,l) H=>dm b r l H|.ok (.u,l) H=>.ok (.aU,l) H|.ok (.am v,l) H=>.ok (.am v,l) H|_=>.j:=λe=>e▸J
 exact⟨λq=>T.ne<|e q,λu fl d q le fr=>h u fl d le fr<|(show dm b (v::r) l H=Lr b r fl u.l u.H from(e q).trans (by cases fl<;>rfl))▸T,λx s o p q=>ax (e q) T.ne,m⟩
inductive Ls(w₀:Wt (g.wP P hP))(z₁:Zs)(a:aH)(It:cz->aH->Nat->Prop)(fb:V->Lc->Hp->R (Fl×Lc))(xs:List V)(Q:ku->ay->Prop)(Ee:ak->ay->Prop)(n:Nat)(s:ay):Prop
 |mk (k:Nat) (o:PO) (z:Zs) (l:Lc) (H:Hp) (hn:n=xs.length-k) (hk:k<=xs.length) (le:z₁.le z) (S:jQ (dy g.ns) (g.c.P' ((a,o)::P)) z l H s) (hI:It s.heap a k) (T:Ts w₀ (dm fb (xs.drop k) l H) Q Ee)
theorem D7{w₀:Wt<|g.wP P hP}{It:cz->aH->Nat->Prop}{val:Nat->ak->Prop}{src:cz->Prop}{E:List V}{a:aH}{i:Nat}{x:aw}{px:dq}{bd:List S}{pb:List cA}{K:ak->ay->Prop}{Q:ku->ay->Prop}{l:Lc}{G:PO}{z:Zs}{H:Hp}{s:ay}
  (Ru:uz g.A It E.length val src)(hb:∀P hP,kg (g.wP P hP) bd pb)(hx:jm g.c.aS.scope g.ns i x=I)
  (hv:∀k pv v N,z.le N->val k pv->E[k]? =O v->aA N v pv)(hs:∀{N H m cs s h d o},z.le N->bG (g.c.P'<|(a,o)::P) N H m cs s h d->src s.heap)
  (t:w₀.z.le z)(S:jQ (dy g.ns) (g.c.P'<|(a,G)::P) z l H s)(hI:It s.heap a 0)(T:Ts w₀ (dm (λv l H=>aZ g.ag bd (l.set i<|O v) H) E l H) Q K):
  ky MM g.A (.forLoop (.Name x px) (.ref a) pb [] g.c.aS) (λr s'=>match r with|.ok f=>Q f s'|.error e=>cameBackBy MM g.A g.c.aS K e s') s:=by
 refine codeAny_forLoop (Ls w₀ z a It (λv l H=>aZ g.ag bd (l.set i<|O v) H) E Q K) ?_ E.length ⟨0,G,z,l,H,J,dG _,.refl,S,hI,T⟩;intro n s inv;obtain⟨k,o,w,l,H,hn,hk,le,S,hI,T⟩:=inv;have j:∀{o},∀q∈g.c.P,q∈(a,o)::P:=λq hq=>.tail _<|hP q hq
 by_cases p:k<E.length
 ·obtain⟨m,cs,cm,⟨h,d,S⟩,L,F⟩:=S;refine Ru.xc s a k _ _ hI (hs le S) p λpv h' tk hval y hsb=>?_;obtain⟨b,A⟩:=Ru.gk _ _ _ y;refine ly (uy hx) λh1 h2 h3=>?_;rw[N0 p] at T;have R:jQ (dy g.ns) (g.c.P'<|(a,b)::P) w l H _:=⟨m,cs,cm,⟨h,d,S.xb (tk:=tk) hsb A⟩,sB S F.re g.ok.jk L,F.re⟩;refine FE<|wZ (c:=g.c.P'<|(a,b)::P) (g.wP _ j).ok R (hv k pv E[k] w le hval<|li p) h1 h2 h3 λW B=>On T.kD ?_;obtain⟨m,cs,cm,B,X,Y⟩:=B;exact hb _ j ⟨w,H,W,_,m,cs,cm,B,X,Y⟩ _ K (aau T T.kD λu fl M Z fr T=>have lt:=hn▸adS p (sM k);have on:Ts w₀ (dm _ (E.drop<|k+1) u.l u.H) Q K->∃m,m<n/\Ls w₀ z a It (λv l H=>aZ g.ag bd (l.set i<|O v) H) E Q K m u.s:=λT=>
    ⟨_,lt,k+1,b,u.z,u.l,u.H,J,p,le.q Z,u.S,Ru.fA _ _ _ _ y (by obtain⟨h,d,S⟩:=u.st;exact((S.nw (a,b)<|.head _).1).trans A.symm),T⟩
   have off:∀{fl M},sx u.z fl M->Ts w₀ (.ok (fl,u.l) u.H) Q K->Q M u.s:=λfr T=>T.st (u.S.re g.ok.jk .refl λS=>⟨_,_,S.D5 (Q:=[(a,b)])⟩) (t.q<|le.q Z) fr
   zF fr on (off bk) on (λ_ _ r=>off r) T)
 ·obtain⟨m,cs,cm,⟨h,d,S⟩,L,F⟩:=S;obtain rfl:k=E.length:=Am hk<|sL p;refine Ru.d8 s a _ _ (g.fg.at j S) (g.fg.ne hP S) hI (hs le S) λh' he=>?_;rw[Np] at T;exact s6<|T.st ⟨m,cs,cm,⟨h,d,S.zG he⟩,sB S F.re g.ok.jk L,F.re⟩ (t.q le) bk
end
theorem Lu{h:Type}{H:Hp}{k:List V->Hp->R h}{b:Prop}(M:R h->Prop)(T:M<|rF v H k)(d:¬M .j)(k1:∀c,v=.u c->M (k c H)->b)(i:∀c,v=.af c->M (k c H)->b)(j:∀a c,v=.ae a->H[a]? =O (.af c)->M ((k c<|H.set a .i).i λr H=>.ok r<|H.set a<|.af c)->b):b:=by
 refine dn λf=>?_
 induction v using V.casesOn with
 |u c=>exact f<|k1 c J T
 |af c=>exact f<|i c J T
 |ae a=>
  have T:M (match H[a]? with|some (.af c)=>(k c<|H.set a .i).i λr H=>.ok r (H.set a<|.af c)|_=>.j):=T
  rcases e:H[a]? with _|⟨c|_|_⟩<;>rw[e] at T
  ·exact d T
  ·exact f<|j a c J e T
  ·exact d T
  ·exact d T
 |_=>exact d T
theorem aav(b:List V):∀{l:Lc} {H c:Hp},dm a b l H≠ .q c:=by
 induction b with
 |nil=>exact nofun
 |cons v r d=>
  intro l H c;show(match a v l H with|.ok (.aU,l) H=>dm a r l H|.ok (.q,l) H=>dm a r l H|.ok (.u,l) H=>.ok (.aU,l) H|.ok (.am v,l) H=>.ok (.am v,l) H|_=>.j)≠_
  rcases a v l H with⟨⟨_|_|_|_,l⟩,H⟩|_|_<;>first|exact d|exact nofun
section
variable{g:Gx}{w:Wt g}{Q:ku->ay->Prop}{u:ak->ay->Prop}
theorem D8(g:Gx):∀q∈g.c.P,q∈g.c.P:=λ_ h=>h
theorem aR.at{z:Zs}{a:List V}{b:Array ak}(r:aR z a b.toList){k:Nat}{pv:ak}{v:V}(c:b[k]? =O pv)(h2:a[k]? =O v):aA z v pv:=by
 rw[<-adK] at c
 rcases r.cN k with⟨e,_⟩|⟨x,u,e1,e2,r⟩
 ·exact ba<|e.symm.trans h2
 ·rw[cS (e1.symm.trans h2),cS (e2.symm.trans c)] at r;exact r
theorem jQ.j{c:Fm}{P:aV}{s:ay}{o:PO}(S:jQ nm (c.P' P) z l H s)(ok:c.aS.locals=c.L)(a:o.isFreed=C):jQ nm (c.P'<|(s.heap.objs.size,o)::P) z l H {s with heap:=s.heap.push o}:=
 S.re ok .refl λS=>⟨_,_,S.j (λb d e=>hJ o e) (kt _ a)<|bF _⟩
theorem aaw{i:Nat}{e:E}{bd:List S}{x:aw}{X G:dq}{K:aX}{L:List cA}(hh:g.A.handled=none)(hs:∀(M:dA) (x:ak),uW K M x=pure x)(he:∀w:Wt g,bj w.f e K)(hb:∀P hP,kg (g.wP P hP) bd L)(Y:jm g.c.aS.scope g.ns i x=true):
  di g (.y i e bd) (.For (.Name x X) K L [] G):=by
 refineλw Q u T=>wpAny_For (T.nx (he w w.p) λq v Z le F T=>?_) (hs _)
 have go:∀{P:aV} {hP:∀q∈g.c.P,q∈P} {p:List V} {a:aH} {c:Array ak} {z:Zs} {H:Hp} {s:ay} {w₀:Wt (g.wP P hP)} (le:w₀.z.le z) (S:jQ (dy g.ns) (g.c.P' P) z w.l H s),aR z p c.toList->s.heap.IsList a c->
   (∀{y H' m cs A h B o},z.le y->bG (g.c.P' ((s.heap.objs.size,o)::P)) y H' m cs A h B->A.heap.IsList a c)->
   Ts w₀ (dm (λv l H=>aZ g.ag bd (l.set i (some v)) H) p w.l H) Q u->bl MM g.A (FF (.ref a)) (λit s=>ky MM g.A (.forLoop (.Name x X) it L [] g.c.aS) (λr A=>match r with|.ok f=>Q f A|.error e=>cameBackBy MM g.A g.c.aS u e A) s) u s:=
  λle S r hl N T=>FH hl (D7 (It:=λh b k=>h.IsListIter b _ k) (val:=λk x=>_[k]? =some x) (src:=λh=>h.IsList _ _) (r.j▸D6) hb Y (λk Z v y le R h2=>(aR.au le _ _ r).at R h2) N le (S.j g.ok.jk rfl) (df _ (kt _ rfl) rfl rfl) T)
 refine Lu (λr=>Ts (w.at q) r Q u) T (λT=>T.ne rfl) (λp e T=>?_) (λp e T=>?_) λi p e ho T=>?_<;>rw[e] at F
 ·refine ej F λa c n W d t hr=>?_
  rw[W]
  exact wpAny_pyIter_tuple (su (q.st.i a d)) (D7 (w₀:=w.at q) (hP:=D8 g) (It:=λh b k=>h.IsTupleIter b a k) (val:=λk x=>c[k]? =some x) (src:=λh=>h.IsTuple a c) ((show p.length=c.size from hr.j)▸aat hh) hb Y (λk Z v y le R h2=>(aR.au le _ _ hr).at R h2) (λle S=>su (S.i a (le.dZ d))) .refl ((w.at q).S.j (c:=g.c) (P:=g.c.P) g.ok.jk rfl) (df _ (kt _ rfl) rfl rfl) T)
 ·refine ej F λa c n W d t hr=>?_
  rw[W]
  exact go (w₀:=w.at q) (hP:=D8 g) .refl (w.at q).S hr (gp (q.st.i a d)) (λle S=>gp (S.i a (le.dZ d))) T
 ·obtain⟨h,B,S⟩:=id q.st
  refine ej (bG.rF S ho) λa c n d hr t j=>?_
  rw[jO F d]
  have hP:∀q∈g.c.P,q∈(a,cZ c n)::g.c.P:=λq h=>.tail _ h
  let w₀:Wt (g.wP _ hP):=⟨q.z,_,q.s,w.l,w.m,w.cs,w.cm,⟨h,_,j⟩,sB S w.fx g.ok.jk q.lo,w.fx.re⟩
  refine go .refl w₀.S hr (gp ((j.nw (a,cZ c n) (.head _)).1)) (λle S=>gp ((S.nw (a,cZ c n) (.tail _ (.head _))).1)) ⟨λe=>T.ne (by rw[e];rfl),λv fl pfl e le fr=>?_,λx s y H' e=>absurd e (aav p),T.kD⟩
  rw[e] at T
  exact T.st (v.S.re g.ok.jk .refl λS=>(S.rv (le.at d) (aR.au le _ _ hr) t).elim λ_ S=>⟨_,_,S⟩) le fr
end
theorem Lw{n:Nat}(h:(n:Int)<=bg):Builtin.Range.small 0 n 1=true:=by
 have:bg=16777216:=J;exact small_one (D J) (D J) (by lia)<|by lia
theorem Ly(n:Nat):N1 0 n 1=n:=by
 rw[rangeSize_one];split<;>lia
noncomputable def zH(v:V)(H:Hp):R Nat:=match v with
 |.aa k=>if 0<=k/\k<=bg then .ok k.toNat H else .j
 |_=>.j
theorem D9{a:Type}(r:R V)(k:Nat->Hp->R a):(r.i λv H=>match v with|.aa i=>if 0<=i/\i<=bg then k i.toNat H else .j|_=>.j)=(r.i zH).i k:=by
 cases r with
 |ok v H=>cases v with
  |aa i=>
   show _=(if 0<=i/\i<=(bg:Int) then R.ok i.toNat H else .j).i k
   by_cases h:0<=i/\i<=(bg:Int)
   ·rw[aN h];exact aN h
   ·rw[a9 h];exact a9 h
  |_=>rfl
 |_=>rfl
noncomputable def Lz(n:Nat)(t u v:qX):PO:={cls:=.type "range",data:=.fields #[.int 0 t,.int n u,.int 1 v]}
noncomputable def LA(z:Zs)(n:Nat)(v:ak):Prop:=n<=bg/\∃a t u w,v=.ref a/\z.dZ a (Lz n t u w)
section
variable{f:Fx}{p:Pt f}
theorem Ea(d:gu cx.K ey "range"=O U)(j:iu f.bo.scope "range"=I)(hp:fL a=I)(k:bj f e a):Go LA p ((az f.g.ag e f.l p.H).i zH) (kw (.Call (.Name "range" np) [a] [] b) f.bo):=λQ E T=>by
 have hp:[a].all fL=true:=by rw[List.all_cons,hp];rfl
 refine xJ<|pV hp▸DN p.st d (v:=.type "range") J (D J) f.aq f.jM f.hV (beq_iff_eq.mp j) (D J) (qS (DZ nofun)<|Fz<|(k p).nx (λq v o le l T=>Fw ⟨bk,?_⟩) T);refine dn λm=>?_
 induction v using V.casesOn with
 |aa i=>
  obtain⟨t,e⟩:=l;have T:=T;refine T.q λh T=>m ?_;obtain⟨n,c⟩:=Al h.1;rw[c] at T h;rw[e,c];exact call_range_1<|T.ok (q.i ((q.st.q (o:=Lz n _ _ _) J).j _) Zs.le.i) _ _ J Zs.le.i ⟨sN.mp h.2,_,_,_,_,J,.inl<|.head _⟩
 |_=>exact T.ne J
end
section
variable{g:Gx}{w:Wt g}{Q:ku->ay->Prop}{j:ak->ay->Prop}
theorem Ts.cg(e:r=r')(T:Ts w r Q j):Ts w r' Q j:=e▸T
theorem LC{n k:Nat}{v:V}(h:((kj n).map λ(i:Nat)=>V.aa (i:Int))[k]? =O v):v=.aa k:=by
 rw[qb] at h;refine aB (fX.mp h) λj a e=>?_;have:=fM.mp a;obtain⟨_,a⟩:=this;rw[<-e,<-a,List.getElem_range]
theorem aax{c:aX}(z:g.A.handled=U)(m:gu cx.K ey "range"=O U)(A:iu g.c.aS.scope "range"=I)(hp:fL c=I)(hs:∀(o:dA) (x:ak),uW (.Call (.Name "range" np) [c] [] cpos) o x=pure x)(B:∀w:Wt g,bj w.f e c)(hb:∀P F,kg (g.wP P F) bd r)(G:jm g.c.aS.scope g.ns i x=I):
  di g (.jw i e bd) (.For (.Name x y) (.Call (.Name "range" np) [c] [] cpos) r [] d):=by
 refineλw Q j T=>wpAny_For (Ts.nx (Ts.cg (D9 (az g.ag e w.l w.H) λn H=>dm (λv l H=>aZ g.ag bd (l.set i<|O v) H) ((kj n).map λ(i:Nat)=>V.aa (i:Int)) w.l H) T) (Ea m A hp<|B w) λq n N le K T=>?_)<|hs _;obtain⟨L,a,t,u,v,e,M⟩:=K;rw[e];refine aeD (q.st.i a M) (Lw<|sN.mpr L) ?_;have hlen:((kj n).map λ(i:Nat)=>V.aa (i:Int)).length=n:=by rw[c3,adT]
 refine D7 (hP:=D8 g) (It:=λh b k=>k<=n/\Oo h b k ((n:Int)-k) 1) (val:=λk x=>∃t,x=.int k t) (src:=λs=>True) (hlen.symm▸Lq z) hb G (λk R v W le m h2=>m.elim λt e=>by rw[e,LC h2];exact jP) (λs s=>trivial) .refl ((w.at q).S.j g.ok.jk J) ⟨dG _,?_⟩ T;have:=kt q.s.heap (o:={cls:=.type "range_iterator",data:=.fields #[ls 0,ls (N1 0 n 1),ls 1]}) J;rw[Ly] at this⊢;rw[show(n:Int)-((0:Nat):Int)=n from adU _];exact this
end
section
variable{A:dN}{E:ak->ay->Prop}{s:ay}
theorem aay{Q:Unit->ay->Prop}(h:Q () s):bl MM A (FI base o r) Q E s:=by
 have g:bl MM A (FI (.JoinedStr [] default) o r) Q E s:=by
  induction o using sW with
  |ref a=>exact bu<|mn<|aez<|aeA entry_let_go<|dB<|dB h
  |_=>exact dB h
 have k:∀x,FI (.JoinedStr [] default) o r=x->bl MM A x Q E s:=λx e=>e▸g;clear g
 induction base using Expr.casesOn with
 |Name=>exact dB h
 |_=>refine k _ ?_;kernel_rfl
theorem uA{value slice:aX}{o i:ak}{T id:String}{d:List ak}{Q:ak->ay->Prop}(hs:xK slice C o i=AO d (uX o i))(e:s.TypeIs o T)(j:aee (.type T) "__getitem__"=pure (O<|.builtin id))(h:bl MM A (uX o i) Q E s):
  bl MM A (AP value slice o i) Q E s:=by
 unfold AP;refine bu ?_;rw[getitemInPython_of_ne e.not_modules];refine bu<|aeE e j ?_;have b:bl MM A (xK slice C o i) (λr a=>bl MM A (FI value o r>>=λg=>pure r) Q E a) E s:=by
  rw[hs];exact wpAny_operating<|mm h (λr a c=>bu<|aay<|dB c) λg g x=>x
 first
  |exact dB<|bu b
  |exact bu<|dB<|bu b
  |exact bu b
theorem LD{value slice:aX}{o i:ak}{a:List ak}{Q:ak->ay->Prop}(hs:xK slice C o i=AO a (uX o i))(h:ItemOn MM A E o i Q s):bl MM A (AP value slice o i) Q E s:=
 cU h λT id b c hg=>uA hs c b hg
inductive LF(i:Int)(n j:Nat):Prop
 |mk (lo: -(2^63)<=i) (hi:i<2^63) (ix:Op i n=some j) (lt:j<n) (lo': -(n:Int)<=i) (hi':i<n) (e:j=(if i<0 then i+n else i).toNat)
theorem LG{i:Int}(h:fR i n=O j)(c:n<=eH):LF i n j:=by
 rw[iy] at c;unfold fR at h
 by_cases a:0<=i
 ·rw[aN a] at h
  by_cases b:i<(n:Int)
  ·rw[aN b] at h
   cases h
   exact⟨by lia,by lia,by unfold Op;rw[a9 (ra.mpr a)];exact aN<|ec.mpr ⟨dH a,dH b⟩,by lia,by lia,b,by rw[a9 (ra.mpr a)]⟩
  ·rw[a9 b] at h;exact ba h
 ·rw[a9 a] at h;have a:=EZ.mp a
  by_cases b: -(n:Int)<=i
  ·rw[aN b] at h
   cases h
   exact⟨by lia,by lia,by unfold Op;rw[aN a];exact aN<|ec.mpr ⟨dH (by lia),dH<|by lia⟩,by lia,b,by lia,by rw[aN a]⟩
  ·rw[a9 b] at h;exact ba h
theorem aaz{items:Array ak}{k:Int}{Q:ak->ay->Prop}(c:s.heap.IsList l items)(g:LF k items.size j)(d:items[j]? =O x)(h:Q x s):bl MM A (uX (.ref l)<|.int k t) Q E s:=by
 obtain⟨e,i,o,q,m,r,a⟩:=g
 by_cases b:k<0
 ·rw[aN b] at a;exact wpAny_getItem_list_neg c b m e (a▸d) h
 ·rw[a9 b] at a;exact wpAny_getItem_list c (ra.mp b) i (a▸d) h
end
section
variable{f:Fx}{p:Pt f}
inductive Eb(v i:V)(H:Hp)(r:R V):Prop
 |j (k:Int) (u:V) (xs:List V) (j:Nat) (hi:i=.aa k) (hs:hR v H=some xs) (hj:fR k xs.length=some j) (hx:xs[j]? =some u) (e:r=.ok u H)
 |ah (k:Int) (x:List Nat) (ch j:Nat) (hi:i=.aa k) (hv:v=.ah x) (hj:fR k x.length=some j) (hx:x[j]? =some ch) (e:r=.ok (.ah [ch]) H)
 |dct (ds:List (V×V)) (u:V) (hv:v=.dct ds) (hf:ng i ds=some (some u)) (e:r=.ok u H)
theorem Ec{c:Type}{o:Option c}{H:Hp}{b:R c->Prop}(h:cG o H≠ .j)(k:∀a,o=O a->b (.ok a H)):b (cG o H):=by
 cases o with
 |none=>exact ax J h
 |some a=>exact k a J
theorem aaA{v i:V}{H:Hp}(h:f9 v i H≠ .j):Eb v i H (f9 v i H):=by
 have g:Bm v i H≠ .j->Eb v i H (Bm v i H):=λh=>by
  induction i using V.casesOn with
  |aa k=>
   have sq:cG ((hR v H).bind λa=>(fR k a.length).bind λj=>a[j]?) H≠ .j->Eb v (.aa k) H (cG ((hR v H).bind λa=>(fR k a.length).bind λj=>a[j]?) H):=λh=>
    Ec h λu b=>aB (oq.mp b) λa c h2=>aB (oq.mp h2) λj d h4=>.j k u a j J c d h4 J
   induction v using V.casesOn with
   |ah x=>exact Ec h λu b=>aB (oq.mp b) λj c h2=>aB (fX.mp h2) λl d e=>e▸ .ah k x l j J J c d J
   |_=>exact sq h
  |_=>exact ax J h
 induction v using V.casesOn with
 |dct m=>exact Ec h λu b=>aB (oq.mp b) λo c h2=>.dct m u J (c.trans<|bJ O h2) J
 |_=>exact g h
theorem aaB{v i:V}{pv m:ak}{value slice:aX}(hs:xK slice C pv m=AO [pv,m] (uX pv m))(o:aA p.z v pv)(r:aA p.z i m):Go aA p (f9 v i p.H) (AP value slice pv m):=λQ E T=>by
 refine dn λw=>?_
 rcases aaA T.ne with⟨k,u,Z,j,e1,P,y,z,e⟩|⟨k,x,L,j,e1,e2,y,z,e⟩|⟨ds,u,e2,R,e⟩<;>rw[e] at T
 ·rw[e1] at r;obtain⟨t,ei⟩:=r;refine w<|ej (p.j o P) λa vs n B ho hr S=>?_;rw[ei,B] at hs⊢;have g:=LG (hr.j▸y) S;have c:=Ay<|g.casesOn λ_ _ _ h _ _ _=>h;have q:=T.i<|hr.at c z
  rcases ho with ho|ho
  ·exact uA hs (gp ho).typeIs slot_list_getitem.lookup<|aaz (gp ho) g c q
  ·obtain⟨G,H,K,W,M,N,g7⟩:=g;exact uA hs (su ho).typeIs slot_tuple_getitem.lookup<|getItem_tuple (su ho) G H K c q
 ·rw[e1] at r;rw[e2] at o;obtain⟨t,ei⟩:=r;obtain⟨⟨u,ev⟩,X⟩:=o.ah;rw[ei,ev] at hs w;obtain⟨G,H,K,W,M,N,-⟩:=LG y X;have hlen:=me x;refine w<|LD hs<|SB.item (by unfold fitsSsize;rw[dO (ra.mpr G),dO (EZ.mpr H)];rfl) (PyProof.Rows.charAt_isSome (by rw[hlen];exact M) (by rw[hlen];exact N)) ?_;have e2:Txt.item (sV x) k=sV [L]:=by
   unfold Txt.item Txt.charAt;rw[hlen,K];show(⟨#[((sV x).cps[j]?).getD 0]⟩:aw)=_;rw[show(sV x).cps[j]? =O L from z▸List.getElem?_toArray];rfl
  rw[e2];exact T.j (pT (show 1<=eH by rw[iy];decide)) _
 ·rw[e2] at o;refine w<|ej o λa es n B Y h rd=>?_;rw[B] at hs⊢;have b:=p.st.i a Y
  rcases DT b h.1 rd r R with⟨k,t,F,ei,hM,pv,d,l⟩|⟨x,t,F,ei,hM,pv,d,l⟩<;>rw[ei] at hs⊢
  ·exact uA hs (aD _ b J) slot_dict_getitem.lookup<|aeF (AK cx.dh cx.w k t) hM d<|T.j l _
  ·exact uA hs (aD _ b J) slot_dict_getitem.lookup<|aeF (AL cx.dh cx.w x t) hM d<|T.j l _
theorem aaC(hs:∀o j,xK a C o j=AO [o,j] (uX o j))(d:bj f e c)(g:bj f i a):bj f (.y e i) (.Subscript c a b):=
 λp Q E T=>Subscript_<|(d p).nx (λq v l le h=>(g q).nx λq j m le k=>aaB (hs _ _) (aA.au le _ _ h) k Q E) T
end
inductive xd(xs:List V):Option Nat->Option Nat->List V->Prop
 |dW:xd xs none none xs
 |to (b:Nat):xd xs none (some b) (xs.take b)
 |i (a:Nat):xd xs (some a) none (xs.drop a)
inductive Ed(v lo hi:V)(H:Hp)(r:R V):Prop
 |ah (s:List Nat) (a b:Nat) (hv:v=.ah s) (hl:ni lo=some (some a)) (hh:ni hi=some (some b)) (hab:a<=b) (ha:a<=s.length) (e:r=.ok (.ah ((s.take b).drop a)) H)
 |af (a b:Option Nat) (xs ys:List V) (hl:ni lo=some a) (hh:ni hi=some b) (hx:vq v H=some xs) (y:xd xs a b ys) (e:r=.ok (.ae H.length) (H++[.af ys]))
theorem aaD{v lo d:V}(h:lI v lo d H≠ .j):Ed v lo d H (lI v lo d H):=by
 unfold lI at h⊢
 cases g:ni lo with
 |none=>rw[g] at h;exact ax J h
 |some a=>
  rw[g] at h
  cases hb:ni d with
  |none=>rw[hb] at h;exact ax J h
  |some b=>
   rw[hb] at h;have h:rD v a b H≠ .j:=h;show Ed v lo d H (rD v a b H);have k:∀r,r=(match vq v H with|some i=>Bo i a b H|.none=>.j)->r≠ .j->Ed v lo d H r:=λr e hr=>by
    cases j:vq v H with
    |none=>rw[j] at e;exact ax e hr
    |some i=>
     rw[j] at e
     induction a using gD with
     |none=>induction b using gD with
      |none=>exact .af U U i i g hb j .dW e
      |some b=>exact .af U (O b) i _ g hb j (.to b) e
     |some a=>induction b using gD with
      |none=>exact .af (O a) U i _ g hb j (.i a) e
      |some b=>exact ax e hr
   induction v using V.casesOn with
   |ah s=>
    induction a using gD with
    |none=>exact ax J h
    |some a=>induction b using gD with
     |none=>exact ax J h
     |some b=>
      have h:(if a<=b/\a<=s.length then R.ok (V.ah<|(s.take b).drop a) H else .j)≠ .j:=h;have c:=qP h;exact .ah s a b J g hb c.1 c.2<|aN c
   |_=>exact k _ J h
theorem Ef{o:Option Nat}(r:aA z v pv)(h:ni v=O o):IsPart pv (o.map N2):=by
 refine dn λa=>?_
 induction v using V.casesOn with
 |none=>rw[show pv=.none from r] at a;exact a<|cS h▸ .none
 |aa i=>
  obtain⟨t,e⟩:=r;have h:(if 0<=i then O (O i.toNat) else .none)=O o:=h
  by_cases c:0<=i
  ·rw[aN c] at h;obtain⟨n,b⟩:=Al c;rw[b] at e h;rw[e] at a;exact a<|cS h▸ .int _ _
  ·rw[a9 c] at h;exact ba h
 |_=>exact ba h
theorem LH{a:Nat}(r:aA z v pv)(h:ni v=O (O a)):∃t,pv=.int a t:=by
 have:=Ef r h
 cases this;exact⟨_,J⟩
theorem aaE(x:List Nat){a b:Nat}(c:a<=b)(g:a<=x.length):N3 (sV x) (O (a:Int)) (O (b:Int))=sV ((x.take b).drop a):=by
 have d:(sV x).length=x.length:=me x;have e:N3 (sV x) (O (a:Int)) (O (b:Int))=adV (sV x) (O (a:Int)) (O ((min b x.length:Nat):Int)):=by
  unfold N3 adV;rw[d];have:N4 (O (a:Int)) (O (b:Int)) 1 x.length=N4 (O (a:Int)) (O ((min b x.length:Nat):Int)) 1 x.length:=by
   unfold N4;simp only[show(1:Int)>0 by decide,if_true,show¬((b:Int)<0) from ra.mpr (qa _),show¬(((min b x.length:Nat):Int)<0) from ra.mpr (qa _),if_false]
   congr 1
   lia
  rw[this]
 rw[e,StrLaws.sliceText_nat _ (Nat.le_min.mpr ⟨c,g⟩) (by rw[d];exact Nat.min_le_right ..)];show sV ((x.drop a).take<|min b x.length-a)=_;rw[List.drop_take];exact bJ sV<|List.take_eq_take_iff.mpr (by rw[Ao];lia)
section
variable{f:Fx}{p:Pt f}
theorem Pt.af(p:Pt f)(g:aA p.z v pv)(h:vq v p.H=O c):∃a b n,pv=.ref a/\p.s.heap.get? a=O (cZ b n)/\aR p.z c b.toList/\b.size<=eH:=by
 refine dn λj=>?_
 induction v using V.casesOn with
 |af k=>exact ej g λa b n e d hs hr=>j<|f8 a b n e (p.st.i a d) (cS h▸hr) hs
 |ae i=>
  have h:(match p.H[i]? with|some (.af c)=>O c|_=>U)=O c:=h
  rcases e:p.H[i]? with _|⟨k|_|_⟩<;>rw[e] at h
  ·exact ba h
  ·obtain⟨a,b,n,d,l,r,hs,-⟩:=p.st.cW e;exact j<|f8 a b n (jO g d) l (cS h▸r) hs
  ·exact ba h
  ·exact ba h
 |_=>exact ba h
theorem aaF{a b:Option Nat}{c:Array ak}(y:xd e a b g)(r:aR z e c.toList):∃d,slicePick c (a.map N2) (b.map N2) U=d.toArray/\aR z g d/\d.length<=c.size:=by
 cases y with
 |dW=>exact df c.toList (slicePick_all c) r<|bF _
 |to b=>exact df _ (slicePick_upto' c b) (r.fC b)<|N5 ..
 |i a=>exact df _ (slicePick_from' c a) (r.y a) (by rw[Ao];exact ac8 ..)
theorem aaG{v lo w:V}{pv j m:ak}{value z:aX}{Q E:ak->ay->Prop}(hs:∀i,xK z C pv i=AO [i,pv] (uX pv i))(o:aA p.z v pv)(A:aA p.z lo j)(B:aA p.z w m)(T:Tk aA p (lI v lo w p.H) Q E):
  bl MM f.g.A (AP value z pv<|.ref p.s.heap.objs.size) Q E {p.s with heap:=p.s.heap.push {cls:=.type "slice",data:=.fields #[j,m,.none]}}:=by
 rcases aaD T.ne with⟨x,a,b,ev,q,hb,s,u,e⟩|⟨a,b,W,X,q,hb,H,y,e⟩<;>rw[e] at T
 ·rw[ev] at o;obtain⟨⟨t,e1⟩,c⟩:=o.ah;obtain⟨ta,e2⟩:=LH A q;obtain⟨Y,K⟩:=LH B hb;obtain⟨g,d,S⟩:=id p.st;rw[e1] at hs⊢;rw[e2,K];refine LD (hs _)<|SBH.sliceItem_ss keptFrN ⟨S.fr,S.nw⟩ (λZ t' k h=>?_) (by rw[me];exact c);rw[aaE x s u];exact T.ok (p.i ⟨g,d,S.DJ (nw:=[]) h.1 h.2 (λξ h=>ax h eU) xB⟩ Zs.le.i) _ _ J Zs.le.i<|pT<|aE (by rw[Ao,List.length_take];lia) c
 ·refine ej (p.af o H) λl vs n L F r G=>cF (aaF y r) λM e1 N P=>?_;rw[L] at hs⊢;have R:(cZ M.toArray 0).isFreed=false:=J;have S:=(p.st.q (o:={cls:=.type "slice",data:=.fields #[j,m,.none]}) J).K9 (n:=0) (aR.au .i _ _ N) (by rw[NX];exact aE P G);refine uA (hs _) (Heap.IsList.typeIs<|(gp F).push _) list_getitem_lookup
   (wpAny_getItem_list_slice ((gp F).push _) (Heap.IsSliceOf.new ..) (Ef A q) (Ef B hb) .none (by simp) ?_ G)
  rw[e1];refine T.ok (p.i S<|Zs.le.i.q .ce) _ _ J (Zs.le.i.q .ce)<|aD _ J ?_;obtain⟨g,d,S⟩:=p.st;rw[S.cW.bK];exact mT
noncomputable def zI(f:Fx)(e:E)(a:Option aX):Prop:=match a with
 |none=>e=.c .none
 |some a=>bj f e a
theorem LI(h:zI f e a):Go aA p (az f.g.ag e f.l p.H) (evalPart a f.bo):=by
 cases a with
 |none=>exact(show e=.c .none from h)▸λQ E T=>dB<|T.i wU
 |some a=>exact h p
theorem aaH{e lo g:E}(m:bj f e h)(o:zI f lo j)(r:zI f g k):bj f (.slc e lo g) (.Subscript h (.Slice j k U l) d):=
 λp Q E T=>Subscript_<|(m p).nx (λq v w le s T=>wpAny_Slice<|(LI o).nx (λq a x le t=>(LI r).nx λq b y c u T=>by
  rw[evalPart_none];exact dB<|aaG (λi=>J) (aA.au (le.q c) _ _ s) (aA.au c _ _ t) u T) T) T
end
section
variable{A:dN}{s:ay}
theorem aaI{it l:aH}{items:Array ak}{E:ak->ay->Prop}(k:l≠it):∀(n i:Nat) (s:ay) (Q:List ak->ay->Prop),s.heap.IsListIter it l i->s.heap.IsList l items->i+n<=items.size->
  (∀m,m.IsListIter it l (i+n)->sU it s.heap m->Q ((items.toList.drop i).take n) {s with heap:=m})->bl (du cx.dh cx.w) A (draw (.ref it) n) Q E s:=by
 intro n
 induction n with
 |zero=>
  intro i s Q d q q o;exact dB<|by simpa using o s.heap d (Heap.SameBut.refl ..)
 |succ n r=>
  intro i s Q d ht f o;have h:i<items.size:=(L1 f);show bl _ _ (AN (.ref it)>>=_) Q E s;refine bu<|aeC d ht (x:=items[i]) (by simp[h]) λp b a=>?_;refine bu<|mn<|r (i+1) _ _ b (ht.extBut a.extBut k) (L1 f) λj c e=>dB ?_;have hd:items.toList.drop i=items[i]::items.toList.drop (i+1):=by simp[N0,h]
  have:=o j (by rw[show i+(n+1)=i+1+n from(by simp+arith only)];exact c)<|a.trans e;rw[hd,List.take_succ_cons] at this;exact this
theorem aaJ{t:aH}{items:Array ak}{Q:List ak->ay->Prop}{E:ak->ay->Prop}(l:A.handled=U)(ht:s.heap.IsList t items)
  (m:∀j,Ax s.heap.objs.size s.heap j->Q items.toList {s with heap:=j}):bl (du cx.dh cx.w) A (aeG (.ref t) items.size U) Q E s:=by
 have h:t≠s.heap.objs.size:=by refine aB ht λo p q=>?_;exact e9<|mZ p
 unfold aeG;refine bu ?_
 ·unfold notIterableAtAll;refine bu<|aeE ht.typeIs slot_list_iter.lookup ?_;refine dB ?_;simp only[mX,if_false];refine bu<|mn<|FH ht ?_;refine bu<|mn<|aaI h items.size 0 _ _ (df _ (kt _ J) J J) (ht.push _) (by simp+arith only) λk c a=>?_;have hall:List.take items.size (List.drop 0 items.toList)=items.toList:=by
   rw[List.drop_zero];exact ade<|by simp
  rw[hall];rw[a9 (by simp)];have d:=(ht.push _).extBut a.extBut h;refine bu<|mn<|wpAny_pyNext_list_end l c d (by simp) λi f=>?_;simp only[Option.isSome_none,mX,if_false];refine dB<|m i λb o hb e=>f b o hb<|a.extBut b o hb<|hJ _ e
end
noncomputable def pW(l:List<|aw×dq):List aX:=l.map λq=>.Name q.1 q.2
theorem zJ:∀(l:List<|aw×dq),FJ (pW l) a=l.map λq=>(C,Fa (.Name q.1 q.2) a)
 |[]=>rfl
 |_::l=>bJ _<|zJ l
noncomputable def xe(sc:c4)(ns:List aw):List Nat->List (aw×dq)->Bool
 |[],[]=>I
 |i::is,q::l=>jm sc ns i q.1&&xe sc ns is l
 |_,_=>C
section
variable{g:Gx}{Q:ku->ay->Prop}{j:ak->ay->Prop}
noncomputable def sa(is:List Nat)(a:List V)(l:Lc)(H:Hp):R (Fl×Lc):=match lJ is a l with
 |some l=>.ok (.aU,l) H
 |.none=>.j
theorem aaK(is:List Nat):∀{tl:List<|aw×dq} {b:List V} {a:List ak} {w:Wt g},xe g.c.aS.scope g.ns is tl=I->aR w.z b a->Ts w (sa is b w.l w.H) Q j->
  bl MM g.A (aeH (tl.map λq=>Fa (.Name q.1 q.2) g.c.aS) a) (λf=>Q .next) j w.s:=by
 induction is with
 |nil=>
  intro tl b a w h r T
  induction tl using aW with
  |cons _ _=>exact bc h
  |nil=>induction b using aW with
   |cons _ _=>exact(T.ne J).elim
   |nil=>induction a using aW with
    |nil=>exact dB<|T.i bk
    |cons _ _=>exact r.elim
 |cons i is c=>
  intro tl b a w h r T
  induction tl using aW with
  |nil=>exact bc h
  |cons t tl=>induction b using aW with
   |nil=>exact(T.ne J).elim
   |cons x b=>induction a using aW with
    |nil=>exact r.elim
    |cons k a=>
     refine ly (uy<|bL h) λk1 d e=>bu<|mn<|FE<|wZ g.ok w.S r.1 k1 d e λs S=>?_;obtain⟨m,cs,cm,S,L,F⟩:=S;exact c (w:=⟨w.z,w.H,s,_,m,cs,cm,S,L,F⟩) (bR h) r.2<|T.to .refl
theorem aaL(is:List Nat):∀{a:List V} {l b:Lc},lJ is a l=some b->is.length=a.length:=by
 induction is with
 |nil=>
  intro a l b h
  induction a using aW with
  |nil=>rfl
  |cons _ _=>exact ba h
 |cons i is c=>
  intro a l b h
  induction a using aW with
  |nil=>exact ba h
  |cons x a=>exact congrArg (·+1) (c h)
theorem aaM(is:List Nat):∀{tl:List<|aw×dq},xe sc ns is tl=I->is.length=tl.length:=by
 induction is with
 |nil=>
  intro tl h
  induction tl using aW with
  |nil=>rfl
  |cons _ _=>exact bc h
 |cons i is a=>
  intro tl h
  induction tl using aW with
  |nil=>exact bc h
  |cons _ _=>exact bJ (·+1)<|a<|bR h
theorem aaN{tpos c:dq}(r:g.A.handled=U)(hs:aeI [.Tuple (pW tl) k tpos] i c.line g.c.aS=pure C)(z:aeJ [.Tuple (pW tl) k tpos] i g.c.aS=pure U)
  (B:∀w:Wt g,bj w.f e i)(ht:xe g.c.aS.scope g.ns is tl=I):di g (.iW is e) (.Assign [.Tuple (pW tl) k tpos] i c):=by
 refineλw Q j T=>Assign_Tuple (T.nx (B w w.p) λq v H le F T=>?_) hs z;have T:=T
 cases d:hR v q.H with
 |none=>rw[d] at T;exact(T.ne J).elim
 |some t=>
  rw[d] at T;have T:Ts (w.at q) (sa is t w.l q.H) Q j:=T;refine ej (q.j F d) λa u n G ho hr K=>?_;rw[G,arm_assign_Tuple];refine bu<|uV ?_;have hlen:(FJ (pW tl) g.c.aS).length=u.size:=by
   rw[zJ,c3,<-aaM is ht]
   cases y:lJ is t w.l with
   |none=>exact(T.ne (by unfold sa;rw[y])).elim
   |some l=>exact(aaL is y).trans hr.j
  have hstar:(FJ (pW tl) g.c.aS).findIdx? (·.1)=none:=by
   rw[zJ,List.findIdx?_eq_none_iff];exactλx p=>(eh.mp p).elim λq h=>h.2▸J
  unfold unpack;rw[hlen,hstar];have f:∀m,Ax q.s.heap.objs.size q.s.heap m->bl MM g.A (aeH ((FJ (pW tl) g.c.aS).map (·.2)) u.toList) (λL=>Q .next) j {q.s with heap:=m}:=λm p=>by
   have S:St g.c q.z q.H w.m w.cs {q.s with heap:=m}:=q.st.y [] (λb o e=>p b o (e9<|mZ e) e) (λq d=>ax d eU) xB;rw[zJ,rc];exact aaK (w:=⟨q.z,q.H,_,w.l,w.m,w.cs,w.cm,S,q.lo,w.fx⟩) is ht hr<|T.to .refl
  rcases ho with ho|ho
  ·exact bu<|mn<|aaJ r (gp ho) f
  ·exact bu<|mn<|wpAny_unpackItems_tuple r (su ho) f
end
noncomputable def jn(cells:List<|aw×aH):List (aw×AB)->List (aw×aH)->List (aw×aH)
 |[],a=>a
 |(n,k)::r,a=>if k== .free then jn cells r ((n,(cells.lookup n).getD 0)::a) else jn cells r a
theorem LJ{cells a:List<|aw×aH}:jn cells ((n,k)::r) a=if(k== .free)=I then jn cells r ((n,(cells.lookup n).getD 0)::a) else jn cells r a:=rfl
theorem aaO{scope:c4}{b:dA}(h:∀x∈scope.names,x.2=.free->(b.cells.lookup x.1).isSome=I):Oq scope b=pure (jn b.cells scope.names []):=by
 unfold Oq;have e:∀l (c:List<|aw×aH),(∀x∈l,x.2=.free->(b.cells.lookup x.1).isSome=I)->
   (forIn l c (λx r=>match x with
    |(name,kind)=>if(kind==xF)=I then do
      let a<-cellOf b name
      pure (adW<|(name,a)::r)
     else pure (adW r)):Sem<|List<|aw×aH)=pure (jn b.cells l c):=by
  intro l
  induction l with
  |nil=>intro c _;rw[List.forIn_nil];rfl
  |cons x l j=>
   intro c g;obtain⟨n,k⟩:=x;rw[List.forIn_cons]
   cases d:k==xF with
   |false=>
    simp only[d,mX,if_false];rw[pure_bind];show forIn l c _=_;rw[j c λy i=>g y (.tail _ i)];simp only[jn,d,mX,if_false]
   |true=>
    have hs:=g (n,k) (.head _)<|by simpa using d
    obtain⟨a,m⟩:=Aw.mp hs;have hc:cellOf b n=pure a:=by unfold cellOf;rw[m]
    simp only[d,if_true];rw[hc,pure_bind,pure_bind];show forIn l _ _=_;rw[j _ λy i=>g y (.tail _ i)];simp only[jn,d,if_true,m]
    rfl
 have:=e scope.names [] h;simp only[this]
 rfl
theorem aaP{cells:List<|aw×aH}{x:aw}(d:cells.lookup x=O a):∀{l:List<|aw×AB} {b:List<|aw×aH},b.lookup x=O a->(jn cells l b).lookup x=O a:=by
 intro l
 induction l with
 |nil=>
  intro b;intro h;exact h
 |cons e l c=>
  obtain⟨n,k⟩:=e;intro b;intro h;rw[LJ];split
  ·refine c ?_;rw[ot]
   cases hb:x==n with
   |true=>rw[<-beq_iff_eq.mp hb,d];rfl
   |false=>exact h
  ·exact c h
theorem Eg{cells:List<|aw×aH}{x:aw}(c:cells.lookup x=O a):∀{l:List<|aw×AB} {b:List<|aw×aH},(x,xF)∈l->(jn cells l b).lookup x=O a
 |(n,k)::l,b,h=>by
  rw[LJ]
  rcases d2.mp h with e|h
  ·cases e
   rw[aN (D rfl)];refine aaP c ?_;rw[ot,beq_self_eq_true,c];rfl
  ·split
   ·exact Eg c h
   ·exact Eg c h
noncomputable def kh(sc scope:c4):c4:={scope with names:=scope.names.map λ(n,k)=>if(k== .free&&sc.kind== .function&&sc.names.lookup n==O .cell) then(n,.cell) else(n,k)}
noncomputable def pX(sc scope:c4)(ns:List aw)(x:Nat)(j:aw):Bool:=
 (scope.kind== .function)&&(sc.kind== .function)&&scope.names.all (λy=>y.2 != .cell)&&scope.names.all (λy=>y.2 != .free||sc.names.lookup y.1==O .cell)&&
 scope.names.all (λy=>y.2 != .local||(y.1==j||y.1==(".0":aw)))&&scope.names.all (λy=>y.2 != .local||scope.names.lookup y.1==O .local)&&(scope.names.lookup j==O .local)&&
 decide ns.Nodup&&ns.all (λy=>y !=(".0":aw))&&(dy ns x==j)&&(j !=⟨#[]⟩)&&decide (x<ns.length)
structure n7(sc scope:c4)(ns:List aw)(x:Nat)(j:aw):Prop where
 aq:scope.kind=.function
 aaQ:sc.kind=.function
 Eh:∀y∈scope.names,y.2≠ .cell
 Ei:∀y∈scope.names,y.2=.free->sc.names.lookup y.1=some .cell
 jk:∀y∈scope.names,y.2=.local->y.1=j∨y.1=(".0":aw)
 zK:∀y∈scope.names,y.2=.local->scope.names.lookup y.1=some .local
 LK:scope.names.lookup j=some .local
 nd:ns.Nodup
 nz:∀y∈ns,y≠(".0":aw)
 aJ:dy ns x=j
 ne:j≠⟨#[]⟩
 lt:x<ns.length
theorem zL{sc scope:c4}{x:Nat}{j:aw}(h:pX sc scope ns x j=I):n7 sc scope ns x j:=by
 unfold pX at h;simp only[ol,beq_iff_eq,lr,bne_iff_ne,uK,decide_eq_true_eq] at h;obtain⟨⟨⟨⟨⟨⟨⟨⟨⟨⟨⟨g,h2⟩,i⟩,h4⟩,k⟩,l⟩,m⟩,o⟩,p⟩,b⟩,c⟩,d⟩:=h;exact⟨g,h2,i,λy a e=>(h4 y a).resolve_left λq=>q e,λy a e=>(k y a).resolve_left λq=>q e,λy a e=>(l y a).resolve_left λq=>q e,m,o,p,b,c,d⟩
theorem xg{b:Type}{x:aw}{a:b}:∀{cs:List<|aw×b},cs.lookup x=O a->(x,a)∈cs:=by
 intro cs
 induction cs with
 |nil=>
  intro h;exact ba h
 |cons d cs e=>
  obtain⟨n,c⟩:=d;intro h;rw[ot] at h
  cases hb:x==n with
  |true=>rw[hb] at h;cases h;rw[beq_iff_eq.mp hb];exact .head _
  |false=>rw[hb] at h;exact .tail _<|e h
theorem aaR{sc scope:c4}(c:sc.kind=.function)(a:∀y∈scope.names,y.2=.free->sc.names.lookup y.1=O .cell)(x:aw):(kh sc scope).names.lookup x=(scope.names.lookup x).map λk=>if k== .free then .cell else k:=by
 show(scope.names.map _).lookup x=_;generalize scope.names=l at a
 induction l with
 |nil=>rfl
 |cons y l d=>
  obtain⟨n,k⟩:=y;have b:=d λy g=>a y<|.tail _ g;rw[iP,ot];have e:(if(k==xF&&sc.kind== .function&&sc.names.lookup n==O .cell)=I then(n,adX) else(n,k))=(n,if(k== .free)=I then .cell else k):=by
   cases hb:k==xF with
   |false=>simp
   |true=>
    have:=a (n,k) (.head _)<|by simpa using hb
    simp[c,this]
  show E7 x ((if(k==xF&&sc.kind== .function&&sc.names.lookup n==O .cell)=I then(n,adX) else(n,k))::_)=_;rw[e,ot,ot]
  cases x==n with
  |true=>rfl
  |false=>exact b
section
variable{f:Fx}{scope:c4}{x:Nat}{j:aw}{B:aH}
noncomputable def Fx.jR(f:Fx)(scope:c4)(B:aH):dA:=compEnvC scope (jn f.bo.cells scope.names []) B f.bo
theorem zM(a:n7 f.bo.scope scope f.g.ns x j):Oq scope f.bo=pure (jn f.bo.cells scope.names []):=
 aaO λy b e=>f.dZ _<|a.Ei y b e
theorem zN(a:n7 f.bo.scope scope f.g.ns x j)(y:aw):(f.jR scope B).kindOf y=(scope.names.lookup y).map λk=>if k== .free then .cell else k:=
 aaR a.aaQ a.Ei y
theorem LL(b:n7 f.bo.scope scope f.g.ns x j){y:aw}(h:scope.names.lookup y=O .free):f.bo.kindOf y=O .cell/\∃a,f.bo.cells.lookup y=O a/\(jn f.bo.cells scope.names []).lookup y=O a:=by
 have c:=b.Ei (y,.free) (xg h) J;obtain⟨a,d⟩:=Aw.mp<|f.dZ _ c;exact⟨c,a,d,Eg d<|xg h⟩
theorem aaS(b:n7 f.bo.scope scope f.g.ns x j)(y:aw)(d:(f.jR scope B).kindOf y=some .cell):((f.jR scope B).cells.lookup y).isSome=true:=by
 rw[zN b] at d;refine aB (fX.mp d) λk c e=>?_
 by_cases g:k=.free
 ·rw[g] at c;obtain⟨_,a,_,h⟩:=LL b c;exact Aw.mpr ⟨a,h⟩
 ·rw[beq_eq_false_iff_ne.mpr g] at e;exact ax e<|b.Eh (y,k)<|xg c
theorem Ej{ns:List aw}(h:dy ns i≠⟨#[]⟩):ns[i]? =O (dy ns i):=by
 unfold dy at h⊢;rw[Ad] at h⊢
 cases e:ns[i]? with
 |none=>rw[e] at h;exact ax J h
 |some x=>rfl
theorem aaT{P:aV}{oC:PO}{c:Array eA}{l:Nat}{v:V}{pv:ak}{z:Zs}(b:n7 f.bo.scope scope f.g.ns x j)(t:∀q∈f.g.c.P,q∈P)(w:(B,oC)∈P)(hd:oC.data=.dict c l)(hs:Fo c)(y:Fc c j=O pv)(r:aA z v pv)
  (A:g9 (dy f.g.ns) f.g.c f.bo z f.m f.cs f.l):g9 (dy f.g.ns) (f.g.c.P' P) (f.jR scope B) z f.m f.cs (f.l.set x<|O v):=by
 intro i u e
 by_cases d:i=x
 ·rw[d] at e⊢;rw[oi (by have:=(fM.mp e).1;rwa [sK] at this)] at e;rw[<-cS (cS e)];refine aD pv r ?_;rw[b.aJ];unfold lZ;rw[zN b,b.LK];exact .inr<|f8 oC c l w hd hs y
 ·rw[mS (eG d)] at e;refine aB (A i u e) λq E V=>aD q E ?_;unfold lZ at V⊢;rw[zN b]
  cases g:scope.names.lookup (dy f.g.ns i) with
  |none=>trivial
  |some k=>cases k with
   |free=>
    obtain⟨F,a,h2,G⟩:=LL b g;rw[F] at V;refine cU V λL o H m K=>?_;rw[<-cS (h2.symm.trans H)] at m;exact cK a o G ((eT.mp m).elim (λh=>fh _<|t _ h)<|dj _) K
   |«local»=>
    exfalso
    rcases b.jk _ (xg g) J with q|q
    ·have q:dy f.g.ns i=j:=q;have p:=Ej<|q▸b.ne;have s:=Ej<|b.aJ▸b.ne;rw[q,<-b.aJ,<-s] at p;exact d ((List.getElem?_inj (fM.mp s).1 b.nd).mp p.symm).symm
    ·have q:dy f.g.ns i=(".0":aw):=q;exact b.nz _ (mi<|Ej<|q▸by decide) q
   |cell=>exact absurd J<|b.Eh _<|xg g
   |_=>trivial
end
section
variable{A:dN}
variable{c:Fm}{z:Zs}{H:Hp}{m:aw->Option ak}{cs:aV}{s:ay}{g:cz}{i:List aV}
theorem bG.sC{P P':aV}(S:bG (c.P' P) z H m cs s g i)(h:P'.Perm P):bG (c.P' P') z H m cs s g i:=by
 have hp:(bP (c.P' P') z cs i).Perm (bP (c.P' P) z cs i):=uQ _ h;exact S.y (λq a=>hp.mem_iff.mp a) ((hp.map _).nodup_iff.mpr S.nd) S.cW
theorem bG.LM{P:aV}{b:Array ak}(S:bG (c.P'<|(a,cZ b n)::P) z H m cs s g i)(r:aR z d b.toList)(hs:b.size<=eH):
  bG (c.P' P) ⟨z.Z,z.ad++[a]⟩ (H++[.af d]) m cs s g (i++[[(a,cZ b n)]]):=by
 have hp:(bP (c.P' P) ⟨z.Z,z.ad++[a]⟩ cs<|i++[[(a,cZ b n)]]).Perm (bP (c.P'<|(a,cZ b n)::P) z cs i):=by
  have:=Kr (c.P' P) z cs i [(a,cZ b n)] a;exact this
 exact S.y (λq e=>hp.mem_iff.mp e) ((hp.map _).nodup_iff.mpr S.nd)<|S.cW.q<|.af r hs
theorem bG.q{P:aV}(S:bG (c.P' P) z H m cs s g i){q:aH×PO}(h:q∈P):s.heap.get? q.1=O q.2:=(S.nw q<|fh _ h).1
end
theorem aaU{r:R<|List V}:((r.i λa H=>R.ok (u::a) H).i λb H=>R.ok (a++b) H)=r.i λb H=>.ok (a++[u]++b) H:=by
 induction r using R.casesOn with
 |ok b H=>show R.ok (a++u::b) H=R.ok (a++[u]++b) H;rw[b6];rfl
 |q _=>rfl
 |j=>rfl
theorem aaV{r:R<|List V}:(r.i λa H=>R.ok ([]++a) H)=r:=by cases r<;>rfl
structure Tc(f:Fx)(P:aV)(a Cd:aH)(z₀:Zs)(r:R (List V))(K:ay->Prop):Prop where
 ne:r≠ .j
 ok:∀us z H s ys n oC mC,r=.ok us H->z₀.le z->St (f.g.c.P' ((Cd,oC)::(a,cZ ys n)::P)) z H f.m f.cs s->s.heap.Ns Cd mC->aR z us ys.toList->ys.size<=eH->K s
inductive aaW(f:Fx)(P:aV)(a Cd b:aH)(z₀ z₁:Zs)(It:cz->aH->Nat->Prop)(fb:V->Hp->R V)(xs:List V)(K:ay->Prop)(n:Nat)(s:ay):Prop
 |mk (k:Nat) (z:Zs) (H:Hp) (oI oC:PO) (mC:aw->Option ak) (us:List V) (ys:Array ak) (ny:Nat) (hn:n=xs.length-k) (hk:k<=xs.length) (le:z₁.le z) (S:St (f.g.c.P' ((b,oI)::(Cd,oC)::(a,cZ ys ny)::P)) z H f.m f.cs s) (hI:It s.heap b k) (hC:s.heap.Ns Cd mC) (hr:aR z us ys.toList) (hz:ys.size=k)
  (T:Tc f P a Cd z₀ ((eY fb (xs.drop k) H).i λvs H=>.ok (us++vs) H) K)
theorem aaX{j:V->Hp->R V}{v:V}{r:List V}{H:Hp}{l:List V}{f:Fx}{P:aV}{d t:aH}{i:Zs}{K:ay->Prop}{w:Fx}{p:Pt w}{Q:ak->ay->Prop}{E:ak->ay->Prop}(T:Tc f P d t i ((eY j (v::r) H).i λo H=>.ok (l++o) H) K)
  (k:∀(q:Pt w) a b,p.le q->aA q.z a b->Tc f P d t i ((eY j r q.H).i λo H=>.ok (l++[a]++o) H) K->Q b q.s):Tk aA p (j v H) Q E:=by
 have e:∀{x},j v H=x->eY j (v::r) H=match x with|.ok u H=>(eY j r H).i λl H=>.ok (u::l) H|_=>.j:=λe=>e▸J
 exact⟨λq=>T.ne (by rw[e q];rfl),λq a b h le rl=>k q a b le rl (by rw[e h] at T;exact aaU▸T),λx s y B q=>ax (by rw[e q];rfl) T.ne⟩
theorem aaY{f:Fx}{P:aV}{scope:c4}{x:Nat}{tn:aw}{It:cz->aH->Nat->Prop}{val:Nat->ak->Prop}{src:cz->Prop}{X:List V}{d j B:aH}{px:dq}{e:E}{pe iter:aX}{pos:dq}{oI oC:PO}{mC:aw->Option ak}{Rr:s1->ay->Prop}{z F:Zs}{H:Hp}{s:ay}(hP:∀q∈f.g.c.P,q∈P)
  (l:n7 f.bo.scope scope f.g.ns x tn)(Ru:uz f.g.A It X.length val src)(he:∀f':Fx,(∃P hP,f'.g=f.g.wP P hP)->f'.bo.scope=kh f.bo.scope scope->bj f' e pe)(hbig:X.length<=eH)
  (hv:∀k pv v z',z.le z'->val k pv->X[k]? =O v->aA z' v pv)(hs:∀{z' H m cs s h i o Q},z.le z'->bG (f.g.c.P'<|(d,o)::(Q++P)) z' H m cs s h i->src s.heap)
  (Lo:g9 (dy f.g.ns) f.g.c f.bo z f.m f.cs f.l)(le₀:F.le z)(S₀:St (f.g.c.P'<|(d,oI)::(B,oC)::(j,cZ #[] 0)::P) z H f.m f.cs s)(hI:It s.heap d 0)(hCd:s.heap.Ns B mC)
  (T:Tc f P j B F (eY (λv H=>az f.g.ag e (f.l.set x<|O v) H) X H)<|Rr<|.ok .next):
  ky MM f.g.A (.compLoop (.ListComp pe [⟨.Name tn px,iter,[],0⟩] scope pos) 0 (.ref d) (.ref j)<|f.jR scope B) Rr s:=by
 refine codeAny_compLoop_list (aaW f P j B d F z It (λv H=>az f.g.ag e (f.l.set x<|O v) H) X<|Rr<|.ok .next) ?_ X.length ⟨0,z,H,oI,oC,mC,[],#[],0,J,dG _,.refl,S₀,hI,hCd,aR.nil,J,aaV.symm▸T⟩;intro n s inv;obtain⟨k,G,H,oI,oC,mC,us,ys,ny,hn,hk,le,⟨h,i,S⟩,hI,hC,hr,hz,T⟩:=inv;have ndP:d≠B:=by
  have nd:=S.nd;simp only[bP,kR,iP,iQ,d2,not_or] at nd;exact nd.1.1
 have p:∀{a b c:aH×PO},∀q∈f.g.c.P,q∈a::b::c::P:=λq hq=>.tail _<|.tail _<|.tail _<|hP q hq
 by_cases t:k<X.length
 ·refine Ru.xc s d k _ _ hI (hs (Q:=[(B,oC),(j,cZ ys ny)]) le S) t λpv h' tk hval K hsb=>?_;obtain⟨w,y⟩:=Ru.gk _ _ _ K;have hkC:(f.jR scope B).kindOf tn=O .local:=by rw[zN l,l.LK];rfl
  refine FE<|aew hkC (hC.sameBut hsb<|eG ndP) (λh₃ hn₃ hs₃=>?_) (by show(scope.kind==ScopeKind.class||(scope.kind==ScopeKind.module&&_))=C;rw[l.aq];rfl);refine ej (id hn₃) λr es ep Y L M N=>?_;have S₃:=(((S.xb hsb y).sC<|ou _ _ _).xb (tk:=tk+1) hs₃ Y).sC<|ou _ _ _;rw[N0 t] at T;have rel:=hv k pv X[k] G le hval (li t)
  let f':Fx:=⟨f.g.wP ((d,w)::(B,r)::(j,cZ ys ny)::P) p,f.jR scope B,f.m,f.cs,f.l.set x<|O X[k],f.jM,f.hV,l.aq,aaS l⟩
  refine he f' ⟨_,p,J⟩ J ⟨G,H,_,⟨h,i,S₃⟩,aaT l p (.tail _<|.head _) L M ((N tn).trans<|aN J) rel<|Lo.au le⟩ _ _<|aaX T λq u py le' ru T=>?_;obtain⟨h₄,Z,S₄⟩:=id q.st;refine append_at (hsz:=sQ<|iO (hz▸t) hbig) (S₄.q<|.tail _<|.tail _<|.head _) λh₅ hsb₅ ho₅=>?_;have W:=((S₄.sC<|(ou _ _ _).trans<|As _<|ou _ _ _).xb (tk:=q.s.toks) hsb₅ ho₅).sC<|(As (d,w)<|ou _ (B,r) _).trans<|ou _ _ _;exact⟨_,hn▸adS t (sM k),k+1,q.z,q.H,w,r,_,us++[u],ys.push py,_,J,t,le.q le',⟨h₄,Z,W⟩,Ru.fA _ _ _ _ K<|(W.q<|.head _).trans y.symm,f8 r es ep (W.q<|.tail _<|.head _) L M N,Lb (aR.au le' _ _ hr) ru,by rw[adJ,hz],T⟩
 ·obtain rfl:k=X.length:=Am hk<|sL t;refine Ru.d8 s d _ _ (f.g.fg.at p S) (f.g.fg.ne (λq hq=>.tail _<|.tail _<|hP q hq) S) hI (hs (Q:=[(B,oC),(j,cZ ys ny)]) le S) λh' hx=>?_;rw[Np] at T;exact T.ok us G H _ ys ny oC mC (by show R.ok (us++[]) H=_;rw[cM]) (le₀.q le) ⟨h,i,S.zG hx⟩ (hC.extBut hx<|eG ndP) hr<|hz▸hbig
section
variable{f:Fx}{P:aV}{scope:c4}{x:Nat}{j:aw}
theorem Ek{It:cz->aH->Nat->Prop}{val:Nat->ak->Prop}{src:cz->Prop}{M:List V}{a:aH}{X:dq}{e:E}{Y iter:aX}{A:dq}{oI:PO}{Z:ak->aH->s1->ay->Prop}{Ee:ak->ay->Prop}{z r:Zs}{H:Hp}{s:ay}(N:∀q∈f.g.c.P,q∈P)
  (c:n7 f.bo.scope scope f.g.ns x j)(Ru:uz f.g.A It M.length val src)(he:∀R:Fx,(∃P N,R.g=f.g.wP P N)->R.bo.scope=kh f.bo.scope scope->bj R e Y)(hbig:M.length<=eH)
  (hv:∀k pv v B,z.le B->val k pv->M[k]? =O v->aA B v pv)(hs:∀{B H m cs s h u o Q},z.le B->bG (f.g.c.P'<|(a,o)::(Q++P)) B H m cs s h u->src s.heap)
  (Lo:g9 (dy f.g.ns) f.g.c f.bo z f.m f.cs f.l)(w:r.le z)(i:St (f.g.c.P'<|(a,oI)::P) z H f.m f.cs s)(hI:It s.heap a 0)
  (hself:∀k S (Q:ak->ay->Prop) (E:ak->ay->Prop),It S.heap a k->Q (.ref a) S->bl MM f.g.A (FF<|.ref a) Q E S)
  (T:∀d Cd,Tc f P d Cd r (eY (λv H=>az f.g.ag e (f.l.set x<|O v) H) M H)<|Z (.ref d) Cd<|.ok .next):
  bl MM f.g.A (AC []) (λF G=>bl MM f.g.A (Ot scope f.bo.globals (jn f.bo.cells scope.names []) [] f.bo.qual U .none<|O f.bo) (λjR K=>ky MM f.g.A (.compStart (.ListComp Y [⟨.Name j X,iter,[],0⟩] scope A) 0 (.ref a) F {jR with scope:=Ov scope f.bo}) (Z F jR.locals) K) Ee G) Ee s:=by
 refine uT<|wpAny_newFunctionEnv c.Eh (by intro y hy;simp at hy) (λh₁ g l=>?_) c.aq
 dsimp only at g l⊢
 obtain⟨h,u,i⟩:=i;have L:=i.j (tk:=s.toks) (λb o e=>hJ (cZ #[] 0) e) (kt _ J)<|bF _;refine ej (id g) λoC es ep W hdC hkC hfC=>?_;have t:=L.j (tk:=s.toks+([]:List<|aw×ak).length) (λb o e=>l.extBut b o (e9<|mZ e)<|hJ _ e) W<|bF _;have p:=Ru.fA _ _ _ _ hI<|(t.q<|.tail _<|.tail _<|.head _).trans (i.q<|.head _).symm;have pm:((a,oI)::((s.heap.push<|cZ #[] 0).objs.size,oC)::(s.heap.objs.size,cZ #[] 0)::P).Perm (((s.heap.push<|cZ #[] 0).objs.size,oC)::(s.heap.objs.size,cZ #[] 0)::(a,oI)::P):=
  (ou _ _ _).trans<|As _<|ou _ _ _
 have loop:=aaY (iter:=iter) (pos:=A) (px:=X) N c Ru he hbig hv hs Lo w ⟨h,u,t.sC pm⟩ p g<|T _ _;exact codeAny_compStart_list loop<|hself 0 _ _ _ p loop
theorem LN{L:ak->aH->s1->ay->Prop}{R:ak->ay->Prop}{q:Pt f}(w:aA q.z v pv)
  (c:n7 f.bo.scope scope f.g.ns x j)(he:∀W:Fx,(∃P hP,W.g=f.g.wP P hP)->W.bo.scope=kh f.bo.scope scope->bj W e pe)
  (T:∀d o,Tc f f.g.c.P d o q.z (x9 v q.H λm H=>eY (λv H=>az f.g.ag e (f.l.set x<|O v) H) m H)<|L (.ref d) o<|.ok .next):
  bl MM f.g.A (FF pv) (λit y=>bl MM f.g.A (AC []) (λA B=>bl MM f.g.A (Ot scope f.bo.globals (jn f.bo.cells scope.names []) [] f.bo.qual U .none<|O f.bo) (λjR F=>ky MM f.g.A (.compStart (.ListComp pe [⟨.Name j px,iter,[],0⟩] scope N) 0 it A {jR with scope:=Ov scope f.bo}) (L A jR.locals) F) R B) R y) R q.s:=by
 obtain⟨h,G,S⟩:=id q.st;have T:(∀m,v≠ .u m)/\∀d o,Tc f f.g.c.P d o q.z (rF v q.H λm H=>eY (λv H=>az f.g.ag e (f.l.set x<|O v) H) m H) (L (.ref d) o<|.ok .next):=by
  refine dn λkk=>?_
  induction v using V.casesOn with
  |u m=>exact(T 0 0).ne J
  |_=>exact kk ⟨nofun,T⟩
 refine Lu (λr=>∀d o,Tc f f.g.c.P d o q.z r<|L (.ref d) o<|.ok .next) T.2 (λT=>(T 0 0).ne J) (λm e _=>ax e<|T.1 m) (λm e T=>?_) λi m e ho T=>?_<;>rw[e] at w
 ·refine ej w λa M n ea K p hr=>?_;rw[ea];exact FH (gp<|q.st.i a K)<|Ek (It:=λh g k=>h.IsListIter g a k) (λ_ h=>h) c ((show m.length=M.size from hr.j)▸D6) he (by rw[hr.j];exact p) (λk pv v z' le X h2=>(aR.au le _ _ hr).at X h2) (λle S=>gp<|S.i a<|le.dZ K) q.lo .refl
   ⟨h,G,S.j (λb o' e=>hJ _ e) (kt _ J)<|bF _⟩ (df _ (kt _ J) J J) (λk s' Q E Y q=>aeK Y q) T
 ·refine ej (bG.rF S ho) λa M n K hr p t=>?_;rw[jO w K];exact FH (gp<|(t.nw (a,cZ M n)<|.head _).1)<|Ek (It:=λh g k=>h.IsListIter g a k) (λ_ h=>.tail _ h) c ((show m.length=M.size from hr.j)▸D6) he (by rw[hr.j];exact p) (λk pv v z' le X h2=>(aR.au le _ _ hr).at X h2) (λle S=>gp<|S.q<|.tail _<|dj _<|.head _) q.lo .refl
   ⟨h,_,t.j (λb o' e=>hJ _ e) (kt _ J)<|bF _⟩ (df _ (kt _ J) J J) (λk s' Q E Y q=>aeK Y q) λd o=>
    ⟨λe=>(T d o).ne (by rw[e];rfl),λus z H s ys n' oC mC e le ⟨h,G,S⟩ hC Z hz=>(T d o).ok us z _ s ys n' oC mC (by rw[e];rfl) le (((S.sC<|(ou _ _ _).trans<|As _<|ou _ _ _).rv (le.at K) (aR.au le _ _ hr) p).elim λl S=>⟨h,l,S⟩) hC Z hz⟩
theorem LO{r:R<|List V}{Q E:ak->ay->Prop}{q:Pt f}(T:Tk aA q (r.i λd H=>.ok (.ae H.length)<|H++[.af d]) Q E)(a c:aH):Tc f f.g.c.P a c q.z r (aec MM f.g.A E U Q (.ref a) c<|.ok .next):=
 ⟨λe=>T.ne (by rw[e];rfl),λl z H s m n oC g e le ⟨h,i,S⟩ j hr k=>aD g j λo hs=>by
  rw[e] at T;have b:=(S.zG hs.extBut).LM hr k;exact T.ok (q.i ⟨h,_,b⟩<|le.q .ce) _ _ J (le.q .ce)<|aD a J (by rw[S.cW.bK];exact mT)⟩
theorem LP(hs:∀(d:dA) (x:ak),uW b d x=pure x)(a:pX f.bo.scope scope f.g.ns x j=I)(g:bj f it b)(l:∀h:Fx,(∃P m,h.g=f.g.wP P m)->h.bo.scope=kh f.bo.scope scope->bj h e i):
  bj f (.i e x it) (.ListComp i [⟨.Name j k,b,[],0⟩] scope c):=λp Q E T=>by
 rw[aeL];have a:=zL a;exact FK J (hs f.bo) (zM a) a.aq a.zK<|(g p).nx (λq v r le o T=>LN o a l<|LO T) T
theorem Tk.cg{b c:Type}{a:Zs->b->c->Prop}{p:Pt f}{r r':R b}{Q:c->ay->Prop}{E:ak->ay->Prop}(e:r=r')(T:Tk a p r Q E):Tk a p r' Q E:=e▸T
theorem LQ{K:dq}{A iter:aX}{B:ak->aH->s1->ay->Prop}{q:Pt f}(L:f.g.A.handled=U)(M:LA q.z n z)
  (c:n7 f.bo.scope scope f.g.ns x j)(N:∀w:Fx,(∃P R,w.g=f.g.wP P R)->w.bo.scope=kh f.bo.scope scope->bj w e A)
  (T:∀d F,Tc f f.g.c.P d F q.z (eY (λv H=>az f.g.ag e (f.l.set x<|O v) H) ((kj n).map λ(i:Nat)=>V.aa (i:Int)) q.H)<|B (.ref d) F<|.ok .next):
  bl MM f.g.A (FF z) (λit l=>bl MM f.g.A (AC []) (λm o=>bl MM f.g.A (Ot scope f.bo.globals (jn f.bo.cells scope.names []) [] f.bo.qual U .none<|O f.bo) (λjR p=>ky MM f.g.A (.compStart (.ListComp A [⟨.Name j K,iter,[],0⟩] scope r) 0 it m {jR with scope:=Ov scope f.bo}) (B m jR.locals) p) s o) s l) s q.s:=by
 obtain⟨G,a,t,u,v,e,W⟩:=M;rw[e];refine aeD (q.st.i a W) (Lw<|sN.mpr G) ?_;have hlen:((kj n).map λ(i:Nat)=>V.aa (i:Int)).length=n:=by rw[c3,adT]
 obtain⟨h,y,S⟩:=id q.st;refine Ek (It:=λh g k=>k<=n/\Oo h g k ((n:Int)-k) 1) (val:=λk x=>∃t,x=.int k t) (src:=λZ=>True) (λ_ h=>h) c (hlen.symm▸Lq L) N (by rw[hlen,iy];exact G) (λk pv v z' le X h2=>X.elim λt e=>by rw[e,LC h2];exact jP) (λ_ _=>bk) q.lo .refl
  ⟨h,y,S.j (λb o' e=>hJ _ e) (kt _ J)<|bF _⟩ ⟨dG _,?_⟩ (λk s' Q E Y q=>wpAny_pyIter_rangeiter Y.2 q) T
 have:=kt q.s.heap (o:={cls:=.type "range_iterator",data:=.fields #[ls 0,ls (N1 0 n 1),ls 1]}) J;rw[Ly] at this⊢;rw[show(n:Int)-((0:Nat):Int)=n from adU _];exact this
theorem LR{e it:E}{k b:aX}{l c np cpos:dq}(m:f.g.A.handled=U)(o:gu cx.K ey "range"=O U)(r:iu f.bo.scope "range"=I)(hp:fL b=I)(hs:∀(d:dA) (x:ak),uW (.Call (.Name "range" np) [b] [] cpos) d x=pure x)
  (a:pX f.bo.scope scope f.g.ns x j=I)(g:bj f it b)(s:∀h:Fx,(∃P t,h.g=f.g.wP P t)->h.bo.scope=kh f.bo.scope scope->bj h e k):
  bj f (.lE e x it) (.ListComp k [⟨.Name j l,.Call (.Name "range" np) [b] [] cpos,[],0⟩] scope c):=λp Q E T=>by
 rw[aeL];have a:=zL a;exact FK J (hs f.bo) (zM a) a.aq a.zK<|(Ea o r hp g).nx (λq n y le u T=>LQ m u a s<|LO T)
  (Tk.cg (D9 (az f.g.ag it f.l p.H) λn H=>(eY (λv H=>az f.g.ag e (f.l.set x<|O v) H) ((kj n).map λ(i:Nat)=>V.aa (i:Int)) H).i λw H=>.ok (V.ae H.length)<|H++[.af w]) T)
end
theorem aaZ{h a:cz}(b:h.Ns d m)(c:h.get? d=O o)(h2:a.get? d=O o):a.Ns d m:=by
 refine ej b λp f j q hd k l=>?_;rw[c] at q;exact f8 o f j h2 (cS q▸hd) k l
section
variable{g:Gx}{Q:ku->ay->Prop}{F:ak->ay->Prop}{scope:c4}{x i:Nat}{B y:aw}{e it:E}{M j:aX}{G N u spos np cpos:dq}
theorem LS{w:Wt g}{q:Pt w.f}{r:R<|List V}(T:Ts (w.at q) (r.i λG H=>.ok (.aU,w.l.set i<|O<|.ae H.length)<|H++[.af G]) Q F)(K:jm g.c.aS.scope g.ns i y=I)(a u:aH):
  Tc w.f g.c.P a u q.z r (aec MM g.A F (O<|Fa (.Name y N) g.c.aS) (λ_=>Q .next) (.ref a) u<|.ok .next):=
 ⟨λe=>T.ne (by rw[e];rfl),λus z H s ys n oC L e le ⟨h,M,S⟩ P hr W=>by
  rw[e] at T;have k:=(S.sC<|ou _ _ _).LM hr W;obtain⟨A,v,l⟩:=id q.st;have X:∀q∈g.c.P,q∈(u,oC)::g.c.P:=λq Y=>.tail _ Y;refine ly (uy K) λZ h2 h3=>FE<|wZ (c:=g.c.P'<|(u,oC)::g.c.P) (v:=.ae H.length) (g.wP _ X).ok ⟨w.m,w.cs,w.cm,⟨h,_,k⟩,(sB l w.fx g.ok.jk q.lo).au<|le.q .ce,sw.re w.fx⟩ (aD a J (by rw[S.cW.bK];exact mT)) Z h2 h3 λB m=>?_;obtain⟨o,f,j,⟨p,c,b⟩,t,d⟩:=m;exact aD L (aaZ P (S.q<|.head _)<|b.q<|.head _) λh' hs=>T.st ⟨o,f,j,⟨p,c,b.zG hs.extBut⟩,sB b d.re g.ok.jk t,d.re⟩ (le.q .ce) bk⟩
theorem LU{pv:aX}{w:Wt g}(a:oy (.ListComp M [⟨.Name B G,j,[],0⟩] scope u) (O<|.Name y N) spos.line g.c.aS=pure I)
  (h:bl MM g.A (ae7 (.ListComp M [⟨.Name B G,j,[],0⟩] scope u) scope g.c.aS (firstIterPos [⟨.Name B G,j,[],0⟩] u) (AC []) (firstAsync [⟨.Name B G,j,[],0⟩]) (firstIter [⟨.Name B G,j,[],0⟩] g.c.aS)<|O<|Fa (.Name y N) g.c.aS) (λ_=>Q .next) F w.s):
  bl MM g.A (exec (.Assign [.Name y N] (.ListComp M [⟨.Name B G,j,[],0⟩] scope u) spos) g.c.aS) Q F w.s:=by
 rw[exec_Assign_Name_used _ _ _ _ a];refine bu<|uV<|bu ?_;exact bu<|mm h (λb d c=>dB<|dB c) λb b e=>e
theorem LV{r:R<|List V}{w:Wt g}(T:Ts w ((r.i λa H=>R.ok (V.ae H.length)<|H++[.af a]).i λv H=>.ok (.aU,w.l.set i<|O v) H) Q F):Ts w (r.i λa H=>.ok (.aU,w.l.set i<|O<|.ae H.length)<|H++[.af a]) Q F:=by
 cases r<;>exact T
theorem aa0(b:oy (.ListComp M [⟨.Name B G,j,[],0⟩] scope u) (O<|.Name y N) spos.line g.c.aS=pure I)(hs:∀(c:dA) (x:ak),uW j c x=pure x)(a:pX g.c.aS.scope scope g.ns x B=I)
  (d:∀w:Wt g,bj w.f it j)(m:∀f:Fx,(∃P o,f.g=g.wP P o)->f.bo.scope=kh g.c.aS.scope scope->bj f e M)(p:jm g.c.aS.scope g.ns i y=I):di g (.i i<|.i e x it) (.Assign [.Name y N] (.ListComp M [⟨.Name B G,j,[],0⟩] scope u) spos):=λw Q F T=>by
 have a:=zL a;have T:Ts w ((az g.ag it w.l w.H).i λv H=>((x9 v H λk H=>eY (λv H=>az g.ag e (w.l.set x<|O v) H) k H).i λl H=>R.ok (V.ae H.length)<|H++[.af l]).i λv H=>.ok (.aU,w.l.set i<|O v) H) Q F:=by
  have T:Ts w (((az g.ag it w.l w.H).i λv H=>(x9 v H λk H=>eY (λv H=>az g.ag e (w.l.set x<|O v) H) k H).i λl H=>R.ok (V.ae H.length)<|H++[.af l]).i λv H=>.ok (.aU,w.l.set i<|O v) H) Q F:=T
  cases h:az g.ag it w.l w.H<;>rw[h] at T<;>exact T
 exact LU (pv:=j) b<|FK J (hs _) (zM (f:=w.f) a) a.aq a.zK<|T.nx (d w w.p) λq v s le r T=>LN r a m<|LS (LV T) p
theorem aa1(l:g.A.handled=U)(m:gu cx.K ey "range"=O U)(o:iu g.c.aS.scope "range"=I)(hp:fL j=I)
  (b:oy (.ListComp M [⟨.Name B G,.Call (.Name "range" np) [j] [] cpos,[],0⟩] scope u) (O<|.Name y N) spos.line g.c.aS=pure I)(hs:∀(c:dA) (x:ak),uW (.Call (.Name "range" np) [j] [] cpos) c x=pure x)(a:pX g.c.aS.scope scope g.ns x B=I)
  (d:∀w:Wt g,bj w.f it j)(p:∀f:Fx,(∃P s,f.g=g.wP P s)->f.bo.scope=kh g.c.aS.scope scope->bj f e M)(t:jm g.c.aS.scope g.ns i y=I):di g (.i i<|.lE e x it) (.Assign [.Name y N] (.ListComp M [⟨.Name B G,.Call (.Name "range" np) [j] [] cpos,[],0⟩] scope u) spos):=λw Q F T=>by
 have a:=zL a;have T:Ts w (((az g.ag it w.l w.H).i zH).i λn H=>((eY (λv H=>az g.ag e (w.l.set x<|O v) H) ((kj n).map λ(i:Nat)=>V.aa (i:Int)) H).i λk H=>R.ok (V.ae H.length)<|H++[.af k]).i λv H=>.ok (.aU,w.l.set i<|O v) H) Q F:=by
  have T:=Ts.cg (bJ (λr:R V=>r.i λv H=>R.ok (Fl.aU,w.l.set i<|O v) H)<|D9 (az g.ag it w.l w.H) λn H=>(eY (λv H=>az g.ag e (w.l.set x<|O v) H) ((kj n).map λ(i:Nat)=>V.aa (i:Int)) H).i λk H=>.ok (V.ae H.length)<|H++[.af k]) T
  cases h:(az g.ag it w.l w.H).i zH<;>rw[h] at T<;>exact T
 exact LU (pv:=j) b<|FK J (hs _) (zM (f:=w.f) a) a.aq a.zK<|T.nx (Ea m o hp<|d w) λq n A le z T=>LQ l z a p<|LS (LV T) t
end
theorem Zs.i{z:Zs}:z.le ⟨q::z.Z,z.ad⟩:=⟨λa h=>.tail _ h,[],(cM _).symm⟩
theorem aa2{M:Type}[DecidableEq M]:∀(more a:List<|M×ak),((a++more).map (·.1)).Nodup->FL a more=a++more:=by
 intro more
 induction more with
 |nil=>
  intro a k;simp[FL]
 |cons b more d=>
  intro a h;have i:a.any (λq=>decide (q.1=b.1))=false:=by
   rw[adG];intro q j e;rw[dz,mY] at h;exact h.2.2 q.1 (om j) b.1 (by simp)<|D e
  have e1:stored a b.1 b.2=a++[b]:=by
   unfold stored;rw[i];rfl
  have e2:FL a (b::more)=FL (stored a b.1 b.2) more:=J;rw[e2,e1,d (a++[b]) (by simpa using h)];simp
section
variable{c:Fm}{z:Zs}{H:Hp}{m:aw->Option ak}{cs:aV}{s:ay}{g:cz}{G:List aV}
theorem bG.toZ{P:aV}(S:bG (c.P'<|(d,o)::P) z H m cs s g G):bG (c.P' P) ⟨(d,o)::z.Z,z.ad⟩ H m cs s g G:=by
 have hp:=Ko (c.P' P) z cs G [(d,o)];exact S.y (λq a=>hp.mem_iff.mp a) ((hp.map _).nodup_iff.mpr S.nd)<|S.cW.au λq h=>.tail _ h
theorem g9.j{P:aV}(L:g9 nm (c.P' P) b z m cs l):g9 nm (c.P'<|q::P) b z m cs l:=by
 intro j u d;refine(L j u d).elim λv h=>⟨v,h.1,?_⟩;have V:=h.2;exact V.u (λV=>V.imp_right λh=>h.elim λo h=>h.elim λe h=>h.elim λi h=>⟨o,e,i,.tail _ h.1,h.2⟩) λV=>V.elim λa h=>h.elim λo h=>⟨a,o,h.1,.tail _ h.2.1,h.2.2⟩
theorem Xs.i{P:aV}(X:Xs (c.P'<|q::P) z H m cs x s):Xs (c.P' P) z H m cs x s:=by
 obtain⟨e,G,d,a,h,k1,i,j,k,l,o,R,r,nd,b,sm⟩:=X;exact⟨e,G,d,a,h,k1,i,j,k,l,o,K4 R λq t=>.tail _ t,r,(iQ.mp nd).2,b,sm⟩
end
noncomputable def LW(ks:List V)(z:Zs)(a:List V)(ps:List<|ak×ak):Prop:=aR z ks (ps.map (·.1))/\aR z a (ps.map (·.2))
noncomputable def zO:List V->Option (List<|List Nat)
 |[]=>O []
 |.ah x::r=>(zO r).map (x::·)
 |_=>U
noncomputable def zP:List V->Option (List Int)
 |[]=>O []
 |.aa x::r=>(zP r).map (x::·)
 |_=>U
theorem aa3:∀{a:List<|List Nat},zO ks=O a->ks=a.map .ah:=by
 induction ks with
 |nil=>exactλh=>by cases h;rfl
 |cons k ks b=>
  intro a h
  induction k using V.casesOn with
  |ah x=>exact(fX.mp h).elim λd h=>h.2▸bJ (V.ah x::·) (b h.1)
  |_=>exact ba h
theorem aa4:∀{a:List Int},zP ks=O a->ks=a.map .aa:=by
 induction ks with
 |nil=>exactλh=>by cases h;rfl
 |cons k ks b=>
  intro a h
  induction k using V.casesOn with
  |aa x=>exact(fX.mp h).elim λd h=>h.2▸bJ (V.aa x::·) (b h.1)
  |_=>exact ba h
section
variable{B M:Type}[DecidableEq M]{knd:KeyKind cx.dh cx.w M}{F:B->V}{f:B->M}
theorem aa5(d:∀z y v,aA z (F y) v->knd.is (f y) v=I)(a:List B):∀(ps:List<|ak×ak),aR z (a.map F) (ps.map (·.1))->Carries knd ps ((a.map f).zip (ps.map (·.2)))/\a.length=ps.length:=by
 induction a with
 |nil=>
  intro ps h
  induction ps using aW with
  |nil=>exact⟨bk,J⟩
  |cons _ _=>exact h.elim
 |cons y a b=>
  intro ps h
  induction ps using aW with
  |nil=>exact h.elim
  |cons p ps=>exact⟨⟨d _ _ _ h.1,J,(b ps h.2).1⟩,bJ (·+1) (b ps h.2).2⟩
theorem aa6(e:∀z y v u,aA z (F y) v->knd.is (f y) u=I->aA z (F y) u)(b:List B):∀(a:List V) (ps:List<|ak×ak) (d:List eA),LW (b.map F) z a ps->Pairs knd d ((b.map f).zip (ps.map (·.2)))->kb z ((b.map F).zip a) d:=by
 induction b with
 |nil=>
  intro a ps d h q
  cases q
  exact bk
 |cons y b i=>
  intro a ps d h q
  induction ps using aW with
  |nil=>exact h.1.elim
  |cons p ps=>
  induction a using aW with
  |nil=>exact h.2.elim
  |cons u a=>
  cases q with
  |cons k1 j q=>exact⟨⟨e _ _ _ _ h.1.1 k1,j▸h.2.1⟩,i a ps _ ⟨h.1.2,h.2.2⟩ q⟩
end
theorem aa7{run:fi}{H:Hp}(ks:List V):cu run (ks.map .c) l H=.ok ks H:=by
 induction ks with
 |nil=>rfl
 |cons k ks a=>
  show(cu run (ks.map .c) l H).i (λb H=>.ok (k::b) H)=_;rw[a]
  rfl
noncomputable def El(ks:List V):Bool:=match zO ks with
 |some a=>decide (a.map sV).Nodup
 |none=>match zP ks with
  |some a=>decide (a.map id).Nodup
  |none=>C
noncomputable def n8(f:Fx):List E->List aX->Prop
 |[],[]=>True
 |e::b,d::a=>bj f e d/\n8 f b a
 |_,_=>False
section
variable{f:Fx}{p:Pt f}
theorem n8.bK{b:List E}:∀{a:List aX},n8 f b a->b.length=a.length:=by
 induction b with
 |nil=>exactλ{a} h=>match a with|[]=>rfl|_::_=>h.elim
 |cons e b d=>exactλ{a} h=>match a with|[]=>h.elim|_::_=>bJ (·+1)<|d h.2
theorem aa8{i:List E}:∀{d:List aX} {ks:List V} {h:List aX} {p:Pt f},n8 f i d->ks.length=i.length->n8 f (ks.map .c) h->Go (LW ks) p (cu f.g.ag i f.l p.H) (evalPairs<|pairTrees (h.map O) d f.bo t):=by
 induction i with
 |nil=>
  intro d ks h p j r l;refine dn λx=>?_
  induction d using aW with
  |cons _ _=>exact j
  |nil=>induction ks using aW with
   |cons _ _=>cases r
   |nil=>induction h using aW with
    |cons _ _=>exact l
    |nil=>exact x λQ E T=>evalPairs_nil<|T.i ⟨bk,bk⟩
 |cons v i A=>
  intro d ks h p j r l;refine dn λx=>?_
  induction d using aW with
  |nil=>exact j
  |cons L d=>induction ks using aW with
   |nil=>cases r
   |cons k ks=>induction h using aW with
    |nil=>exact l
    |cons M h=>exact x λQ E T=>evalPairs_cons<|(l.1 p).tA (r':=λN H=>(az f.g.ag v f.l H).i λu H=>(cu f.g.ag i f.l H).i λy H=>.ok (u::y) H) (λq a b e le F T=>have G:a=k:=by injection e with e _;exact e.symm
      bu ((j.1 q).nx (λq u P le K T=>bu<|uV<|dB<|(A j.2 (Nw r) l.2).nx (λq y si o rs T=>T.i ⟨aR.cons (aA.au (le.q o) _ _<|G▸F) rs.1,aR.cons (aA.au o _ _ K) rs.2⟩) T) T)) T
theorem LX{B M:Type}{dk:DecidableEq M}{knd:KeyKind cx.dh cx.w M}{F:B->V}{t:B->M}{a:List B}{l:List E}{A K:List aX}(hd:(a.map t).Nodup)(hi:∀z y v,aA z (F y) v->knd.is (t y) v=I)
  (ho:∀z y v u,aA z (F y) v->knd.is (t y) u=I->aA z (F y) u)(ok:∀L:Array eA,KeysOf knd L->DI cx.w L)(hl:(a.map F).length=l.length)(h0:(a.map F).length≠0)(Z:(a.map F).length<=15)
  (i:∀d:Fx,(∃P r,d.g=f.g.wP P r)->d.bo.scope=f.bo.scope->n8 d ((a.map F).map .c) A)(j:∀d:Fx,(∃P r,d.g=f.g.wP P r)->d.bo.scope=f.bo.scope->n8 d l K):bj f (.dct ((a.map F).map .c) l) (.Dict (A.map O) K Y):=λp Q E T=>by
 have T:Tk aA p ((cu f.g.ag ((a.map F).map .c) f.l p.H).i λks H=>(cu f.g.ag l f.l H).i λl H=>.ok (.dct<|ks.zip l) H) Q E:=T;rw[aa7] at T;have T:Tk aA p ((cu f.g.ag l f.l p.H).i λW H=>.ok (.dct<|(a.map F).zip W) H) Q E:=T;obtain⟨g,G,S⟩:=id p.st;have low:=S.fr.notModules<|aeM S.fK.nolimit;have N:=S.j (tk:=p.s.toks) (λb o e=>hJ (nZ #[] 0) e) (kt _ J)<|bF _;have r:∀q∈f.g.c.P,q∈(p.s.heap.objs.size,nZ #[] 0)::f.g.c.P:=λq hq=>.tail _ hq
 let d:Fx:=⟨f.g.wP _ r,f.bo,f.m,f.cs,f.l,f.jM,f.hV,f.aq,f.dZ⟩
 have i:=i d ⟨_,r,J⟩ J;have j:=j d ⟨_,r,J⟩ J;have n1:=i.bK.symm.trans<|c3 ..;have n2:=j.bK.symm.trans hl.symm;refine wpAny_Dict_walk (knd:=knd) (by rw[List.all_map];exact lr.mpr λ_ _=>J) (by rw[c3];exact n1.trans n2.symm) (λh=>h0<|n1.symm.trans<|bJ Nt<|adk.mp h) (by rw[c3,n1];exact Z)
  ((aa8 (f:=d) (p:=⟨p.z,p.H,_,⟨g,G,N⟩,g9.j (P:=f.g.c.P) p.lo⟩) j hl i) _ _ ⟨λh=>T.ne (by rw[h];rfl),λq W si e le pr=>?_,λx s z' H' e le X=>T.ex x s z' H' (by rw[e];rfl) le<|Xs.i X⟩)
 rw[show cu f.g.ag l f.l p.H=.ok W q.H from e] at T;obtain⟨h,G,S⟩:=id q.st;have ca:=aa5 hi a si pr.1;refine⟨_,ca.1,⟨_,#[],0,S.q<|.head _,⟨J,J,J⟩,J,(λe he=>by simp at he),.nil,.nil⟩,λh' R hs=>?_⟩;have mf:((a.map t).zip (si.map (·.2))).map (·.1)=a.map t:=adY (by rw[c3,c3,ca.2];exact bF _);rw[aa2 _ _ (mf.symm▸hd),EX] at R;obtain⟨o,L,ep,ho',⟨x1,x2,x3⟩,hdd,hkeys,k,_⟩:=R;obtain⟨cl,dd,dt,sl⟩:=o
 cases x1;cases x2;cases x3;cases hdd
 exact T.ok (p.i ⟨h,G,(S.xb hs ho').toZ⟩<|le.q Zs.i) _ _ J (le.q Zs.i) ⟨p.s.heap.objs.size,L,ep,J,.inl<|.head _,⟨ok L hkeys,low⟩,kb.au Zs.i _ _<|aa6 ho a W si _ pr k⟩
theorem aa9{ks:List V}{x:List E}{i j:List aX}(a:El ks=I)(M:ks.length=x.length)(N:ks.length≠0)(l:ks.length<=15)(o:∀b:Fx,(∃P F,b.g=f.g.wP P F)->b.bo.scope=f.bo.scope->n8 b (ks.map .c) i)(r:∀b:Fx,(∃P F,b.g=f.g.wP P F)->b.bo.scope=f.bo.scope->n8 b x j):
  bj f (.dct (ks.map .c) x) (.Dict (i.map O) j A):=by
 unfold El at a
 cases G:zO ks with
 |some Q=>
  rw[G] at a;obtain rfl:=aa3 G;exact LX (D a) (λz y v h=>h.1.elim λt e=>e▸AL cx.dh cx.w (sV y) t) (λz y v u h q=>⟨adZ q,h.2⟩)
   (λR d=>.inr λe K=>(d e K).elim λk h=>(adZ h.1).elim λt ht=>⟨k,t,ht,h.2⟩) M N l o r
 |none=>
  rw[G] at a
  cases L:zP ks with
  |none=>rw[L] at a;cases a
  |some Q=>
   rw[L] at a;obtain rfl:=aa4 L;exact LX (D a) (λz y v h=>h.elim λt e=>e▸AK cx.dh cx.w y t) (λz y v u h q=>ad0 q)
    (λR d=>.inl λe K=>(d e K).elim λk h=>(ad0 h.1).elim λt ht=>⟨k,t,ht,h.2⟩) M N l o r
theorem aba:bj f (.dct [] []) (.Dict [] [] a):=λp Q E T=>by
 obtain⟨g,G,S⟩:=id p.st;rw[eval_Dict_empty];refine bu<|uV ?_;exact uT<|T.ok (p.i (p.st.q J) .i) _ _ J .i ⟨p.s.heap.objs.size,#[],0,J,.inl<|.head _,⟨.inl (λe b=>by simp at b),S.fr.notModules<|aeM S.fK.nolimit⟩,bk⟩
end
section
variable{z i:Zs}{o:b4}{a:aH}{g:aV}{k:Nat}
noncomputable def xh(k:Nat)(o:b4):Prop:=match o with
 |.af b=>∀x∈b,RL k x
 |.aQ _ d=>∀q∈d,RL k q.2
 |.i=>True
theorem g8.rl(x:g8 z o a g):xh z.ad.length o:=by
 induction x with
 |af r q=>exactλx b=>(r.i x b).elim λ_=>aA.rl x
 |aQ ok r=>exactλx b=>(r.i x b).elim λ_=>aA.rl x.2
 |i=>trivial
theorem g8.u(le:z.lk k i)(h:xh k o)(x:g8 z o a g):g8 i o a g:=by
 induction x with
 |af r q=>exact .af (r.u le h) q
 |aQ ok r=>exact .aQ ok<|r.u le h
 |i=>exact .i
theorem LY{Z b:aV}{ad r:List aH}:Zs.lk ad.length ⟨Z,ad++r⟩ ⟨b++Z,ad⟩:=
 ⟨λh=>h.elim (λh=>.inl<|dj _ h) .inr,λd h=>(p7 d).symm.trans h⟩
end
section
variable{c:Fm}{z:Zs}{H:Hp}{m:aw->Option ak}{cs:aV}{s:ay}
theorem St.bK(S:St c z H m cs s):H.length=z.ad.length:=S.casesOn λ_ _ S=>S.cW.bK
theorem St.rl(S:St c z H m cs s){i:Nat}{o:b4}(h:H[i]? =O o):xh z.ad.length o:=by
 obtain⟨g,b,S⟩:=S;exact cU (S.cW.cN h) λa d e hg L=>L.rl
theorem LZ{d:Type}{l:List d}{a b:d}(h:(l++[a])[n]? =O b)(e:n=l.length):a=b:=by
 rw[e,mT] at h;exact cS h
theorem abb{d:Type}{l:List d}(h:l.length=n+1):∃b a,l=b++[a]/\b.length=n:=by
 rcases Nc l with e|⟨b,a,e⟩
 ·rw[e] at h;cases h
 ·rw[e,Ah,bx] at h;exact⟨b,a,e.trans Ah,Nw h⟩
theorem St.abc{o:b4}{ad:List aH}{Z:aV}(S:St c ⟨Z,ad++[x]⟩ (H++[o]) m cs s)(h:H.length=ad.length)(hr:∀(i:Nat) (o:b4),H[i]? =O o->xh ad.length o)(u:xh ad.length o):
  ∃b,g8 ⟨b++Z,ad⟩ o x b/\St c ⟨b++Z,ad⟩ H m cs s:=by
 obtain⟨g,v,S⟩:=S;refine cU (S.cW.cN mT) λa b w hg L=>?_;have A:=LZ w h;refine eB (abb<|S.cW.qN.trans bx) λd y e j=>?_
 cases e
 have B:=LZ hg<|h.trans j.symm;rw[<-A] at L;rw[B] at S;refine⟨b,L.u LY u,g,d,?_⟩;have hp:(bP c ⟨b++Z,ad⟩ cs d).Perm (bP c ⟨Z,ad++[x]⟩ cs<|d++[b]):=by
  show(c.P++(cs++((b++Z)++d.flatten))).Perm (c.P++(cs++(Z++(d++[b]).flatten)));rw[Kn];refine sR _<|sR _ ?_;rw[b6];refine sS.trans ?_;rw[b6]
 refine bG.y S (λq E=>hp.mem_iff.mp E) ((hp.map _).nodup_iff.mpr S.nd) ⟨h,j,λi r F G t h2 K=>?_⟩;have l:=(fM.mp h2).1;exact(S.cW.dW i r F G ((p7<|h▸l).trans t) ((p7 l).trans h2)<|(p7<|j▸l).trans K).u LY<|hr i r t
end
section
variable{f:Fx}{p:Pt f}
theorem Zs.le.mr{z:Zs}{Z:aV}(h:∀q∈z.Z,q∈Z):z.le ⟨Z,z.ad⟩:=⟨h,[],(cM _).symm⟩
theorem abd(r:aA p.z v pv){d:Prop}(k:∀(Z:aV),(∀q∈p.z.Z,q∈Z)->St f.g.c ⟨Z,p.z.ad⟩ (o6 v p.H).2 f.m f.cs p.s->aA ⟨Z,p.z.ad⟩ (o6 v p.H).1 pv->d):d:=by
 refine dn λc=>?_;have keep:o6 v p.H=(v,p.H)->False:=λe=>c<|k p.z.Z (λ_ h=>h) (e▸p.st)<|e▸r
 induction v using V.casesOn with
 |ae a=>
  have e1:∀o,p.H[a]? =o->o6 (.ae a) p.H=match o with|some (.af i)=>(.af i,p.H.set a .i)|_=>(.ae a,p.H):=λo e=>e▸J
  rcases e:p.H[a]? with _|⟨i|_|_⟩
  ·exact keep<|e1 _ e
  ·obtain⟨g,j,S⟩:=p.st;refine cU (S.cW.cN e) λb u hb hg L=>?_;rw[e1 _ e,jO r hb] at k
   cases L with
   | @af _ _ l n t h2=>
   exact c<|k _ (λq h=>dj _ h) ⟨g,_,S.Yz hg⟩<|f8 b l n J (.inl<|fh _<|.head _) h2<|aR.au .i _ _ t
  ·exact keep<|e1 _ e
  ·exact keep<|e1 _ e
 |_=>exact keep J
theorem abe:∀{d:List ak} {p:Pt f},aR p.z as d->∀{b:Prop},(∀(Z:aV),(∀q∈p.z.Z,q∈Z)->St f.g.c ⟨Z,p.z.ad⟩ (mu as p.H).2 f.m f.cs p.s->aR ⟨Z,p.z.ad⟩ (mu as p.H).1 d->b)->b:=by
 induction as with
 |nil=>exactλ{_ p} r _ k=>k p.z.Z (λ_ h=>h) p.st r
 |cons v as i=>
  intro d p r b k
  induction d using aW with
  |nil=>exact r.elim
  |cons w d=>
   exact abd r.1 λZ h S j=>i (p:=p.i S<|.mr h) (aR.au (.mr h) _ _ r.2) λl e t rs=>k l (λq u=>e q<|h q u) t<|aR.cons (aA.au (z:=⟨Z,p.z.ad⟩) (.mr e) _ _ j) rs
theorem abf:∀(as:List V) (H:Hp),(mu as H).1.length=as.length:=by
 intro as
 induction as with
 |nil=>exactλ_=>J
 |cons v as b=>exactλH=>bJ (·+1)<|b _
end
section
variable{B:List (aw×ak)->(aw->Option ak)->aw->Option ak}{p:aw->Prop}[DecidablePred p](N:∀m,B [] m=m)(h1:∀n v r m,B ((n,v)::r) m=B r (if p n thenλy=>if y=n then some v else m y else m))
include N h1
theorem abg(a:List<|aw×ak):∀{m:aw->Option ak},x∉a.map (·.1)->B a m x=m x:=by
 induction a with
 |nil=>exactλd=>congrFun (N _) x
 |cons q r b=>
  intro m h;have h:=not_or.mp λq=>h<|d2.mpr q;refine(congrFun (h1 ..) x).trans<|(b h.2).trans ?_
  by_cases k:p q.1
  ·rw[aN k];exact a9 h.1
  ·rw[a9 k]
theorem L0{v:ak}(hp:p x)(a:List<|aw×ak):∀{m:aw->Option ak},(a.map (·.1)).Nodup->(x,v)∈a->B a m x=O v:=by
 induction a with
 |nil=>exactλg h=>ax h eU
 |cons q r d=>
  intro m b hm;have b:=iQ.mp b;refine(congrFun (h1 ..) x).trans<|(d2.mp hm).elim (λe=>?_)<|d b.2;subst e;rw[abg N h1 r b.1,aN hp];exact aN J
end
theorem En{kd:aw->Option AB}{v:ak}{a:List<|aw×ak}{m:aw->Option ak}(d:kd x=O .local):(a.map (·.1)).Nodup->(x,v)∈a->xG kd a m x=O v:=
 L0 (λb=>J) (λb b b b=>J) d a
theorem abh{kd:aw->Option AB}{v:ak}{a:List<|aw×ak}{m:aw->Option ak}(d:kd x=O .cell):(a.map (·.1)).Nodup->(x,v)∈a->bindC kd a m x=O v:=
 L0 (λb=>J) (λb b b b=>bJ _ (ite_not ..).symm) (λe=>nomatch d.symm.trans e) a
section
variable{c:Fm}{z:Zs}{H:Hp}{m:aw->Option ak}{cs:aV}{s:ay}
theorem Eo(c:Fm)(cs:aV)(z:Zs)(cells:aV)(a:List aV):((c.P++cs)++(cells++(z.Z++a.flatten))).Perm (cells++bP c z cs a):=by
 have e:(c.P++cs)++(cells++(z.Z++a.flatten))=((c.P++cs)++cells)++(z.Z++a.flatten):=by simp
 have b:cells++bP c z cs a=(cells++(c.P++cs))++(z.Z++a.flatten):=by simp[bP]
 rw[e,b];exact uQ _ sS
theorem Ep(c:Fm)(cs cells:aV)(z:Zs)(a:List aV):∀q∈bP c z cs a,q∈(c.P++cs)++(cells++(z.Z++a.flatten)):=λq b=>by
 rcases eT.mp b with h|h
 ·exact fh _<|fh _ h
 ·rcases eT.mp h with h|h
  ·exact fh _<|dj _ h
  ·exact dj _<|dj _ h
theorem Er(c:Fm)(cs cells:aV)(z:Zs)(a:List aV)(h:(((c.P++cs)++(cells++(z.Z++a.flatten))).map (·.1)).Nodup):((bP c z cs a).map (·.1)).Nodup:=by
 have:=((Eo c cs z cells a).map (·.1)).nodup_iff.mp h;rw[dz] at this;exact(mY.mp this).2.1
inductive xi(K:cT)(fa:aH)(F:List cA)(sc:c4)(Bd:ow->Prop):Prop
 |mk (oc:ak) (od:Option aH) (osl:Array (Option ak)) (name qual:aw) (params:Arguments) (dV kV doc pm:ak) (an:Option aH) (cdv ct:ak) (ho:K.lookup fa=some ⟨oc,od,.func (fnOf name qual params F sc dV kV doc pm an cdv ct),osl⟩) (hc:codeIn K cdv qual=true)
  (hb:Bd (fnOf name qual params F sc dV kV doc pm an cdv ct))
theorem xi.u{K:cT}{fa:aH}{F:List cA}{sc:c4}{Bd b:ow->Prop}(h:xi K fa F sc Bd)(k:∀d e a f,K.lookup fa=O ⟨d,e,.func f,a⟩->Bd f->b f):xi K fa F sc b:=by
 cases h with
 |mk d e a name qual params j l doc pm o g q i hc hb=>exact .mk d e a name qual params j l doc pm o g q i hc<|k _ _ _ _ i hb
structure n9(K:cT)(fa:aH)(ps:List aw)(F:List cA)(sc:c4):Prop where
 ex:xi K fa F sc λf=>∀(s:ay) (M:List ak),K.In s.heap->M.length=ps.length->AH s f ⟨M,[]⟩ (ps.zip M)
 L5:(ps.all λy=>sc.names.lookup y==some .local||sc.names.lookup y==some .cell)=true
 mQ:((AI 0 sc.names []).map (·.1)).Nodup
 nd:ps.Nodup
 co:sc.isCoroutine=false
 Es:sc.isGenerator=false
 aq:sc.kind=.function
theorem n9.kd{K:cT}{fa:aH}{F:List cA}{sc:c4}(a:n9 K fa ps F sc)(h:x∈ps):sc.names.lookup x=O .local∨sc.names.lookup x=O .cell:=
 (jr.mp<|lr.mp a.L5 x h).imp beq_iff_eq.mp beq_iff_eq.mp
theorem n9.i{K:cT}{fa:aH}{ps:List aw}{F:List cA}{sc:c4}(a:n9 K fa ps F sc)(M:List ak):((ps.zip M).all λy=>sc.names.lookup y.1==O .local||sc.names.lookup y.1==O .cell)=true:=
 lr.mpr λy b=>lr.mp a.L5 y.1 (ad1 b).1
theorem abi{ps:List aw}:∀{M:List ak},M.length=ps.length->(ps.zip M).map (·.1)=ps:=λh=>adY<|b7 h.symm
noncomputable def sD(run:fi)(np nl:Nat)(body:List S)(as:List V)(H:Hp):R V:=if as.length=np then(aZ run body (as.map O++jp (nl-np) U) H).i λx H=>match x with
 |(.am v,_)=>.ok v H
 |(.aU,_)=>.ok .none H
 |_=>.j else .j
structure xj(np nl:Nat)(ns:List aw):Prop where
 np:np=(ns.take np).length
 nl:nl=ns.length
 nd:ns.Nodup
theorem abj{as:List V}{k i:Nat}{v:V}(h:(as.map O++jp k U)[i]? =O (O v)):as[i]? =O v:=by
 by_cases q:i<as.length
 ·rw[p7 ((c3 ..).symm▸q),qb] at h
  cases e:as[i]? with
  |none=>rw[e] at h;exact ba h
  |some u=>rw[e] at h;exact cS h
 ·rw[qY (sL<|(c3 ..).symm▸q)] at h;exact nomatch (List.mem_replicate.mp<|mi h).2
theorem aR.abk{a:List V}{b:List ak}(r:aR z a b){i:Nat}{x:V}(h:a[i]? =O x):∃v,b[i]? =O v/\aA z x v:=by
 rcases r.cN i with⟨e,_⟩|⟨g,v,e,d,r⟩
 ·exact nomatch e.symm.trans h
 ·exact aD v d<|cS (e.symm.trans h)▸r
theorem Et{ns:List aw}(h:i<ns.length):dy ns i=ns[i]:=by
 unfold dy;rw[Ad,li h];rfl
theorem L6{np nl:Nat}{ns:List aw}{fa:aH}{F:List cA}{sc:c4}{as:List V}{M:List ak}{qual:aw}{b:ak}{L':aH}{c₂:Fm}{cells:aV}(N:xj np nl ns)(u:n9 cx.K fa (ns.take np) F sc)
  (G:as.length=np)(d:aR z as M)(l:c₂.aS=jU qual sc L' fa b)(R:c₂.L=L')(Y:s0 (bindC (jU qual sc L' fa b).kindOf ((ns.take np).zip M) λT=>U) (AI (L'+1) sc.names []) cells)
  (g:St c₂ z H (xG (jU qual sc L' fa b).kindOf ((ns.take np).zip M) λT=>U) cells s):jQ (dy ns) c₂ z (as.map O++jp (nl-np) U) H s:=by
 have hlen:=d.j.symm.trans<|G.trans N.np;have lh:=(abi hlen).symm▸u.nd;have w:np<=ns.length:=N.np.symm▸N5 ..;have hlen':(as.map O++jp (nl-np) (U:Option V)).length=ns.length:=by
  rw[bx,c3,List.length_replicate,G,N.nl,Nat.add_sub_cancel' w]
 refine⟨_,_,_,g,λi v t=>?_,by rw[l];exact Y,λi j t K e=>?_,?_,λi h=>NL λq=>h ?_,by rw[l];exactλx hk=>FM sc.names (L'+1) []<|.inl hk⟩
 ·refine aB (d.abk<|abj t) λL e2 r=>?_;have k:=hlen▸(fM.mp e2).1;have W:(ns.take np)[i]? =O (dy ns i):=by
   rw[Et (iO k<|N5 ..),li k,List.getElem_take]
  have A:(dy ns i,L)∈(ns.take np).zip M:=mi<|List.getElem?_zip_eq_some.mpr ⟨W,e2⟩;refine aD L r ?_;rw[l];unfold lZ
  rcases u.kd (ad1 A).1 with hk|hk
  ·rw[show(jU qual sc L' fa b).kindOf (dy ns i)=_ from hk];exact .inl ⟨R.symm,En hk lh A⟩
  ·rw[show(jU qual sc L' fa b).kindOf (dy ns i)=_ from hk];obtain⟨a,P⟩:=Aw.mp<|FM sc.names (L'+1) []<|.inl hk;exact aB (D2 Y P) λo h1 h2=>cK a o P (dj _ h1)<|h2.trans<|bJ _<|abh hk lh A
 ·rw[hlen'] at t K;rw[Et t,Et K] at e;exact(List.getElem_inj N.nd).mp e
 ·have:=u.mQ;rw[Oe sc.names 0 (L'+1) [] [] J] at this;rw[l];exact this
 ·rw[hlen'] at q;unfold dy;rw[Ad,EP (sL q)];rfl
theorem zQ{run:fi}{np nl:Nat}{body:List S}{as:List V}{H:Hp}(h:sD run np nl body as H≠ .j):as.length=np:=NL λq=>h<|a9 q
theorem zR{run:fi}{np nl:Nat}{body:List S}{as:List V}{H:Hp}(a:as.length=np):sD run np nl body as H=(aZ run body (as.map O++jp (nl-np) U) H).i λx H=>match x with
  |(.am v,_)=>.ok v H
  |(.aU,_)=>.ok .none H
  |_=>.j:=aN a
end
set_option backward.match.sparseCases true in
noncomputable abbrev sE(Q:ak->ay->Prop)(E:ak->ay->Prop):s1->ay->Prop:=λr s=>match r with
 |.ok (.ret v)=>Q v s
 |.ok _=>False
 |.error e=>E e s
noncomputable abbrev Eu(c:Fm)(m:aw->Option ak)(g':cz):Prop:=∀j,mj (dF<|c.aS::c.iq) g' j->∃a,mj (dF c.iq) c.nY a/\Fr a c.L j m/\lu c.A₀ c.lY c.iq a/\cx.K.In a/\oz cx.p cx.f3 cx.lW cx.mg cx.mb a/\s5 (dF c.iq) a/\(∀b,j.get? b=U->a.get? b=U)
noncomputable def Fm.ez(c:Fm)(A:dN)(L:aH)(aS:dA)(g:cz)(cs:aV):Fm:={A₀:=A,lY:=c.lY,iq:=c.aS::c.iq,L:=L,aS:=aS,nY:=g,P:=c.P++cs,eP:=c.eP}
section
variable{c:Fm}{z:Zs}{H:Hp}{m:aw->Option ak}{cs:aV}{s:ay}{A':dN}{L':aH}{G:dA}{g' j:cz}{m':aw->Option ak}{cs':aV}{lv:List aV}
theorem abl(w:Eu c m g')(a:bG (c.ez A' L' G g' cs) z H m' cs' s j lv):St c z H m cs s:=AZ (w j a.ir) λe g d h i k l t=>iU d.ns λx A F u hr=>⟨e,lv,g,⟨lz x A F (a.fr.keep _ _ u) hr,λb o q=>a.fr.keep b o<|d.keep b o q,d.above⟩,λq K=>have N:=a.nw q (Ep c cs cs' z lv q K)
   ⟨N.1,λL=>ba<|(L▸N.2.2).symm.trans u,t _ N.2.2⟩,h,i,k,l,Er c cs cs' z lv a.nd,a.cW,a.fA⟩
theorem L7(F:Eu c m g')(g:mj (dF<|c.aS::c.iq) g' j)(h:qM c.lY j (c.aS::c.iq) a (bP (c.ez A' L' G g' cs) z cs' lv) x)(i:j.UpToSlots x)(d:((bP (c.ez A' L' G g' cs) z cs' lv).map (·.1)).Nodup)(k:kc z H lv)
  (b:s={c.eP with heap:=s.heap,toks:=s.toks}):Xs c z H m cs (.ref a) {s with heap:=x}:=
 AZ (F j g) λe l o q t u w A=>⟨a,j,e,lv,J,l,o,q,t,u,w,K4 h<|Ep c cs cs' z lv,i,Er c cs cs' z lv d,k,by rw[b]⟩
end
section
variable{f:Fx}{p:Pt f}{A':dN}{run:fi}{np nl:Nat}{body:List S}{ns:List aw}{fa:aH}{F:List cA}{sc:c4}{as:List V}{args:Args}{M:List ak}{Q E:ak->ay->Prop}
noncomputable abbrev uB(run:fi)(ns:List aw)(A':dN)(sc:c4)(body:List S)(F:List cA):Prop:=∀g:Gx,g.ag=run->g.ns=ns->g.A=A'.deeper g.c.aS->g.c.aS.scope=sc->g.hd=C->kg g body F
theorem L8(N:xj np nl ns)(l:n9 cx.K fa (ns.take np) F sc)(SB:uB run ns A' sc body F)(u:A'.frames=f.g.A.frames)(fg:A'.handled=f.g.A.handled)(hun:A'.units+3<m0)(w:A'.depth<qd)
  (has:aR p.z as M)(X:xi cx.K fa F sc λg=>AH p.s g args<|(ns.take np).zip M)(T:Tk aA p (sD run np nl body as p.H) Q E):ky MM A' (.call (.ref fa) args) (sE Q E) p.s:=by
 have hl:=zQ T.ne;rw[zR hl] at T;obtain⟨oc,od,osl,name,qual,params,dV,kV,doc,pm,an,A,ct,ho,hcd,hbind⟩:=X;obtain⟨g,o,S⟩:=id p.st;refine Km S.jl S.fr S.dv S.nw S.fK f.g.ok.XB f.g.ok.TB S.jN S.ir (u.trans f.g.fr) f.g.ok.wR f.g.ok.aq ho hcd w hbind (l.i M) l.mQ (λg' L' K tk cells FG F' N' Y B' X' T' D' hlt hgt hcn L=>?_) l.co l.Es l.aq;have L:Eu f.g.c f.m g':=L
 let b:Fm:=f.g.c.ez A' L' (jU qual sc L' fa A) g' f.cs
 have P:=Eo f.g.c f.cs p.z cells o;have W:bG b p.z p.H (xG (jU qual sc L' fa A).kindOf ((ns.take np).zip M) λξ=>U) cells {p.s with heap:=K,toks:=tk} g' o:=
  ⟨.refl,F',λq hq=>N' q<|P.mem_iff.mp hq,B',X',T',D',(P.map _).nodup_iff.mpr<|zt S.nd hcn λq hq r hr=>uJ (hlt r hr)<|hgt q hq,S.cW,by rw[S.fA];rfl⟩
 let Z:Gx:=⟨run,ns,C,b,A'.deeper b.aS,bJ (NP (b.aS::·))<|u.trans f.g.fr,⟨J,l.aq,J,J,f.g.ok.XB,f.g.ok.TB,J,λx hk=>FM sc.names (L'+1) []<|.inl hk⟩,f.g.fg.imp fg.trans λ⟨e,oe,ws,h1,h2,h3⟩=>u4 e oe ws (fg.trans h1) (fh _ h2) h3,hun⟩
 obtain⟨m,cs,cm,st,lo,fx⟩:=L6 N l hl has J J Y ⟨g',o,W⟩;refine SB Z J J J J J ⟨p.z,p.H,_,_,m,cs,cm,st,lo,fx⟩ _ _ ⟨λe=>T.ne (bJ (R.i · _) e),λv fl pfl e le fr=>?_,λx s₁ z' H' e le X=>?_,PassesOwn.leaving⟩
 ·obtain⟨j,lv,a⟩:=v.st;have St':=abl L a;rw[show aZ run body (as.map O++jp (nl-np) U) p.H=_ from e] at T;exact zF fr (λT=>T.ok (p.i St' le) _ _ J le wU) (λT=>(T.ne J).elim) (λT=>(T.ne J).elim) (λ_ _ r T=>T.ok (p.i St' le) _ _ J le r) T
 ·have out:∀{x s},Xs f.g.c z' H' f.m f.cs x s->E x s:=T.ex _ _ _ _ (bJ (R.i · _) e) le
  rcases X with⟨m',cs',X⟩|⟨_,X⟩
  ·obtain⟨e₁,G,j,lv,rfl,T₁,F₁,B₁,K₁,P₁,D₁,R₁,U₁,t,L₁,d⟩:=X;exact Y4 B₁ F₁ R₁ rfl U₁ λh' i k=>out<|L7 L T₁ i k t L₁ d
  ·obtain⟨e₁,h,m',cs',j,lv,rfl,hm,a⟩:=X;exact Y6 a.jl hm a.fr a.nw J l.aq λh' i k=>out<|L7 L a.ir i k a.nd a.cW<|bJ (λs:ay=>{s with heap:=s₁.heap}) a.fA
theorem L9(N:xj np nl ns)(i:n9 cx.K fa (ns.take np) F sc)(SB:uB run ns A' sc body F)(e:A'.frames=f.g.A.frames)(fg:A'.handled=f.g.A.handled)(g:A'.units+3<m0)(a:A'.depth<qd)
  (b:aR p.z as M)(T:Tk aA p (sD run np nl body as p.H) Q E):ky MM A' (.call (.ref fa) ⟨M,[]⟩) (sE Q E) p.s:=
 L8 N i SB e fg g a b (i.ex.u λd d d d d h=>h p.s M p.st.dv<|b.j.symm.trans<|(zQ T.ne).trans N.np) T
end
noncomputable def Ev:rk->E
 |.i i=>.l<|i+1
 |.j v=>.c v
noncomputable def qT(a:List<|At×rk):List S:=a.map λq=>.cP (.l 0) q.1<|Ev q.2
theorem abm{fs:List<|At×V}:a∉fs.map (·.1)->fD fs a v=fs++[(a,v)]:=by
 induction fs with
 |nil=>exactλ_=>J
 |cons q fs b=>
  intro h;have h:=not_or.mp λe=>h<|d2.mpr e;exact(a9 λe=>h.1 e.symm).trans (bJ (q::·)<|b h.2)
theorem Ma{as:List V}{b:Prop}(h:nj as ((a,d)::e)=O fs)(k:∀v c,nj as e=O c->fs=(a,v)::c->(∀run h H,az run (Ev d) (h::as.map O) H=.ok v H)->(d=.j v∨v∈as)->b):b:=by
 cases d with
 |j v=>exact aB (fX.mp<|h) λc h2 g=>k v c h2 g.symm (λ_ _ _=>J)<|.inl J
 |i i=>exact aB (oq.mp<|h) λv l h4=>aB (fX.mp h4) λc h2 g=>k v c h2 g.symm (λrun h H=>show(match(as.map O)[i]? with|some (some v)=>R.ok v H|_=>.j)=_ by rw[qb,l];rfl)<|.inr<|mi l
theorem abn{run:fi}{cl:eX}{as:List V}{a:List<|At×rk}:∀{b pre:List<|At×V} {H:Hp},nj as a=O b->((pre.map (·.1))++a.map (·.1)).Nodup->H[h]? =O (.aQ cl pre)->
  aZ run (qT a) (O (.ae h)::as.map O) H=.ok (.aU,O (.ae h)::as.map O) (H.set h<|.aQ cl<|pre++b):=by
 induction a with
 |nil=>
  intro b pre H i _ g
  cases i
  rw[cM];exact(fM.mp g).elim λj e=>bJ (R.ok _)<|e▸(Nu j).symm
 |cons q a k=>
  intro b pre H i o g;refine Ma i λv r h2 s t _=>?_;have d:=o;have u:jY (.ae h) q.1 v H=.ok () (H.set h<|.aQ cl<|pre++[(q.1,v)]):=(show jY (.ae h) q.1 v H=match H[h]? with|some (.aQ c b)=>.ok () (H.set h<|.aQ c<|fD b q.1 v)|_=>.j from J).trans
   (by rw[g,<-abm λm=>(mY.mp d).2.2 _ m _ (.head _) J])
  show(((az run (Ev q.2) (O (.ae h)::as.map O) H).i λv H=>(jY (.ae h) q.1 v H).i λ_ H=>R.ok (Fl.aU,O (V.ae h)::as.map O) H).i λx H=>match x with|(.aU,l)=>aZ run (qT a) l H|x=>.ok x H)=_;rw[t];show((jY (.ae h) q.1 v H).i λ_ H=>R.ok (Fl.aU,O (V.ae h)::as.map O) H).i _=_;rw[u,s];refine(k h2 (by rw[dz,b6];exact d)<|oi (fM.mp g).1).trans ?_;rw[oo,b6]
  rfl
theorem abo{as:List V}(c:∀x∈as,RL k x):∀{b:List<|At×V},(∀q∈a,∀v,q.2=.j v->RL k v)->nj as a=O b->∀q∈b,RL k q.2:=by
 induction a with
 |nil=>intro b _ h;cases h;exactλ_ h=>ax h eU
 |cons q a d=>exactλhc h=>Ma h λv g h2 i _ j x l=>(d2.mp<|i▸l).elim (λe=>by rw[e];exact j.elim (hc _ (.head _) v)<|c v)<|d (λq m=>hc q<|.tail _ m) h2 x
section
variable{f:Fx}{p:Pt f}{Q E:ak->ay->Prop}{cl:eX}{j:aH}{as:List V}{i:List ak}
noncomputable abbrev Mb(A:dN)(a:aH)(i:List ak):dN:=A.under<|.builtin "type.__call__" ⟨.ref a::i,[]⟩
theorem abp(h:ky MM A a (sE (λv s=>v=.none/\Q (.ref x) s) E) s):ky MM A a (InitBack x<|sE Q E) s:=
 codeAny_mono h λr s h=>by rcases r with e|(v|_|_|_)<;>exact h
theorem zS{s:ay}{x b:aH}{a:aV}(d:∀r∈a,r.1<b)(g:b<x){o i:PO}:(∀q∈[(x,o),(b,i)],∀r∈a,r.1<q.1)/\([(x,o),(b,i)].map (·.1)).Nodup:=
 ⟨λq c r hr=>(d2.mp c).elim (λe=>e▸uJ (d r hr) g) λc=>iv.mp c▸d r hr,iQ.mpr ⟨λh=>ax g<|Nat.not_lt_of_le<|b7<|iv.mp h,E5 ..⟩⟩
theorem Mc(a:hD cx.K cl)(k:gF cx.K (.ref<|de cl) "__init__"=some (some<|.ref j))(l:xL cx.K (.ref j)=true)
  (h:∀x b (S:St f.g.c ⟨p.z.Z,p.z.ad++[x]⟩ (p.H++[.aQ cl []]) f.m f.cs {p.s with heap:=b}),aA ⟨p.z.Z,p.z.ad++[x]⟩ (.ae p.H.length) (.ref x)->ky MM (Mb f.g.A (de cl) i) (.call (.ref j) ⟨.ref x::i,[]⟩) (sE (λv s=>v=.none/\Q (.ref x) s) E) (p.i S .ce).s):
  bl MM f.g.A (kq (.ref<|de cl) i) Q E p.s:=by
 obtain⟨g,m,S⟩:=id p.st;exact call_cls S.fr S.dv S.nw a.K0 k l λx c b o q d e=>abp<|h x b ⟨g,_,S.DK (gr:=[(x,sX (de cl) c),(c,nZ #[] 0)]) o q (zS (s:=p.s) d e).1 (zS (s:=p.s) d e).2<|.aQ lX.nil bk⟩
  (aD x rfl (by rw[p.st.bK];exact mT))
theorem abq{b:Type}{l a r:List b}(e:a=l++r)(h:a.length=l.length):a=l:=by
 rw[e,bx] at h;rw[e,xD (Nat.add_left_cancel h),cM]
theorem abr{run:fi}{g:List<|At×rk}{ns:List aw}(c:hD cx.K cl)(P:jx cl=O (n,g))(R:gF cx.K (.ref<|de cl) "__init__"=O (O<|.ref j))(W:xL cx.K (.ref j)=I)
  (lh:(g.map (·.1)).Nodup)(t:∀q∈g,∀v,q.2=.j v->∀k,RL k v)(N:xj (n+1) (n+1) ns)(X:n9 cx.K j (ns.take<|n+1) l sc)(SB:∀A,uB run ns A sc (qT g) l)
  (B:f.g.A.units+4<m0)(u:f.g.A.depth+1<qd)(F:aR p.z as i):Go aA p (iZ run cl as p.H) (kq (.ref<|de cl) i):=λQ E T=>by
 unfold iZ at T;rw[P] at T;replace T:Tk aA p (if as.length=n then(match nj (mu as p.H).1 g with|some z=>.ok (.aQ cl z) (mu as p.H).2|none=>.j) else .j) Q E:=T;refine T.q λY T=>abe F λZ h S rs=>?_;have G:=(abf as p.H).trans Y;generalize(mu as p.H).1=o at*;generalize(mu as p.H).2=s at*
 cases m:nj o g with
 |none=>rw[m] at T;exact(T.ne J).elim
 |some z=>
 rw[m] at T;refine Mc (p:=p.i S<|.mr h) c R W λx h' M rx=>?_;have hb:sD run (n+1) (n+1) (qT g) (.ae s.length::o) (s++[.aQ cl []])=.ok .none (s++[.aQ cl z]):=by
  rw[zR (bJ (·+1) G),p9];show(aZ run (qT g) (O (V.ae s.length)::(o.map O++[]))<|s++[.aQ cl []]).i _=_;rw[cM,abn (pre:=[]) m lh mT,acS _ _ (bF _),p9]
  rfl
 refine L9 N X (SB _) J J B u (aR.cons rx<|aR.au .ce _ _ rs)<|hb▸⟨λh=>(nomatch h),λq a b e le r=>?_,λ_ _ _ _ h=>(nomatch h)⟩;obtain⟨⟨Z',H⟩,Hq,sq,st,lo⟩:=q
 cases e
 obtain⟨rr,er⟩:=le.ad;obtain rfl:H=p.z.ad++[x]:=abq er (st.bK.symm.trans (show(s++[b4.aQ cl z]).length=(p.z.ad++[x]).length by rw[bx,bx];exact bJ (·+1) S.bK));have K:=abo (λx hx=>(rs.i x hx).elim λ_=>aA.rl x) (λq w v e=>t q w v e _) m;refine⟨r,aB (st.abc S.bK (λ_ _=>S.rl) K) λgr L y=>T.ok (p.i y<|.mr λq w=>dj _<|le.ez q<|h q w) _ _ J (.mr λq w=>dj _<|le.ez q<|h q w) ?_⟩
 cases L with
 | @aQ _ _ _ d es nn ok r=>exact A6 x d es nn J (.inl<|.head _) (.inl<|.tail _<|.head _) ok r
theorem abt{run:fi}(a:hD cx.K cl)(j:jx cl=none)(b:o4 cl=none)(k:gF cx.K (.ref<|de cl) "__init__"=some (some<|.builtin "object.__init__"))(c:aR p.z as i):Go aA p (iZ run cl as p.H) (kq (.ref<|de cl) i):=λQ E T=>by
 unfold iZ at T;rw[j,b] at T;replace T:Tk aA p (if as.length=0 then .ok (.aQ cl []) p.H else .j) Q E:=T;refine T.q λl T=>?_;obtain rfl:=xD l
 induction i using aW with
 |cons _ _=>exact c.elim
 |nil=>
  obtain⟨g,d,S⟩:=id p.st;exact call_cls0 S.fr S.dv S.nw a.K0 k λx m r o q e h=>T.ok (p.i ⟨g,d,S.DJ o q (zS (s:=p.s) e h).1 (zS (s:=p.s) e h).2⟩ .i) _ _ rfl .i
   (A6 x m (#[]) 0 rfl (.inl<|.head _) (.inl<|.tail _<|.head _) lX.nil bk)
theorem abu{run:fi}{Az:List V}(c:hD cx.K cl)(j:jx cl=U)(g:o4 cl=O (fn,Az))(k:gF cx.K (.ref<|de cl) "__init__"=O (O<|.ref fn))(l:xL cx.K (.ref fn)=I)
  (hnone:∀as H v d,run fn as H=.ok v d->v=.none)
  (hcall:∀(q:Pt f) x Q E,p.le q->aA q.z (.ae p.H.length) (.ref x)->Tk aA q (run fn (.ae p.H.length::(as++if cl=.q/\as.length=0 then Az else[])) q.H) Q E->ky MM (Mb f.g.A (de cl) i) (.call (.ref fn) ⟨.ref x::i,[]⟩) (sE Q E) q.s):
  Go aA p (iZ run cl as p.H) (kq (.ref<|de cl) i):=λQ E T=>by
 unfold iZ at T;rw[j,g] at T;replace T:Tk aA p ((run fn (.ae p.H.length::(as++if cl=.q/\as.length=0 then Az else[]))<|p.H++[.aQ cl []]).i λ_ d=>.ok (.ae p.H.length) d) Q E:=T;exact Mc c k l λx o S h=>hcall (p.i S .ce) x _ _ .ce h ⟨λe=>T.ne (bJ (R.i · _) e),λq a b e le r=>by
  obtain rfl:=hnone _ _ _ _ e;exact⟨r,T.ok (p.i q.st<|.q .ce le) _ _ (bJ (R.i · _) e) (.q .ce le)<|aA.au le _ _ h⟩,λx s m d e le X=>T.ex x s m d (bJ (R.i · _) e) (.q .ce le) X⟩
end
noncomputable abbrev zT:List ak:=[.ref 88,.type "Exception",.type "BaseException",.type "object"]
noncomputable abbrev xl:PO:=excClassObj "ParseStop" "ParseStop" bZ 128 [.ref 88] zT I [] [] C U U (O<|.ref 112) U (O<|.str "ParseStop" 392) (O<|.str "ParseStop" 400) (O<|.bool I) "Exception.__new__"
theorem abv:(uP bZ::zT).contains (.type "Exception")=true:=by decide+kernel
theorem abw:(uP bZ::zT).contains (.type "BaseException")=true:=by decide+kernel
theorem abx:(uP bZ::zT).contains (.ref bZ)=true:=by decide+kernel
section
variable{prog:kv}{w:ed}{A:dN}{E:ak->ay->Prop}{h:cz}{g:Array GenState}{d:Drawn}{t:Nat}{os:iR}
theorem aby{R:s1->ay->Prop}{rest:List ak}(a:h.get? bZ=O xl)
  (f:R (.ok<|.ret<|.ref<|h.objs.size+1) ⟨(h.push {cls:=.type "tuple",data:=.seq rest.toArray}).push {cls:=.ref bZ,data:=.fields #[.ref h.objs.size,.none,.none,.none,.bool C,.none]},g,d,t,os⟩)(hrest:rest.length<=eH):
  ky (du prog w) A (.builtin "Exception.__new__" ⟨.ref bZ::rest,[]⟩) R ⟨h,g,d,t,os⟩:=by
 have F:=ad2;have b:=F.ends;refine codeAny_builtinAt F.entry ?_;unfold Builtin.«BaseException.__new__»;refine ad3 ?_;show PySem.wpAt _ _ _ (stack>>=_) _ _ _;refine ad3 (PySem.wpAt_stack λp below=>ad4 ?_)
 wp_walk
 refine ad4 ?_;rw[F.owner]
 repeat (first|with_reducible refine wpAny_madeHere_exc F.canon a ?_|with_reducible refine FN a ?_|(with_reducible refine Ow a ?_;first|rw[abv]|rw[c]|rw[e])|wp_step)
 show R _ _;rw[adR];exact f
theorem abz{rest:List ak}{i:aH}{oI:PO}{Q:ak->ay->Prop}(hchk:uU (du prog w) h (Ox "Exception.__new__" ⟨.ref bZ::rest,[]⟩) ())
  (a:h.get? bZ=O xl)
  (p:∀f,(∀b o,h.get? b=O o->f.get? b=O o)->uU (du prog w) f (aee (.ref bZ) "__init__") (O<|.ref i))(j:h.get? i=O oI)(l:oI.cls=.type "function")
  (q:∀f e,Heap.MadeExcOf h f e (.ref bZ) rest->bl (du prog w) (A.under<|.builtin "type.__call__" ⟨.ref bZ::rest,[]⟩) (call (.ref i)<|.ref e::rest) (λr m=>r=.none/\Q (.ref e) m) E ⟨f,g,d,t,os⟩)(hrest:rest.length<=eH):
  bl (du prog w) A (call (.ref bZ) rest) Q E ⟨h,g,d,t,os⟩:=by
 have F:=ad2;have z:=tc_lookup;have B:=tc_bind<|.ref bZ;have G:(⟨h,g,d,t,os⟩:ay).TypeIs (.ref bZ) "type":=aD _ a J;refine FO<|codeAny_of_tree ?_;show bl _ _ (callAny (.ref bZ) _) _ _ _
 repeat (any_goals (first|assumption|with_reducible refine FN a ?_|wp_step))
 refine⟨J,?_⟩;refine codeAny_call_builtin_at (ad5 _<|by decide+kernel) entry_typeCall<|wpAny_check_type_call_sub a ?_
 repeat (first|with_reducible refine FN a ?_|with_reducible refine wpAny_madeBy_exc a ?_|wp_step)
 refine codeAny_call_builtin_code (ad5 _ F.quiet)<|hchk.here ?_;refine aby a ?_ hrest;have k:∀b o,h.get? b=O o->((h.push {cls:=.type "tuple",data:=.seq rest.toArray}).push {cls:=.ref bZ,data:=.fields #[.ref h.objs.size,.none,.none,.none,.bool C,.none]}).get? b=O o:=λb o e=>hJ _<|hJ _ e;have hget:((h.push {cls:=.type "tuple",data:=.seq rest.toArray}).push {cls:=.ref bZ,data:=.fields #[.ref h.objs.size,.none,.none,.none,.bool C,.none]}).get? (h.objs.size+1)=O
   {cls:=.ref bZ,data:=.fields #[.ref h.objs.size,.none,.none,.none,.bool C,.none]}:=by heap_get
 have c:=k _ _ a;unfold Oy
 repeat (first|with_reducible refine FN hget ?_|wp_step)
 refine Ow c ?_;rw[abx]
 repeat wp_step
 refine(p _ k).here<|mn<|bu ?_;unfold bindSpecial;refine bu<|aeN (aD _ (k _ _ j) l) ?_;rw[aN (D J)];refine dB<|bu<|mm (q _ (h.objs.size+1) ⟨k,N6<|et _,h.objs.size,hget,N6<|bF _,?_⟩) (λr m hr=>?_) λu u x=>x
 ·exact hJ _<|ad6 J J
 ·obtain⟨rfl,y⟩:=hr
  wp_walk
  exact y
end
noncomputable def abA(v:ak):Bool:=match v with
 |.ref _=>I
 |_=>C
noncomputable def Ew(l:List ak):Bool:=l.rec C λa r b=>(a::r==[.type "Exception",.type "BaseException",.type "object"])||(abA a&&b)
theorem abB(self:ak)(l:List ak):Ew l=I->refuseLoop self "__setattr__" l=pure ()/\l.contains (.type "object")=true:=by
 induction l with
 |nil=>exact bc
 |cons a r b=>
  refineλe=>(jr.mp e).elim (λe=>?_) λe=>?_
  ·rw[show a::r=_ from beq_iff_eq.mp e];exact⟨PySem.F.store_Exception.passes self,by decide⟩
  ·refine dn λf=>?_;have h:=b<|bR e
   induction a using sW with
   |ref c=>
    refine f ⟨by rw[refuseLoop_ref];exact h.1,?_⟩;rw[Ag,h.2,uL]
   |_=>exact bc<|bL e
inductive qU(h:cz)(x:aH)(j:Array ak)(i:aw->Option ak):Prop
 |mk:∀o,h.get? x=some o->o.cls=.ref bZ->o.data=.fields j->((o.dict=none/\∀n,i n=none)∨∃d,o.dict=some d/\d≠x/\h.Ns1 d i)->qU h x j i
structure zU(K:cT):Prop where
 zB:(clsIn K bZ).any (λcd=>Ew cd.mro&&cd.hasDict)=true
 DW:gF K (.ref bZ) "__setattr__"=some (some (.builtin "object.__setattr__"))
section
variable{prog:kv}{w:ed}{A:dN}{E:ak->ay->Prop}{s:ay}{K:cT}{x:aH}{j:Array ak}{i:aw->Option ak}{ns:List aw}{name:aw}{tk:qX}{v:ak}
set_option backward.match.sparseCases true in
theorem abC(X:K.In s.heap)(hp:zU K)(a:qU s.heap x j i)(hw:Within i ns)(hsz:ns.length<=100){Q:Fin->ay->Prop}
  (hq:∀q P,qU q x j (λy=>if y=name then O v else i y)->(∀b o,b≠x->(∀c d,s.heap.get? x=O c->c.dict=O d->b≠d)->s.heap.get? b=O o->q.get? b=O o)->(∀k d,q.get? x=O k->k.dict=O d->s.heap.get? d=U∨∃c,s.heap.get? x=O c/\c.dict=O d)->Q (.done<|.ret .none) {s with heap:=q,toks:=P}):
  bl (du prog w) A (storeInOwnDict (.ref x) (.ref bZ) (.str name tk) name v b) Q E s:=by
 refine aB (any_some hp.zB) λcd hc ho=>?_;rw[ol] at ho;obtain⟨o,r,u,hd,hdict⟩:=a;obtain⟨h,g,d,t,os⟩:=s;refine bu<|dB<|bu<|bu<|aeO r ?_;rw[u];refine bu<|(aeP X hc).here ?_;rw[ho.2]
 rcases hdict with⟨R,S⟩|⟨dx,z,B,T⟩
 ·rw[R];have l:(h.push {cls:=.type "dict",data:=.dict #[]}).get? x=some o:=hJ _ r;have F:x≠h.objs.size:=e9<|mZ r;rw[hd];refine bu<|wpAny_alloc'<|bu<|wpAny_update' l<|dB ?_;have V:((h.push {cls:=.type "dict",data:=.dict #[]}).update x λo=>{o with dict:=O h.objs.size}).get? h.objs.size=O {cls:=.type "dict",data:=.dict #[]}:=
   (ad7 _ _ _ _ F.symm).trans<|ad6 J J
  have lh:((h.push {cls:=.type "dict",data:=.dict #[]}).update x λo=>{o with dict:=O h.objs.size}).Ns h.objs.size (λW=>U):=
   (f8 _ (#[]) _ V J (λe he=>ax he<|by simp) λW=>J)
  unfold aed aeQ;refine bu<|dB<|bu<|aeR (Heap.Ns1.of_empty lh) λq m hs=>?_;refine xX (m.count<|N7 name v N8) λoD Y Z G H L=>bu<|aeS G (by rw[H];exact aeT<|aE L (by rw[gS,lj,iy];exact by simp+arith only))<|dB ?_;have M:q.get? x=O {o with dict:=O h.objs.size}:=by
   refine(hs.2 x F).trans<|E1 _ l ?_;exact E2 hd
  refine hq q _ ⟨_,M,u,hd,.inr<|df h.objs.size J F.symm ?_⟩ (λb ob hbx W hb=>?_) λk N f p=>?_
  ·exact xY m λo' es ep e1 e2 e3 eu e4=>m2 o' es ep e1 e2 e3 eu (λy=>by rw[e4 y];by_cases hy:y=name<;>simp[hy,S])
  ·exact(hs.2 b<|e9<|mZ hb).trans<|(ad7 _ _ _ _ hbx).trans<|hJ _ hb
  ·rw[M] at f;cases f;cases p;exact .inl<|N6<|bF _
 ·rw[z];refine dB ?_;unfold aed aeQ;refine bu<|dB<|bu<|aeR T λq m hs=>?_;refine xX (m.count<|N7 name v hw) λoD Y Z G H L=>bu<|aeS G (by rw[H];exact aeT<|aE L (by rw[gS,iy];exact L1 hsz))<|dB ?_;exact hq q _ ⟨o,(hs.2 x B.symm).trans r,u,hd,.inr<|df dx z B m⟩ (λb ob W hbd hb=>(hs.2 b<|hbd o dx r z).trans hb) λk N f p=>by
   rw[(hs.2 x B.symm).trans r] at f;cases f;exact .inr<|aD o r p
theorem abD{R:s1->ay->Prop}(X:K.In s.heap)(hp:zU K)(F:gF K (.ref bZ) name=O U)(u:InstAt s.heap x o bZ B)(c:qU s.heap x j i)(G:Within i ns)(hsz:ns.length<=100)
  (H:∀m l,qU m x j (λy=>if y=name then O v else i y)->(∀b o,b≠x->(∀f d,s.heap.get? x=O f->f.dict=O d->b≠d)->s.heap.get? b=O o->m.get? b=O o)->(∀k d,m.get? x=O k->k.dict=O d->s.heap.get? d=U∨∃f,s.heap.get? x=O f/\f.dict=O d)->R (.ok<|.ret .none) {s with heap:=m,toks:=l}):
  ky (du prog w) A (.call (.builtin "object.__setattr__") ⟨[.ref x,.str name tk,v],[]⟩) R s:=by
 have p:=PySem.F.store_object;refine aB (any_some hp.zB) λz hc r=>?_;rw[ol] at r;have ne:z.mro.isEmpty=false:=by cases q:z.mro with|nil=>rw[q] at r;cases r.1|cons _ _=>rfl
 obtain⟨L,M⟩:=abB (.ref x) _ r.1;have sub:uU (du prog w) s.heap (Oy (.ref x)<|.type "object") true:=u.type.andThen<|looks_mroIn X (by unfold mroIn;rw[hc,E0,a9 (by rw[ne];decide),M]);refine codeAny_call_builtin p.slot.plain p.entry<|@check_slot (du prog w) _ _ s "object.__setattr__" "object" "__setattr__" (.ref x) [.str name tk,v] [] _ p.kind p.split sub (p.args (.ref x) (.str name tk) v) ?_;have hm:uU (du prog w) s.heap (mroOf<|.ref bZ) z.mro:=(aeP X hc).andThen .now;rw[osa_eq,refuse_eq];refine bu<|bu<|u.type.here<|bu<|hm.here ?_;rw[L];refine dB<|bu<|u.type.here<|bu<|(aeU X F).here<|bu<|dB ?_;exact abC X hp c G hsz λm l a b e=>H m l a b e
theorem Md(X:K.In s.heap)(hp:zU K)(G:gF K (.ref bZ) name=O U)(c:qU s.heap x j i)(H:Within i ns)(hsz:ns.length<=100){Q:Unit->ay->Prop}
  (L:∀m l,qU m x j (λy=>if y=name then O v else i y)->(∀b o,b≠x->(∀f d,s.heap.get? x=O f->f.dict=O d->b≠d)->s.heap.get? b=O o->m.get? b=O o)->(∀k d,m.get? x=O k->k.dict=O d->s.heap.get? d=U∨∃f,s.heap.get? x=O f/\f.dict=O d)->Q () {s with heap:=m,toks:=l}):
  bl (du prog w) A (NQ (.ref x) name v) Q E s:=by
 obtain⟨o,B,p,hd,hdict⟩:=id c;have q:∃q,InstAt s.heap x o bZ q:=by
  rcases hdict with⟨r,_⟩|⟨P,u,M,N,R,S,z,_⟩
  ·exact⟨none,B,p,by unfold notCls;rw[hd],by rw[r];trivial⟩
  ·exact⟨some N,B,p,by unfold notCls;rw[hd],by rw[u];exact z⟩
 obtain⟨q,F⟩:=q;exact set_plain X F hp.DW<|abD (s:={s with toks:=s.toks+1}) X hp G F c H hsz λm l a b e=>L m l a b e
end
section
variable{A:dN}
variable{c:Fm}{z:Zs}{H:Hp}{m:aw->Option ak}{cs:aV}{s:ay}{g:cz}{i:List aV}
theorem bG.Me(S:bG c z H m cs s g i){h:cz}(ex:aH->Prop)(j:¬ex c.L)(hg:∀b o,g.get? b=O o->¬ex b)(k:∀q∈bP c z cs i,¬ex q.1)(a:∀b o,s.heap.get? b=O o->¬ex b->h.get? b=O o):
  bG c z H m cs {s with heap:=h,toks:=tk} g i:=dn λl=>iU S.fr.ns λt u v w r=>l<|⟨S.ir,⟨lz t u v (a _ _ w j) r,λb o e=>a b o (S.fr.keep b o e)<|hg b o e,S.fr.above⟩,λq d=>⟨a _ _ (S.nw q d).1<|k q d,(S.nw q d).2⟩,S.jl,S.dv,S.fK,S.jN,S.nd,S.cW,by rw[S.fA]⟩
theorem bG.abE{P:aV}{j:cz}(S:bG (c.P' P) z H m cs s g i)(t:∀b o,s.heap.get? b=O o->j.get? b=O o)(hd:j.get? d=O l)(a:s.heap.get? d=U):
  bG (c.P'<|(d,l)::P) z H m cs {s with heap:=j,toks:=tk} g i:=by
 refine⟨S.ir,S.fr.keeps t,λq k=>?_,S.jl,S.dv,S.fK,S.jN,?_,S.cW,by rw[S.fA]⟩
 ·rcases d2.mp k with rfl|h
  ·refine⟨hd,λe=>?_,?_⟩
   ·refine iU S.fr.ns λv w x u r=>?_
    dsimp only at e
    rw[e] at a;rw[show(c.P' P).L=c.L from rfl] at u;rw[u] at a;exact u9 a
   ·cases e:g.get? d with
    |none=>rfl
    |some o=>have:=S.fr.keep _ _ e;rw[a] at this;exact ba this
  ·exact⟨t _ _ (S.nw q h).1,(S.nw q h).2⟩
 ·rw[iP,iQ];refine⟨λh=>?_,S.nd⟩;refine aB (eh.mp h) λq k e=>?_;have:=(S.nw q k).1;rw[e,a] at this;exact ba this
theorem bG.abF{P:aV}(S:bG (c.P'<|(d,a)::P) z H m cs s g i):bG (c.P' P) z H m cs s g i/\c.L≠d/\g.get? d=U/\∀q∈bP (c.P' P) z cs i,q.1≠d:=by
 have N:=S.nw (d,a)<|.head _;have nd:=S.nd;simp only[bP,kR,iP,iQ] at nd;exact⟨bG.D5 (Q:=[(d,a)]) S,eG N.2.1,N.2.2,λq b e=>nd.1 (by rw[<-e];exact om b)⟩
noncomputable def Mf:cA:=.Assign [.Attribute (.Name "self" ⟨65,8,65,12⟩) "number" ⟨65,8,65,19⟩] (.Constant (.int 0) 0 ⟨65,22,65,23⟩) ⟨65,8,65,23⟩
noncomputable def Mg:cA:=.Assign [.Attribute (.Name "self" ⟨66,8,66,12⟩) "text" ⟨66,8,66,17⟩] (.Name "text" ⟨66,20,66,24⟩) ⟨66,8,66,24⟩
structure uC(K:cT)(fI:aH)(sc:c4):Prop where
 chk:∀v,(λS=>xM K S (Ox "Exception.__new__" ⟨[.ref bZ,v],[]⟩))=λ_=>some ()
 ps:zU K
 j2:K.lookup bZ=some xl
 abG:gF K (.ref bZ) "__init__"=some (some (.ref fI))
 kA:gF K (.ref bZ) "number"=some none
 abH:gF K (.ref bZ) "text"=some none
 fn:n9 K fI ["self","text"] [Mf,Mg] sc
 fnc:(K.lookup fI).map (·.cls)=some (.type "function")
 abI:sc.names.lookup ("self":aw)=some .local
 aP:sc.names.lookup ("text":aw)=some .local
inductive Mh(c:Fm)(z:Zs)(H:Hp)(e:aH)(s:ay):Prop
 |mk:∀h m cs g i,DC h s.heap e->bG c z H m cs {s with heap:=h} g i->Mh c z H e s
theorem Mi{h:cz}(hb:h.get? b=O o)(a:b≠e):(ml h [e]).get? b=O o:=Fu _ hb<|by simpa using a
end
section
variable{f:Fx}{p:Pt f}
theorem abJ{fI:aH}{sc:c4}{v:ak}{Q:ak->ay->Prop}{E:ak->ay->Prop}(u:uC cx.K fI sc)(hdep:f.g.A.depth+1<qd)
  (h:∀e s',Mh f.g.c p.z p.H e s'->cx.K.In s'.heap->Q (.ref e) s'):bl MM f.g.A (kq (.ref bZ) [v]) Q E p.s:=by
 refine dn λF=>?_;obtain⟨g,i,S⟩:=id p.st;refine aB (fX.mp u.fnc) λoI hI hIc=>F ?_;have X:=S.dv.keeps S.fr.keep;refine abz (Looks.of_peek X<|congrFun (u.chk v) _) (g:=p.s.gens) (d:=p.s.drawn) (t:=p.s.toks) (os:=p.s.os) (X _ _ u.j2) (λh' k=>aeU (X.keeps k) u.abG) (X _ _ hI) hIc (λh' e hm=>?_) (by rw[iy];simp);refine dn λF=>cF hm.there λt he htn ht=>?_;obtain⟨oe,G⟩:∃oe:PO,oe={cls:=.ref bZ,data:=.fields #[.ref t,.none,.none,.none,.bool false,.none]}:=⟨_,J⟩;rw[<-G] at he;have a:=bG.abE (c:=f.g.c) (P:=f.g.c.P) (tk:=p.s.toks) S hm.keeps he hm.new;obtain⟨oc,od,osl,name,qual,params,dV,kV,doc,pm,an,cdv,ct,ho,hcd,hbind⟩:=u.fn.ex;refine F ?_;have hA:=f.g.fr;refine FO (Km a.jl a.fr a.dv a.nw a.fK f.g.ok.XB f.g.ok.TB a.jN a.ir hA f.g.ok.wR f.g.ok.aq ho hcd hdep (hbind _ [.ref e,v] (a.dv.keeps a.fr.keep) J) (u.fn.i [.ref e,v]) u.fn.mQ (λg' L' w tk cells FG F' N' Y B' X' T' D' hlt hgt hcn UP=>?_) u.fn.co u.fn.Es u.fn.aq)
 let c₂:Fm:={A₀:=f.g.A.under<|.builtin "type.__call__" ⟨.ref bZ::[v],[]⟩,lY:=f.g.c.lY,iq:=f.g.c.aS::f.g.c.iq,L:=L',aS:=jU qual sc L' fI cdv,nY:=g',P:=f.g.c.P++f.cs,eP:=f.g.c.eP}
 let K:aw->Option ak:=xG (jU qual sc L' fI cdv).kindOf [("self",.ref e),("text",v)] λξ=>U
 have T:bG (c₂.P'<|(e,oe)::(f.g.c.P++f.cs)) p.z p.H K cells {p.s with heap:=w,toks:=tk} g' i:=by
  have P:=Eo (f.g.c.P'<|(e,oe)::f.g.c.P) f.cs p.z cells i;refine⟨.refl,F',λq V=>N' q<|P.mem_iff.mp V,B',X',T',D',(P.map _).nodup_iff.mpr ?_,S.cW,by rw[S.fA]⟩;exact zt a.nd hcn λq V r hr=>uJ (hlt r hr)<|hgt q V
 have M:=(T.nw (e,oe)<|.head _).1;refine dn λF=>u0 T.abF λl hLe hge hle=>?_;have X₂:cx.K.In w:=l.dv.keeps l.fr.keep;have hks:=u.abI;have hkt:=u.aP;have nd2:=u.fn.nd;have hms:K "self"=O (.ref e):=En hks nd2<|.head _;have hmt:K "text"=O v:=En hkt nd2<|.tail _<|.head _;have kd:=u.fn.aq;refine F<|AM<|Om (Oh<|Fv (AJ kd hks l.fr.ns hms ?_)<|D J) J;have I₁:qU w e #[.ref t,.none,.none,.none,.bool C,.none] (λξ=>U):=⟨_,M,by rw[G],by rw[G],.inl ⟨by rw[G],λξ=>J⟩⟩;refine Md X₂ u.ps u.kA I₁ N8 (by simp) λh₂ tk₂ W kp₂ dn₂=>?_;have hdn:∀j d,w.get? e=O j->j.dict=O d->False:=λj d h1 h2=>ba<|(bJ ad8<|G.symm.trans<|cS<|M.symm.trans h1).trans h2;have gne:∀b o,g'.get? b=O o->b≠e:=λb o hb q=>ba<|hge.symm.trans<|q▸hb;have x:=l.Me (tk:=tk₂) (λb=>b=e) hLe gne hle λb o hb hn=>kp₂ b o hn (λj d h1 h2=>(hdn j d h1 h2).elim) hb;have X₃:=x.dv.keeps x.fr.keep;refine AM<|Om (Fv (AJ kd hkt x.fr.ns hmt ?_)<|D J) J;refine Fv (AJ kd hks x.fr.ns hms ?_)<|D J;refine Md X₃ u.ps u.abH W (N7 _ _ N8) (by simp) λZ tk₃ I₃ kp₃ dn₃=>?_;obtain⟨o₂,R,_,_,hd₂⟩:=W;have apart:∀b o,w.get? b=O o->b≠e->¬(b=e∨o₂.dict=O b):=λb o hb hn q=>q.elim hn λq=>(dn₂ _ _ R q).elim (λd1=>ba<|d1.symm.trans hb) λh=>h.elim λj d=>hdn j _ d.1 d.2;have y:=x.Me (tk:=tk₃) (λb=>b=e∨o₂.dict=O b) (iU l.fr.ns λoL es ep hL ξ=>apart _ _ hL hLe) (λb o hb=>apart b o (l.fr.keep b o hb)<|gne b o hb) (λq V=>apart _ _ (l.nw q V).1<|hle q V)
  λb o hb hn=>kp₃ b o (λq=>hn<|.inl q) (λj d h1 h2 q=>hn<|.inr<|(bJ ad8<|cS<|R.symm.trans h1).trans<|h2.trans<|bJ O q.symm) hb
 refine s6 ⟨J,?_⟩;refine dn λF=>AZ (UP g' .refl) λh₀' T₀ B B₀ K₀ P₀ D₀ n₀=>F<|h e _ ⟨ml Z [e],f.m,f.cs,h₀',i,⟨λb o q=>Fj _ q,aen _<|.head _,?_⟩,?_⟩<|y.dv.keeps y.fr.keep
 ·obtain⟨o₃,ho₃,hc₃,hd₃,_⟩:=I₃;exact A1 o₃ _ ho₃ hc₃ hd₃ J J
 ·have gb:∀b o,g'.get? b=O o->(ml Z [e]).get? b=O o:=λb o hb=>Mi (y.fr.keep b o hb) λq=>by subst q;rw[hge] at hb;exact ba hb
  refine⟨T₀,⟨?_,λb o q=>gb b o<|B.keep b o q,B.above⟩,λq V=>?_,B₀,K₀,P₀,D₀,Er f.g.c f.cs cells p.z i y.nd,S.cW,by rw[S.fA]⟩
  ·exact dn λF=>iU B.ns λoL es ep hL r=>F<|lz oL es ep (gb _ _ hL) r
  ·have hq':=Ep f.g.c f.cs cells p.z i q V;have N:=y.nw q hq';refine⟨Mi N.1<|hle q hq',λq'=>?_,n₀ _ N.2.2⟩;refine dn λF=>iU B.ns λoL ξ ξ hL ξ=>F ?_;rw[q',hL] at N
   cases N.2.2
end
inductive Mj(E:ak->ay->Prop)(s:ay):ak->Prop
 |mk (e:aH) (oe:PO) (vs:Array ak) (hC:s.heap.get? bZ=some xl) (he:s.heap.get? e=some oe) (hc:oe.cls=.ref bZ) (hd:oe.data=.fields vs) (h1:vs[1]? =some .none) (hE:E (.ref e) s):Mj E s (.ref e)
theorem abK{M:uR}{A:dN}{j:dA}{x:Sem ak}{Q:ku->ay->Prop}{E:ak->ay->Prop}(p:A.handled=U)
  (h:bl M A x (λv a=>Mj E a v) E s):
  bl M A (raiseStmt j (O x) U) Q E s:=by
 unfold raiseStmt;refine bu<|mm h (λv a c=>?_) λq q x=>x;obtain⟨e,w,y,o,k,l,hd,r,t⟩:=c;have f:∀{b:Bool->ay->Prop},b C a->bl M A (isType<|.ref e) b E a:=by
  intro b m;simp only[isType,loadHead];refine bu<|aeO k ?_;rw[hd];exact dB m
 have i:∀{b:ak->ay->Prop},b (.ref bZ) a->bl M A (typeOf<|.ref e) b E a:=by
  intro b m;simp only[typeOf];exact bu<|wpAny_load k<|dB<|l▸m
 have u:a.TypeIs (.ref bZ) "type":=aD _ o J;refine bu<|dB ?_
 dsimp only
 refine bu<|mn ?_;unfold excFromValue isExcClass;refine bu<|bu<|f ?_;simp only[mX,if_false];refine dB ?_;simp only[mX,if_false];refine bu ?_;unfold Oy;refine bu<|i ?_;obtain⟨hp,g,d,tk,os⟩:=a;refine Ow o ?_;rw[abw];simp only[if_true];refine dB<|bu<|f ?_;simp only[mX,if_false];refine bu ?_;unfold raisedInstance;refine bu<|i ?_;refine bu<|aeN u ?_;rw[aN (D J)];refine dB<|bu ?_;unfold Fi;refine bu<|sZ k hd r ?_;rw[a9 (D J)];exact dB<|wpAny_raiseNew_none p t
section
variable{g:Gx}
theorem abL(r:uC cx.K z k)(F:Av g.ag g.A)(hd:g.hd=C)
  (A:gu cx.K ey "ParseStop"=O (O<|.ref bZ))(o:mo cx.K (.ref bZ)=I)(B:iu g.c.aS.scope "ParseStop"=I)(h2:gu cx.K ey "str"=O U)(G:iu g.c.aS.scope "str"=I)(hp:fL j=I)(H:∀w:Wt g,bj w.f e j):
  di g (.x7 e) (.Raise (O<|.Call (.Name "ParseStop" np) [.Call (.Name "str" l) [j] [] a] [] cpos) U m):=λw Q E T=>by
 rw[arm_exec_Raise];refine bu<|uV<|abK F.fg ?_;refine bu<|mm ?_ (λv s h=>bu<|uV<|dB h) λK K x=>x;refine xJ ?_;rw[pV J];refine w.p.jM A B J<|qS (p:=w.p) (FA o)<|Fz<|xJ ?_;rw[pV (show[j].all fL=I from(Bool.and_true _).trans hp)];refine DN w.p.st h2 (v:=.type "str") J (D J) w.f.aq w.f.jM w.f.hV (beq_iff_eq.mp G) (D J)<|qS (DZ λ_ h=>nomatch h)<|Fz<|T.nx (H w w.p) λq v pv le L T=>?_;refine dn λM=>?_
 induction v using V.casesOn with
 |aa i=>
  have T:Ts (w.at q) (if 0<=i/\i<1000000 then .q q.H else .j) Q E:=T
  by_cases u:0<=i/\i<1000000
  ·rw[aN u] at T;refine M<|L.elim λt e=>e▸Fw ⟨bk,P.str_of_int ?_ (Fw ⟨(q.tk _).st.dv,abJ (p:=q.tk _) r (F.sA []) λx y hm N=>hm.casesOn λb R p S c d f=>xW d.Kl λW X Y Z a3 a4 a5=>⟨x,W,X,N _ _ r.j2,Y,Z,a3,a4,T.ex _ _ _ _ J .refl<|.inr ⟨hd,x,b,R,p,S,c,J,d,f⟩⟩⟩)⟩
   by_cases q:i.natAbs=0
   ·rw[q];decide
   ·exact(NN q).mpr<|iO (show i.natAbs<2^20 by lia)<|Nat.pow_le_pow_right (D J)<|D J
  ·rw[a9 u] at T;exact T.ne J
 |_=>exact T.ne J
end
section
variable{A₀:dN}{base g G B u:cz}{outer:List dA}{N:dA}{L:aH}{m:aw->Option ak}
theorem Mk(K:lu A₀ base outer g)(F:Fr g L G m)(j:N.frame=O L)(f:∀b o,G.get? b=O o->b∉dF (N::outer)->B.get? b=O o)(h:B.StaysIn u)(a:G.UpToSlots u):
  ∃i,mj (dF outer) g i/\Fr i L u m/\lu A₀ base outer i:=by
 obtain⟨T,S⟩:=aei (fs:=dF outer)
  (λb hb=>by
   obtain⟨_,o,k,_⟩:=K.frames.mem hb;exact⟨o,k⟩)
  (λb o e nm=>h b o (f b o (F.keep b o e) (λhm=>by
   rcases so j hm with z|z
   ·rw[z,AG F] at e;exact ba e
   ·exact nm z)))
  (λb o e hm=>by
   obtain⟨_,l,d,hd⟩:=K.frames.mem hm;rw[e] at d
   cases d
   exact a b o (F.keep b o e) hd)
 refine⟨_,T,⟨a.ns F.ns,S,by rw[T.size];exact F.above⟩,⟨K.stack,λb o e=>T.other b o (K.stays b o e) (λhm=>by
  rw[(K.frames.mem hm).1] at e;exact ba e),K.frames.of_keeps λb o e p=>?_⟩⟩
 obtain⟨q,hs⟩:=T.up e;exact aD _ hs J
theorem abM(F:Fr g L G m)(h:N.frame=O L)(a:∀b o,G.get? b=O o->b∉dF (N::outer)->B.get? b=O o)(hb:B.get? b=U)
  (d:∀o,g.get? b=O o->b∈dF outer->False):g.get? b=none:=by
 cases q:g.get? b with
 |none=>rfl
 |some o=>
  by_cases hm:b∈dF outer
  ·exact(d o q hm).elim
  ·have:=a b o (F.keep b o q) (λf=>by
    rcases so h f with z|z
    ·rw[z,AG F] at q;exact ba q
    ·exact hm z)
   rw[hb] at this;exact ba this
end
noncomputable def Gx.lh(g:Gx)(e:aH)(a:PO){b:Array ak}(Y:a.data=.fields b)(h2:b[2]? =O .none):Gx:=⟨g.ag,g.ns,I,g.c.P'<|(e,a)::g.c.P,g.A.mark<|O<|.ref e,g.fr,⟨g.ok.wR,g.ok.aq,g.ok.jM,g.ok.hV,g.ok.XB,g.ok.TB,g.ok.jk,g.ok.dZ⟩,.inr<|f8 e a b J (.head _) Y h2,g.qR⟩
section
variable{g:Gx}{w:Wt g}{x:ak}{H:Hp}{z:Zs}{s:ay}{hb:List S}{j:cA}{suite:List cA}{np hpos tpos y:dq}{Q:ku->ay->Prop}{E:ak->ay->Prop}
theorem Ml(Y:gu cx.K ey "ParseStop"=O (O<|.ref bZ))(g1:iu g.c.aS.scope "ParseStop"=I)(hC:xN cx.K bZ "BaseException"=I)(M:∀i:Gx,i.hd=I->i.ag=g.ag->i.ns=g.ns->i.c.aS=g.c.aS->kg i hb (j::suite))
  (T:Ts w (kX<|aZ g.ag hb w.l H) Q E)(le:w.z.le z)(X:Xs g.c z H w.m w.cs x s):
  bl MM g.A (AF x g.c.aS) (λξ s₂=>bl MM g.A (Fi x U) (λξ s₃=>bl MM g.A (handleBy x g.c.aS [.ExceptHandler (O<|.Name "ParseStop" np) U (j::suite) hpos]) Q E s₃) E s₂) E s:=by
 obtain⟨e,G,gg,lvs,rfl,T0,F,K,X₀,P₀,a,⟨B,hB,V,hl,hfl⟩,hsm,nd,Lv,same⟩:=X;have hf:=g.ok.wR;have hL:B.get? g.c.L=none:=by
  refine ly hfl.2.2.1 ?_;rintro _ ⟨L',_,hf',hn',_⟩ _;obtain rfl:g.c.L=L':=cS<|hf.symm.trans hf';exact hn'
 refine Kj g.fr hf hfl λh₄ x₄ p=>zs x₄ λu f r=>cF (Mk K F hf V f.1<|hsm.trans<|p.trans r) λg₅ T₅ t y=>?_;have A:=g.ok.XB.keeps y.stays;have P₅:oz cx.p cx.f3 cx.lW cx.mg cx.mb g₅:=g.ok.TB.keeps y.stays;obtain⟨nm,q',N,bs,bm,hdct,sn,sub,ab,col,dd,k0,k1,k2,k3,k5,newId,W,hbase,hbT⟩:=kts_cls (A.keeps t.keep) hC;obtain⟨_,_,_,oe₅,vs₅,T5,oT5,ts5,he5,hcl5,_⟩:=id f;refine wpAny_handleBy_cons (codeAny_handlers_test<|nameG_K t A (topRead_of P₅) Y ?_ g.ok.jM g.ok.aq (beq_iff_eq.mp g1)<|D J) (by intro q;cases q);refine wpAny_excMatches_sub_self W he5 hcl5 hbase<|codeAny_handlers_suite ?_;refine zs f λh₆ k u₆=>?_;have b:=hsm.trans<|p.trans<|r.trans u₆;refine cF (Mk K F hf V k.1 b) λP d R l=>?_;obtain⟨_,hBe,_,oe,vs,T6,oT6,ts6,he,hcl,hd,hv1,hv2,_⟩:=id k;have Z:=d.none_ _ (abM F hf V hBe λo ho m=>by
  obtain⟨_,o',ho',hd'⟩:=K.frames.mem m;rw[ho] at ho'
  cases ho'
  obtain⟨sl,hs⟩:=b _ _ (F.keep _ _ ho) hd';rw[he] at hs
  cases hs
  exact hd' _ hd)
 have S₆:bG (g.c.P'<|(e,oe)::g.c.P) z H w.m w.cs {s with heap:=h₆} P lvs:=by
  refine⟨T0.trans d,R,λq hq=>?_,l,g.ok.XB.keeps l.stays,g.ok.TB.keeps l.stays,a.turn d,?_,Lv,by rw[same]⟩
  ·rcases d2.mp hq with rfl|hq
   ·refine⟨he,λq=>?_,Z⟩;refine xX R.ns λoL es ep ho hdL ξ=>?_;have ho:=(q.symm)▸ho;rw[he] at ho
    cases ho
    rw[hd] at hdL;cases hdL
   ·exact⟨k.1 _ _ (hl q hq).1,λzz=>ba<|(zz▸hL).symm.trans (hl q hq).1,d.none_ _<|kts_none F.keep (hl q hq).2.1⟩
  ·rw[iP,iQ];exact⟨λh=>aB (eh.mp h) λq hq eq=>ba<|(show B.get? q.1=U from eq▸hBe).symm.trans (hl q hq).1,nd⟩
 let w':Wt (g.lh e oe hd hv2):=⟨z,H,_,w.l,w.m,w.cs,w.cm,⟨P,lvs,S₆⟩,g9.j<|w.lo.au le,w.fx.re⟩
 refine mm (M (g.lh e oe hd hv2) J J J J w' Q (λξ ξ=>False) ⟨λh=>T.ne<|bJ kX h,λv fl pfl h le' fr=>?_,λ_ _ _ _ h _ _=>(T.ne<|bJ kX h).elim,ad9⟩) (λ_ _ h=>h) λξ ξ h=>h.elim;obtain⟨i,lvs',S'⟩:=v.st;have h:aZ g.ag hb w.l H=.ok (fl,v.l) v.H:=h;rw[h] at T;exact T.st ⟨v.m,v.cs,v.cm,⟨i,lvs',bG.D5 (Q:=[(e,oe)]) S'⟩,sB S' v.fx.re g.ok.jk v.lo,v.fx.re⟩ (le.q le') fr
end
section
variable{g:Gx}{hb:List S}{j:cA}{suite:List cA}{np hpos tpos y:dq}{e:E}{F:aX}(Y:gu cx.K ey "ParseStop"=some (some (.ref bZ)))(g1:iu g.c.aS.scope "ParseStop"=true)(hC:xN cx.K bZ "BaseException"=true)(M:∀i:Gx,i.hd=true->i.ag=g.ag->i.ns=g.ns->i.c.aS=g.c.aS->kg i hb (j::suite))
include Y g1 hC M
theorem abN{i:Nat}{x:aw}(hs:oy F (O<|.Name x pos') y.line g.c.aS=pure C)(a:∀w:Wt g,bj w.f e F)(b:jm g.c.aS.scope g.ns i x=I):
  di g (.m4 i e hb) (.Try [.Assign [.Name x pos'] F y] [.ExceptHandler (O<|.Name "ParseStop" np) U (j::suite) hpos] [] [] tpos):=λw Q E T=>by
 have T:Ts w (match az g.ag e w.l w.H with|.ok v H=>.ok (.aU,w.l.set i<|O v) H|.q H=>kX (aZ g.ag hb w.l H)|.j=>.j) Q E:=T;refine ly (uy b) λn1 n2 n3=>aeV<|AM<|aex (a w w.p _ _ ⟨λh=>T.ne<|h▸J,λq v k h le d=>?_,λx s l f h le X=>?_⟩) hs
 ·rw[show az g.ag e w.l w.H=.ok v q.H from h] at T;exact wZ g.ok (w.at q).S d n1 n2 n3 λs S=>s6<|s6<|T.st S le bk
 ·rw[show az g.ag e w.l w.H=.q f from h] at T;exact Ml Y g1 hC M T le X
theorem abO(a:FD g.c.aS=C)(hs:oy F U y.line g.c.aS=pure C)(b:∀w:Wt g,bj w.f e F):
  di g (.m5 e hb) (.Try [.Expr F y] [.ExceptHandler (O<|.Name "ParseStop" np) U (j::suite) hpos] [] [] tpos):=λw Q E T=>by
 have T:Ts w (match az g.ag e w.l w.H with|.ok v H=>.ok (.aU,w.l) H|.q H=>kX (aZ g.ag hb w.l H)|.j=>.j) Q E:=T;refine aeV<|AM<|aev (b w w.p _ _ ⟨λh=>T.ne<|h▸J,λq v f h le i=>?_,λx s k d h le X=>?_⟩) a hs
 ·rw[show az g.ag e w.l w.H=.ok v q.H from h] at T;exact s6<|s6<|T.st (w.at q).S le bk
 ·rw[show az g.ag e w.l w.H=.q d from h] at T;exact Ml Y g1 hC M T le X
end
noncomputable section
noncomputable def Sd{i:Type}(P:i->Prop)(o:Option i):Prop:=∀e,o=O e->P e
noncomputable def gd{i:Type}(b:Bool)(x:Option i):Option i:=cond b x U
section
variable{j i:Type}{P:i->Prop}
theorem gR:Sd P none:=λ_ h=>ba h
theorem c0(h:P e):Sd P (O e):=λ_ q=>cS q▸h
theorem pY{o:Option j}{k:j->Option i}(h:∀a,o=O a->Sd P (k a)):Sd P (o.bind k):=by
 cases o with
 |none=>exact gR
 |some a=>exact h a J
theorem dL(h:b=I->Sd P x):Sd P (gd b x):=by
 cases b with
 |false=>exact gR
 |true=>exact h J
theorem Mm{o:Option i}(h:Sd P o)(hd:P d):P (o.getD d):=by
 cases o with
 |none=>exact hd
 |some a=>exact h a J
noncomputable def pZ(a:aX)(k:aw->dq->Option i):Option i:=match a with
 |.Name x p=>k x p
 |_=>U
noncomputable def zV(b:aX)(k:aX->List aX->List Keyword->dq->Option i):Option i:=match b with
 |.Call f a c p=>k f a c p
 |_=>U
noncomputable def mR(l:List j)(k:j->Option i):Option i:=match l with
 |[]=>U
 |a::r=>gd r.isEmpty<|k a
theorem qV{k:aw->dq->Option i}{P:aX->i->Prop}(h:∀x p,Sd (P<|.Name x p)<|k x p):Sd (P a) (pZ a k):=by
 cases a<;>first|exact h _ _|exact gR
theorem Ex{k:aX->List aX->List Keyword->dq->Option i}{P:aX->i->Prop}(h:∀f a c p,Sd (P<|.Call f a c p)<|k f a c p):Sd (P b) (zV b k):=by
 cases b<;>first|exact h _ _ _ _|exact gR
theorem og{k:j->Option i}{P:List j->i->Prop}(h:∀a,Sd (P [a])<|k a):Sd (P l) (mR l k):=by
 cases l with
 |nil=>exact gR
 |cons a r=>exact dL λe=>lq.mp e▸h a
end
noncomputable abbrev sF:=Bool->c4->aX->E
noncomputable def Mn(c:Const):Option E:=match c with
 |.int i=>O<|.c<|.aa i
 |.str y=>gd (decide (y.cps.toList.length<=1000))<|O<|.c<|.ah y.cps.toList
 |.bool b=>O<|.c<|.i b
 |.none=>O<|.c .none
 |_=>U
noncomputable def Mo(v:ak):V:=match v with
 |.bool b=>.i b
 |.int i _=>.aa i
 |.str x _=>.ah x.cps.toList
 |_=>.none
noncomputable def abP(K:cT)(a:aH):List ak:=match K.lookup a with
 |some ⟨_,_,.seq b _,_⟩=>b.toList
 |_=>[]
noncomputable def Mp(K:cT)(v:ak):V:=match v with
 |.ref a=>.u<|(abP K a).map Mo
 |v=>Mo v
noncomputable def Ey(K:cT)(ns:List aw)(sc:c4)(x:aw):Option E:=
 match DY sc x&&(kN x&&(dy ns (ns.idxOf x)==x)) with
 |true=>O<|.l<|ns.idxOf x
 |false=>((gu K ey x).bind id).bind λa=>gd (DR K (Mp K a) a&&(iu sc x&&kN x))<|O<|.c<|Mp K a
noncomputable def xm(e:E):Option Int:=match e with
 |.c v=>(match v with
  |.aa i=>O i
  |_=>U)
 |_=>U
noncomputable def Ez(a b:E):E:=(((xm a).bind λi=>(xm b).map λj=>E.c<|.aa<|i+j).getD<|.bI .i a b)
noncomputable def abQ:List f7:=[.ez,.j,.q,.y,.u,.ry]
noncomputable def abR:List qf:=[.eq,.ne,.lt,.gt,.ge,.le,.i,.q,.j,.u]
noncomputable def EA(o:Oa)(a b:E):Option E:=match decide (o=.Add) with
 |true=>O<|Ez a b
 |false=>(abQ.find? λop=>decide (o=ma op)).map λop=>.bI op a b
noncomputable def Mq(a:aX):Option E:=match a with
 |.Constant c _ _=>(match c with
  |.int i=>gd (decide (i=(i.toNat:Int)))<|O<|.qi i.toNat
  |_=>U)
 |_=>U
noncomputable def Mr(r:aX->E)(a:aX)(os:List CmpOp)(d:List aX):Option E:=mR os λo=>mR d λb=>(abR.find? λc=>decide (o=qQ c)).bind λc=>gd (!Of (qQ c) b)<|O<|.b9 c (r a)<|r b
noncomputable def Mt(r:aX->E)(a:aX)(x:aw):Option E:=gd (decide (x.cps.toList∈iM)&&uw a)<|O<|.q (r a) x.cps.toList
noncomputable def oE(r:aX->E)(e:Option aX):E:=match e with
 |none=>.c .none
 |some e=>r e
noncomputable def Mu(r:aX->E)(a i:aX):Option E:=match i with
 |.Slice lo b st _=>gd st.isNone<|O<|.slc (r a) (oE r lo)<|oE r b
 |i=>O<|.y (r a)<|r i
noncomputable def boM(op:Ob)(a b:E):E:=match op with
 |.And=>.bN a b
 |.Or=>.or a b
noncomputable def Mv(op:Ob)(r:aX->E)(l:List aX):aX->E:=l.rec r λb _ c a=>boM op (r a)<|c b
noncomputable def p6:List eX:=[.u,.j,.vg,.q,.i,.vh,.vi,.vj,.y,.tg,.ti,.tj]
noncomputable def Mw(x:aw)(a:List E):Option E:=cond (decide (x="len")) (O<|.bi .bK a)<|cond (decide (x="int")) (O<|.bi .aa a)<|cond (decide (x="max")) (O<|.bi .i a)<|gd (decide (x="sum"))<|O<|.bi .j a
noncomputable def EB(K:cT)(a:aH)(b:List E):Option E:=match p6.find? λc=>de c==a with
 |some c=>O<|.ce c b
 |none=>gd ((lG.lookup a).isSome&&mo K (.ref a))<|O<|.ao a b
noncomputable def Mx(K:cT)(sc:c4)(r:aX->E)(pf:aX)(as:List aX)(b:dq):Option E:=match pf with
 |.Name x _=>gd (iu sc x&&kN x) ((gu K ey x).bind λo=>match o with
  |some c=>(match c with
   |.ref a=>EB K a<|as.map r
   |_=>U)
  |none=>Mw x<|as.map r)
 |.Attribute o x ap=>gd (uw o&&(decide (as.length<30)&&(ap.endLine==b.line)))<|O<|.aO (r o) x.cps.toList<|as.map r
 |_=>U
noncomputable def zW(a:List E):Option (List V):=match a with
 |[]=>O []
 |e::r=>match e with
  |.c v=>(zW r).map (v::·)
  |_=>U
noncomputable def zX(a:List<|Option aX):Option (List aX):=match a with
 |[]=>O []
 |e::r=>match e with
  |some e=>(zX r).map (e::·)
  |none=>U
noncomputable def EC(r:aX->E)(ks:List<|Option aX)(b:List aX):Option E:=match ks.isEmpty with
 |true=>gd b.isEmpty<|O<|.dct [] []
 |false=>(zX ks).bind λps=>(zW<|ps.map r).bind λa=>gd (El a&&(decide (a.length=(b.map r).length)&&(decide (a.length≠0)&&decide (a.length<=15))))<|O<|.dct (a.map .c)<|b.map r
noncomputable def xn(it:aX):Option aX:=zV it λg as a _=>pZ g λx _=>gd (decide (x="range")&&a.isEmpty)<|mR as O
noncomputable def xo(K:cT)(sc:c4)(x:aw):Bool:=(gu K ey x==O U)&&iu sc x
noncomputable def zY(a:aX):Bool:=a.ctorIdx !=7
noncomputable def ED(K:cT)(ns:List aw)(hd:Bool)(r:c4->aX->E)(sc:c4)(e:aX)(b:List FP)(scope:c4):Option E:=mR b λg=>gd (g.ifs.isEmpty&&decide (g.is_async=0))<|pZ g.target λa _=>gd (pX sc scope ns (ns.idxOf a) a)<|match xn g.iter with
 |some n=>gd (!hd&&(xo K sc "range"&&fL n))<|O<|.lE (r (kh sc scope) e) (ns.idxOf a)<|r sc n
 |none=>gd (zY g.iter)<|O<|.i (r (kh sc scope) e) (ns.idxOf a)<|r sc g.iter
noncomputable def My(K:cT)(ns:List aw)(hd:Bool)(r:sF)(sc:c4)(f:aX):Option E:=match f with
 |.Constant c _ _=>Mn c
 |.IfExp t a b _=>O<|.bz (r I sc t) (r C sc a)<|r C sc b
 |.Tuple d _ _=>gd (d.all fL&&decide (d.length<=1000))<|O<|.u<|d.map<|r C sc
 |.List d _=>gd (d.all fL&&decide (d.length<=1000))<|O<|.af<|d.map<|r C sc
 |.Dict ks g _=>EC (r C sc) ks g
 |.ListComp e h scope _=>ED K ns hd (r C) sc e h scope
 |_=>U
noncomputable def Mz(K:cT)(ns:List aw)(hd:Bool)(r:sF)(t:Bool)(sc:c4)(pe:aX):Option E:=match pe with
 |.BoolOp op l _=>(match l with
  |[]=>U
  |a::l=>O<|Mv op (r t sc) l a)
 |.UnaryOp o a _=>(match o with
  |.Not=>O<|.cB<|r t sc a
  |.USub=>gd (!t)<|Mq a
  |_=>U)
 |.Compare a os d _=>Mr (r C sc) a os d
 |.BinOp a o b _=>EA o (r C sc a)<|r C sc b
 |.Name x _=>Ey K ns sc x
 |.Attribute a x _=>Mt (r C sc) a x
 |.Subscript a i _=>Mu (r C sc) a i
 |.Call g as e c=>gd (e.isEmpty&&(!hd&&as.all fL))<|Mx K sc (r C sc) g as c
 |pe=>gd (!t)<|My K ns hd r sc pe
noncomputable def MA(K:cT)(ns:List aw)(hd:Bool)(n:Nat):sF:=n.rec (λ_ _ _=>.j) λ_ r t sc a=>(Mz K ns hd r t sc a).getD .j
noncomputable def uD(a:aX):Bool:=a.ctorIdx==8||(a.ctorIdx==9||a.ctorIdx==10)
noncomputable def MB(a:aX):Bool:=a.ctorIdx !=25
noncomputable def MC(ts:List aX):Option (List<|aw×dq):=ts.rec (O []) λt _ a=>pZ t λx p=>a.map ((x,p)::·)
noncomputable def abS(K:cT)(ns:List aw)(hd:Bool)(r:c4->aX->E)(sc:c4)(a:aX):Option E:=match a with
 |.ListComp e b scope _=>ED K ns hd r sc e b scope
 |_=>U
noncomputable def EE(K:cT)(ns:List aw)(hd:Bool)(r:c4->aX->E)(sc:c4)(a:aX):Option E:=match uD a with
 |true=>abS K ns hd r sc a
 |false=>O<|r sc a
noncomputable def MD(K:cT)(ns:List aw)(hd:Bool)(r:c4->aX->E)(sc:c4)(t a:aX):Option S:=match t with
 |.Name x _=>gd (jm sc ns (ns.idxOf x) x)<|(EE K ns hd r sc a).map<|.i<|ns.idxOf x
 |.Attribute o x _=>gd (decide (x.cps.toList∈iM))<|O<|.cP (r sc o) x.cps.toList<|r sc a
 |.Tuple ts _ _=>gd (!hd&&MB a) ((MC ts).bind λtl=>gd (xe sc ns (tl.map λq=>ns.idxOf q.1) tl)<|O<|.iW (tl.map λq=>ns.idxOf q.1)<|r sc a)
 |_=>U
noncomputable def abT:List f7:=[.i,.ez]
noncomputable def ME(ns:List aw)(r:aX->E)(sc:c4)(t:aX)(o:Oa)(a:aX):Option S:=(abT.find? λop=>decide (o=ma op)).bind λop=>match t with
 |.Name x _=>gd (jm sc ns (ns.idxOf x) x&&kN x)<|O<|.db (ns.idxOf x) op<|r a
 |.Attribute b x _=>gd (decide (x.cps.toList∈iM))<|O<|.oW (r b) x.cps.toList op<|r a
 |_=>U
noncomputable def MF(K:cT)(ns:List aw)(hd:Bool)(r:aX->E)(sc:c4)(t it:aX)(b:List S):Option S:=pZ t λx _=>gd (!hd&&jm sc ns (ns.idxOf x) x)<|match xn it with
 |some n=>gd (xo K sc "range"&&fL n)<|O<|.jw (ns.idxOf x) (r n) b
 |none=>gd (zY it)<|O<|.y (ns.idxOf x) (r it) b
noncomputable def EF(K:cT)(sc:c4):Bool:=(gu K ey "ParseStop"==O (O<|.ref bZ))&&iu sc "ParseStop"
noncomputable def MG(K:cT)(hd:Bool)(r:aX->E)(sc:c4)(e c:Option aX):Option S:=gd (!hd&&(c.isNone&&(EF K sc&&xo K sc "str")))<|e.bind λe=>zV e λg as b _=>pZ g λx _=>mR as λa=>gd (decide (x="ParseStop")&&b.isEmpty)<|zV a λg as b _=>pZ g λx _=>mR as λa=>gd (decide (x="str")&&(b.isEmpty&&fL a))<|O<|.x7<|r a
noncomputable def MH(K:cT)(ns:List aw)(r:aX->E)(rs:List cA->List S)(sc:c4)(b:List cA)(hs:List ae8):Option S:=gd (EF K sc)<|mR b λst=>mR hs λh=>match h with
 |.ExceptHandler ht nm hb _=>ht.bind λht=>pZ ht λx _=>gd (decide (x="ParseStop")&&(nm.isNone&& !hb.isEmpty))<|match st with
  |.Assign ts a _=>mR ts λt=>pZ t λy _=>gd (!uD a&&jm sc ns (ns.idxOf y) y)<|O<|.m4 (ns.idxOf y) (r a)<|rs hb
  |.Expr a _=>gd ((sc.kind== .function)&& !uD a)<|O<|.m5 (r a)<|rs hb
  |_=>U
noncomputable def abU(K:cT)(ns:List aw)(hd:Bool)(r:Bool->sF)(rs:Bool->List cA->List S)(sc:c4)(st:cA):Option S:=match st with
 |.Assign ts e _=>mR ts λt=>MD K ns hd (r hd C) sc t e
 |.AugAssign t o e _=>ME ns (r hd C sc) sc t o e
 |.Expr e _=>gd ((sc.kind== .function)&& !uD e)<|O<|.ex<|r hd C sc e
 |.If t a b _=>O<|.bQ (r hd I sc t) (rs hd a)<|rs hd b
 |.While t b o _=>gd o.isEmpty<|O<|.gJ (r hd I sc t)<|rs hd b
 |.For t it b o _=>gd o.isEmpty<|MF K ns hd (r hd C sc) sc t it<|rs hd b
 |.Return e _=>O<|.am<|oE (r hd C sc) e
 |.Raise e c _=>MG K hd (r hd C sc) sc e c
 |.Try b hs d f _=>gd (d.isEmpty&&f.isEmpty)<|MH K ns (r hd C sc) (rs I) sc b hs
 |.Pass _=>O .Bb
 |.Break _=>O .u
 |.Continue _=>O .q
 |_=>U
noncomputable def uE(K:cT)(ns:List aw)(n:Nat):Bool->c4->cA->S:=n.rec (λ_ _ _=>.j) λ_ a hd sc st=>(abU K ns hd (λhd=>MA K ns hd 60) (λhd l=>l.map<|a hd sc) sc st).getD .j
end
section
variable{B:Type}{P:B->Prop}
theorem MI{b:Type}{o:Option b}{k:b->B}(h:∀a,o=O a->P (k a)):Sd P (o.map k):=by
 cases o with
 |none=>exact gR
 |some a=>exact c0<|h a J
theorem EG(h:b=I->Sd P x)(a:Sd P y):Sd P (cond b x y):=by
 cases b with
 |false=>exact a
 |true=>exact h J
end
noncomputable def Sm(t:Bool)(f:Fx)(e:E)(j:aX):Prop:=match t with
 |true=>iN f e j
 |false=>bj f e j
noncomputable def oh(ns:List aw)(hd:Bool)(f:Fx):Prop:=f.g.ns=ns/\(hd=C->Av f.g.ag f.g.A)
noncomputable abbrev RS(ns:List aw)(hd:Bool)(r:sF):Prop:=∀t (f:Fx),oh ns hd f->∀j,Sm t f (r t f.bo.scope j) j
section
variable{ns:List aw}{hd t:Bool}{r:sF}{q:aX->E}{f i:Fx}{p:dq}
theorem oh.wP(ok:oh ns hd f)(h:∃P a,i.g=f.g.wP P a):oh ns hd i:=h.elim λP h=>h.elim λa e=>by unfold oh;rw[e];exact ok
theorem MJ{j:aX}:Sm t f .j j:=by cases t<;>exactλp Q E T=>(T.ne J).elim
theorem xq{j:aX}(h:Sd (λe=>bj f e j) o)(b:∀a whole,isTrue j a whole=(do let v<-whole;Og j.pos;holding [v]<|Au v)):Sd (λe=>Sm t f e j) o:=by
 cases t with
 |true=>exactλe q=>Zf b<|h e q
 |false=>exact h
theorem MK{j:aX}(h:Sd (λe=>bj f e j) o):Sd (λe=>Sm t f e j) (gd (!t) o):=by
 cases t with
 |true=>exact gR
 |false=>exact h
theorem abV:Sd (λe=>bj f e<|.Constant c n p) (Mn c):=by
 cases c with
 |int i=>exact c0 Zo
 |str y=>exact dL λh=>c0<|Zp J<|dT h
 |bool b=>exact c0 Zq
 |none=>exact c0 Zr
 |_=>exact gR
theorem ML{b:Type}{o:Option<|Option b}{a:b}(h:o.bind id=O a):o=O (O a):=by
 cases o with
 |none=>exact ba h
 |some o=>exact bJ O h
theorem abW{x:aw}:Sd (λe=>bj f e<|.Name x p) (Ey cx.K f.g.ns f.bo.scope x):=by
 unfold Ey
 cases h:DY f.bo.scope x&&(kN x&&(dy f.g.ns (f.g.ns.idxOf x)==x)) with
 |true=>exact c0<|Zu (beq_iff_eq.mp<|bR<|bR h) (bL h)<|bL<|bR h
 |false=>exact pY λa e=>dL λh=>c0<|Zt (ML e) (bL h) (bL<|bR h)<|bR<|bR h
theorem MN{i:Int}(h:xm e=O i):e=.c (.aa i):=by
 induction e using E.casesOn with
 |c v=>induction v using V.casesOn with
  |aa j=>exact bJ (λi=>E.c<|.aa i)<|cS h
  |_=>exact ba h
 |_=>exact ba h
theorem abX(e:bj f a c)(hb:bj f b d):bj f (Ez a b) (.BinOp c .Add d p):=by
 have h:bj f (.bI .i a b) (.BinOp c .Add d p):=K6 (op:=.i) e hb;unfold Ez
 cases g:xm a with
 |none=>exact h
 |some i=>cases h2:xm b with
  |none=>exact h
  |some j=>
   rw[MN g,MN h2] at h;exactλp Q E T=>h p Q E T
theorem abY(g:bj f a c)(hb:bj f b d):Sd (λe=>bj f e<|.BinOp c o d p) (EA o a b):=by
 unfold EA
 cases h:decide (o=.Add) with
 |true=>exact c0<|dT h▸abX g hb
 |false=>exact MI λop e=>by rw[dT (E8 (p:=λop=>decide (o=ma op)) e)];exact K6 g hb
theorem abZ:Sd (λe=>bj f e<|.UnaryOp .USub a p) (Mq a):=by
 refine dn λb=>?_
 cases a with
 |Constant c n p=>cases c with
  |int i=>exact b (dL λh=>c0<|Zv<|dT h)
  |_=>exact b gR
 |_=>exact b gR
theorem zZ{x:aw}:x=eb x.cps.toList:=rfl
theorem z4(h:zY a=I)(b:dA)(x:ak):uW a b x=pure x:=by
 cases a<;>first|rfl|exact bc h
theorem ab0(ks:List E):∀{a:List V},zW ks=O a->ks=a.map .c:=by
 induction ks with
 |nil=>exactλh=>cS h▸J
 |cons k ks b=>
  intro a h
  induction k using E.casesOn with
  |c v=>exact aB (fX.mp (show(zW ks).map (v::·)=O a from h)) λe d h2=>h2▸bJ (E.c v::·) (b d)
  |_=>exact ba h
theorem ab1(ps:List<|Option aX):∀{a:List aX},zX ps=O a->ps=a.map some:=by
 induction ps with
 |nil=>exactλh=>cS h▸J
 |cons k ks b=>
  intro c h
  induction k using gD with
  |none=>exact ba h
  |some v=>exact aB (fX.mp (show(zX ks).map (v::·)=O c from h)) λe d h2=>h2▸bJ (O v::·) (b d)
theorem MO:Sd (λn=>∃np b,it=.Call (.Name "range" np) [n] [] b) (xn it):=
 Ex (P:=λit n=>∃np b,it=.Call (.Name "range" np) [n] [] b) λg as e b=>qV (P:=λg n=>∃np c,aea g as e b=.Call (.Name "range" np) [n] [] c) λx np=>dL λh=>by
  rw[dT (bL h),lq.mp (bR h)];exact og (P:=λas n=>∃d c,aea (.Name "range" np) as [] b=.Call (.Name "range" d) [n] [] c) λa=>c0 ⟨np,b,J⟩
theorem MP{M:List FP->E->Prop}{r:c4->aX->E}{i:List FP}(k1:∀it a b,zY it=I->pX sc scope ns (ns.idxOf a) a=I->M [⟨.Name a b,it,[],0⟩] (.i (r (kh sc scope) e) (ns.idxOf a)<|r sc it))
  (j:∀n np c a b,hd=C->xo cx.K sc "range"=I->fL n=I->pX sc scope ns (ns.idxOf a) a=I->M [⟨.Name a b,.Call (.Name "range" np) [n] [] c,[],0⟩] (.lE (r (kh sc scope) e) (ns.idxOf a)<|r sc n)):Sd (M i) (ED cx.K ns hd r sc e i scope):=
 og (P:=M) λg=>by
  obtain⟨t,it,d,k⟩:=g;refine dL λh=>?_;rw[show d=[] from lq.mp (bL h),show k=0 from dT (bR h)];refine qV (P:=λt e=>M [⟨t,it,[],0⟩] e) λa b=>dL λhc=>?_
  cases u:xn it with
  |none=>exact dL λh=>c0<|k1 it a b h hc
  |some n=>exact(MO n u).elim λnp h=>h.elim λc e=>dL λh=>c0<|e▸j n np c a b (kf<|bL h) (bL<|bR h) (bR<|bR h) hc
theorem xr{K:cT}(h:xo K sc x=I):gu K ey x=O none:=beq_iff_eq.mp<|bL h
section
variable(u:∀j,bj f (q j) j)
include u
theorem ab2{os:List CmpOp}:Sd (λe=>Sm t f e<|.Compare a os d p) (Mr q a os d):=
 og (P:=λos e=>Sm t f e<|.Compare a os d p) λo=>og (P:=λd e=>Sm t f e<|.Compare a [o] d p) λb=>pY λc e=>dL λh=>c0<|by
  rw[dT (E8 (p:=λc=>decide (o=qQ c)) e)]
  cases t with
  |true=>exact Zg (kf h) (u a)<|u b
  |false=>exact Y8 (kf h) (u a)<|u b
theorem ab3(b:∀cl,hD cx.K cl):Sd (λe=>bj f e<|.Attribute a x p) (Mt q a x):=dL λh=>c0<|Zy b zZ (dT<|bL h) (bR h)<|u a
theorem MQ:zI f (oE q e) e:=by
 cases e with
 |none=>rfl
 |some e=>exact u e
theorem ab4{a i:aX}:Sd (λe=>bj f e<|.Subscript a i p) (Mu q a i):=by
 refine dn λb=>?_
 cases i with
 |Slice lo c st p=>cases st with
  |none=>exact b<|c0<|aaH (u a) (MQ u)<|MQ u
  |some _=>exact b gR
 |_=>exact b<|c0<|aaC (λ_ _=>J) (u a)<|u _
theorem uF(l:List aX):n6 f (l.map q) l:=by
 induction l with
 |nil=>exact Zz
 |cons e l a=>exact ZA (u e) a
theorem MR(l:List aX):n8 f (l.map q) l:=by
 induction l with
 |nil=>trivial
 |cons e l a=>exact⟨u e,a⟩
theorem ab5(F:Av f.g.ag f.g.A){as:List aX}(b:gu cx.K ey x=O (O<|.ref a))(d:iu f.bo.scope x=I)(h4:kN x=I)(hp:as.all fL=I):Sd (λe=>bj f e<|.Call (.Name x np) as [] p) (EB cx.K a<|as.map q):=by
 unfold EB
 cases e:p6.find? λc=>de c==a with
 |some c=>exact c0<|ZC F (beq_iff_eq.mp (E8 (p:=λc=>de c==a) e)▸b) d h4 hp<|uF u as
 |none=>exact dL λh=>c0<|ZB F b d h4 hp (bR h)<|uF u as
theorem ab6(F:Av f.g.ag f.g.A){as:List aX}(b:gu cx.K ey x=O U)(c:iu f.bo.scope x=I)(h4:kN x=I)(hp:as.all fL=I):Sd (λe=>bj f e<|.Call (.Name x np) as [] p) (Mw x<|as.map q):=
 have d:=uF u as
 EG (λe=>c0 (by cases dT e;exact zE (fv:=.builtin "len") b J (D J) nofun c h4 hp (λp as a=>ZW) d))
 (EG (λe=>c0 (by cases dT e;exact zE (fv:=.type "int") b J (D J) nofun c h4 hp (λp as a=>ZY) d)) (EG (λe=>c0 (by cases dT e;exact zE (fv:=.builtin "max") b J (D J) nofun c h4 hp (λp as a=>ZX F.fg) d)) (dL λe=>c0 (by cases dT e;exact zE (fv:=.builtin "sum") b J (D J) nofun c h4 hp (λp as a=>Z0 F.fg) d))))
theorem ab7(F:Av f.g.ag f.g.A){as:List aX}(hp:as.all fL=I):Sd (λe=>bj f e<|.Call pf as [] p) (Mx cx.K f.bo.scope q pf as p):=by
 refine dn λb=>?_
 cases pf with
 |Name x np=>
  refine b<|dL λh=>pY λo e=>?_
  cases o with
  |none=>exact ab6 u F e (bL h) (bR h) hp
  |some c=>
   refine dn λb=>?_
   induction c using sW with
   |ref a=>exact b<|ab5 u F e (bL h) (bR h) hp
   |_=>exact b gR
 |Attribute o x ap=>exact b (dL λh=>c0<|ZL F (λp v c=>ZV) zZ (bL h) hp (dT<|bL<|bR h) (bR<|bR h) (u o)<|uF u as)
 |_=>exact b gR
end
variable(hr:RS ns hd r)(ok:oh ns hd f)
include hr
theorem ab8(ok:oh ns hd f)(l:List aX):∀a,Sm t f (Mv op (r t f.bo.scope) l a) (.BoolOp op (a::l) p):=by
 have h:=hr t f ok
 induction l with
 |nil=>
  intro a;have h:=h a
  cases t<;>cases op<;>first|exact Y9 h|exact Zi h|exact Zj h
 |cons b l c=>
  intro a;have h:=h a;have c:=c b
  cases t<;>cases op<;>first|exact Za h c|exact Zb h c|exact Zm h c|exact Zn h c
include ok
theorem z5:∀i:Fx,(∃P a,i.g=f.g.wP P a)->i.bo.scope=kh f.bo.scope scope->bj i (r C (kh f.bo.scope scope) e) e:=λi h e=>e▸hr C i (ok.wP h) _
theorem ab9:Sd (λe=>bj f e<|.Dict ks a p) (EC (r C f.bo.scope) ks a):=by
 unfold EC
 cases b:ks.isEmpty with
 |true=>exact dL λc=>c0 (by rw[lq.mp b,lq.mp c];exact aba)
 |false=>
  refine pY λps e1=>pY λd e2=>dL λh=>c0 ?_;rw[ab1 _ e1];exact aa9 (bL h) (dT<|bL<|bR h) (dT<|bL<|bR<|bR h) (dT<|bR<|bR<|bR h) (λi h e=>ab0 _ e2▸e▸MR (hr C i<|ok.wP h) ps) λi h e=>e▸MR (hr C i<|ok.wP h) a
theorem aca{j:aX}:Sd (λe=>bj f e j) (My cx.K ns hd r f.bo.scope j):=by
 have g:=hr C f ok;refine dn λd=>?_
 cases j with
 |Constant c n p=>exact d abV
 |IfExp o a b p=>exact d<|c0<|Ze (hr I f ok o) (g a)<|g b
 |Tuple i k p=>exact d (dL λh=>c0<|ZG (bL h) ((c3 ..).symm▸dT (bR h))<|uF g i)
 |List i p=>exact d (dL λh=>c0<|ZH (bL h) ((c3 ..).symm▸dT (bR h))<|uF g i)
 |Dict ks x p=>exact d<|ab9 hr ok
 |ListComp e l scope p=>exact d (MP (M:=λl s=>bj f s<|.ListComp e l scope p) (λit u v h hc=>LP (z4 h) (ok.1.symm▸hc) (g it)<|z5 hr ok) λn np y u v w m h2 hc=>LR (ok.2 w).fg (xr m) (bR m) h2 (λ_ _=>J) (ok.1.symm▸hc) (g n)<|z5 hr ok)
 |_=>exact d gR
theorem acb(k:∀cl,hD cx.K cl){j:aX}:Sd (λe=>Sm t f e j) (Mz cx.K ns hd r t f.bo.scope j):=by
 have d:=hr false f ok
 refine dn λc=>?_
 cases j with
 |BoolOp op l p=>cases l with
  |nil=>exact c gR
  |cons a l=>exact c (c0 (ab8 hr ok l a))
 |UnaryOp o a p=>cases o with
  |Not=>
   have h:=hr t f ok a
   cases t with
   |true=>exact c (c0 (Zh h))
   |false=>exact c (c0 (Zd h))
  |USub=>exact c (MK abZ)
  |_=>exact c gR
 |Compare a os m p=>exact c (ab2 d)
 |BinOp a o b p=>exact c (xq (abY (d a) (d b)) λ_ _=>rfl)
 |Name x p=>exact c (xq (ok.1▸abW) λ_ _=>rfl)
 |Attribute a x p=>exact c (xq (ab3 d k) λ_ _=>rfl)
 |Subscript a i p=>exact c (xq (ab4 d) λ_ _=>rfl)
 |Call g as s p=>exact c (xq (dL λh=>lq.mp (bL h)▸ab7 d (ok.2 (kf (bL (bR h)))) (bR (bR h))) λ_ _=>rfl)
 |_=>exact c (MK (aca hr ok))
end
theorem acd(a:∀cl,hD cx.K cl){ns:List aw}{hd:Bool}(n:Nat):RS ns hd (MA cx.K ns hd n):=by
 induction n with
 |zero=>exactλt f ok j=>MJ
 |succ n b=>exactλt f ok j=>Mm (acb b ok a) MJ
theorem z6{q:aX}(h:uD q=C)(t:Option aX)(line:Nat)(a:dA):oy q t line a=pure false:=by
 cases q<;>first|rfl|exact c5 h
theorem ace{q b:aX}{j:dq}(line:Nat)(a:dA):oy q (O<|.Attribute b x j) line a=pure false:=by
 cases q<;>rfl
theorem acf{q:aX}{j:dq}(line:Nat)(a:dA):aeI [.Tuple ts k j] q line a=pure false:=by
 cases q<;>rfl
theorem acg{q:aX}(h:MB q=I){j:dq}(a:dA):aeJ [.Tuple ts k j] q a=pure none:=by
 cases q<;>first|rfl|exact bc h
noncomputable def EH(sc scope:c4)(x:aw)(p u:dq):Bool:=(if sc.kind.isAnnotationScope then ScopeKind.function else sc.kind)== .function&&sc.names.lookup x==O .local&&u.line==p.line&& !(scope.names.any λ(n,k)=>n==x&&(k== .local||k== .cell))
theorem z7{g:List FP}{p u:dq}{c:dA}(line:Nat)(h:EH c.scope scope x p u=b):oy (.ListComp a g scope p) (O<|.Name x u) line c=pure b:=h▸J
theorem MS{b c:Type}{P:c->Prop}{o:Option b}{k:b->c}(h:Sd (λa=>P<|k a) o):Sd P (o.map k):=MI h
theorem ach(ts:List aX):Sd (λtl=>ts=pW tl) (MC ts):=by
 induction ts with
 |nil=>exact c0 J
 |cons t ts a=>exact qV (P:=λt tl=>t::ts=pW tl) λx p=>MS λe q=>bJ (Expr.Name x p::·)<|a e q
noncomputable def uG(ns:List aw)(hd:Bool)(g:Gx):Prop:=g.ns=ns/\(hd=C->g.hd=C/\Av g.ag g.A)
section
variable{ns:List aw}{hd:Bool}{g:Gx}{r:sF}{u j p:dq}{q:aX}
theorem MT{a:dA}(h:(a.scope.kind== .function)=I):FD a=false:=by
 unfold FD;rw[beq_iff_eq.mp h];rfl
theorem z8{k:cA->S}(h:∀st,di g (k st) st)(l:List cA):kg g (l.map k) l:=by
 induction l with
 |nil=>exact Z8
 |cons st l a=>exact Z9 (h st) a
theorem EI{K:cT}(h:EF K sc=I):gu K ey "ParseStop"=O (O<|.ref bZ):=beq_iff_eq.mp<|bL h
theorem uG.i(ok:uG ns hd g){a:Fx}(h:∃P b,a.g=g.wP P b):oh ns hd a:=h.elim λP h=>h.elim λb e=>by unfold oh;rw[e];exact⟨ok.1,λh=>(ok.2 h).2⟩
theorem uG.f(ok:uG ns hd g)(w:Wt g):oh ns hd w.f:=⟨ok.1,λh=>(ok.2 h).2⟩
variable(hr:RS ns hd r)(ok:uG ns hd g)
include hr ok
theorem sG(q:aX)(w:Wt g):bj w.f (r C g.c.aS.scope q) q:=hr C w.f (ok.f w) q
theorem aci(a:jm g.c.aS.scope g.ns i x=I):Sd (λs=>di g s<|.Assign [.Name x u] q j) ((EE cx.K ns hd (r C) g.c.aS.scope q).map<|.i i):=by
 have b:=sG hr ok;unfold EE
 cases hc:uD q with
 |false=>exact c0<|D4 (z6 hc _ _ _) (b _) a
 |true=>
  refine dn λl=>?_
  cases q with
  |ListComp e m scope p=>
   refine l<|MS<|MP (M:=λm o=>di g (.i i o)<|.Assign [.Name x u] (.ListComp e m scope p) j) (λit t d h hc=>?_) λn np y t d v c h2 hc=>?_
   ·cases hb:EH g.c.aS.scope scope x p u with
    |true=>exact aa0 (z7 _ hb) (z4 h) (ok.1.symm▸hc) (b it) (λf k e=>e▸hr C f (ok.i k) _) a
    |false=>exact D4 (z7 _ hb) (λw=>LP (z4 h) (ok.1.symm▸hc) (b it w)<|z5 hr<|ok.f w) a
   ·have F:=(ok.2 v).2.fg
    cases hb:EH g.c.aS.scope scope x p u with
    |true=>exact aa1 F (xr c) (bR c) h2 (z7 _ hb) (λ_ _=>J) (ok.1.symm▸hc) (b n) (λf k e=>e▸hr C f (ok.i k) _) a
    |false=>exact D4 (z7 _ hb) (λw=>LR F (xr c) (bR c) h2 (λ_ _=>J) (ok.1.symm▸hc) (b n w)<|z5 hr<|ok.f w) a
  |_=>exact l gR
theorem acj(c:∀cl,hD cx.K cl):Sd (λs=>di g s<|.Assign [t] q j) (MD cx.K ns hd (r C) g.c.aS.scope t q):=by
 have b:=sG hr ok;refine dn λa=>?_
 cases t with
 |Name x u=>exact a (dL λh=>aci hr ok<|ok.1.symm▸h)
 |Attribute o x u=>exact a (dL λh=>c0<|aak c (ace _ _) (b q) (b o) zZ<|dT h)
 |Tuple ts k u=>exact a (dL λh=>pY λtl e=>dL λht=>c0<|by
   rw[ach ts tl e];exact aaN (ok.2<|kf<|bL h).2.fg (acf _ _) (acg (bR h) _) (b q)<|ok.1.symm▸ht)
 |_=>exact a gR
theorem ack(f:∀cl,hD cx.K cl):Sd (λs=>di g s<|.AugAssign t o q j) (ME ns (r C g.c.aS.scope) g.c.aS.scope t o q):=by
 have c:=sG hr ok;refine pY λop e=>?_;have a:w0 op=true:=(d2.mp<|List.mem_of_find?_eq_some e).elim (λe=>e▸J) λh=>iv.mp h▸J;rw[dT (E8 (p:=λop=>decide (o=ma op)) e)];refine dn λd=>?_
 cases t with
 |Name x u=>exact d (dL λh=>c0<|aal a (c q) (ok.1.symm▸bL h)<|bR h)
 |Attribute b x u=>exact d (dL λh=>c0<|aam f a (c q) (c b) zZ<|dT h)
 |_=>exact d gR
theorem acl{b:List cA}(hb:∀P c,kg (g.wP P c) (b.map k) b):Sd (λs=>di g s<|.For t it b [] j) (MF cx.K ns hd (r C g.c.aS.scope) g.c.aS.scope t it<|b.map k):=
 qV (P:=λt s=>di g s<|.For t it b [] j) λx u=>dL λh=>by
  have a:=sG hr ok;have F:=(ok.2<|kf<|bL h).2.fg
  cases d:xn it with
  |none=>exact dL λhs=>c0<|aaw F (z4 hs) (a it) hb<|ok.1.symm▸bR h
  |some n=>exact(MO n d).elim λnp f=>f.elim λi e=>dL λh2=>c0<|e▸aax F (xr<|bL h2) (bR<|bL h2) (bR h2) (λ_ _=>J) (a n) hb (ok.1.symm▸bR h)
theorem acm{u:aH}(v:uC cx.K u l)(m:mo cx.K (.ref bZ)=I){e c:Option aX}:Sd (λs=>di g s<|.Raise e c j) (MG cx.K hd (r C g.c.aS.scope) g.c.aS.scope e c):=
 dL λh=>pY λe w=>by
  have k:=bR<|bR h;rw[w,E4.mp (bL<|bR h)];refine Ex (P:=λe s=>di g s<|.Raise (O e) U j) λf as b d=>qV (P:=λf s=>di g s<|.Raise (O<|.Call f as b d) U j) λx i=>og (P:=λas s=>di g s<|.Raise (O<|.Call (.Name x i) as b d) U j) λa=>dL λo=>?_;rw[dT (bL o),lq.mp (bR o)];refine Ex (P:=λa s=>di g s<|.Raise (O<|.Call (.Name "ParseStop" i) [a] [] d) U j) λf as b t=>qV (P:=λf s=>di g s<|.Raise (O<|.Call (.Name "ParseStop" i) [.Call f as b t] [] d) U j) λx y=>og (P:=λas s=>di g s<|.Raise (O<|.Call (.Name "ParseStop" i) [.Call (.Name x y) as b t] [] d) U j) λa=>dL λh2=>c0 ?_;rw[dT (bL h2),lq.mp (bL<|bR h2)];have q:=ok.2<|kf<|bL h;exact abL v q.2 q.1 (EI<|bL k) m (bR<|bL k) (xr<|bR k) (bR<|bR k) (bR<|bR h2)<|sG hr ok a
theorem acn(a:xN cx.K bZ "BaseException"=I)(m:∀l,∀c:Gx,c.hd=I->c.ag=g.ag->c.ns=g.ns->c.c.aS=g.c.aS->kg c (l.map k) l):
  Sd (λs=>di g s<|.Try b hs [] [] j) (MH cx.K ns (r C g.c.aS.scope) (λl=>l.map k) g.c.aS.scope b hs):=
 dL λh=>og (P:=λb s=>di g s<|.Try b hs [] [] j) λst=>og (P:=λhs s=>di g s<|.Try [st] hs [] [] j) λd=>by
  obtain⟨ht,nm,hb,hp⟩:=d;refine pY λt e=>?_;rw[e];refine qV (P:=λt s=>di g s<|.Try [st] [.ExceptHandler (O t) nm hb hp] [] [] j) λx u=>dL λf=>?_;rw[dT (bL f),E4.mp (bL<|bR f)];have v:=bR<|bR f;refine dn λi=>?_
  induction hb using aW with
  |nil=>exact bc v
  |cons b0 suite=>
  have o:=sG hr ok
  cases st with
  |Assign ts q p=>exact i (og (P:=λts s=>di g s<|.Try [.Assign ts q p] [.ExceptHandler (O<|.Name "ParseStop" u) U (b0::suite) hp] [] [] j) λt=>qV (P:=λt s=>di g s<|.Try [.Assign [t] q p] [.ExceptHandler (O<|.Name "ParseStop" u) U (b0::suite) hp] [] [] j) λy w=>dL λh2=>c0 (abN (EI h) (bR h) a (m<|b0::suite) (z6 (kf<|bL h2) _ _ _) (o q)<|ok.1.symm▸bR h2))
  |Expr q p=>exact i (dL λh2=>c0<|abO (EI h) (bR h) a (m<|b0::suite) (MT<|bL h2) (z6 (kf<|bR h2) _ _ _)<|o q)
  |_=>exact i gR
end
theorem MU{g:Gx}{st:cA}:di g .j st:=λw Q E T=>(T.ne J).elim
theorem aco(f:∀cl,hD cx.K cl)(i:xN cx.K bZ "BaseException"=I)(j:mo cx.K (.ref bZ)=I)(y:uC cx.K x k){ns:List aw}(n:Nat):∀{hd:Bool} {g:Gx},uG ns hd g->∀st,di g (uE cx.K ns n hd g.c.aS.scope st) st:=by
 induction n with
 |zero=>exactλ_ st=>MU
 |succ n m=>
  intro hd g ok st;have hr:=acd f (ns:=ns) (hd:=hd) 60;have u:=sG hr ok;have v:=λq w=>hr I w.f (ok.f w) q;have hs:=z8<|m ok;refine Mm (P:=λs=>di g s st) (dn λd=>?_) MU
  cases st with
  |Assign ts e p=>exact d (og (P:=λts s=>di g s<|.Assign ts e p) λt=>acj hr ok f)
  |AugAssign t o e p=>exact d<|ack hr ok f
  |Expr e p=>exact d (dL λh=>c0<|Z6 (MT<|bL h) (z6 (kf<|bR h) _ _ _)<|u e)
  |If t a b p=>exact d<|c0<|aaa (v t) (hs a)<|hs b
  |While t b o p=>exact d (dL λh=>c0<|lq.mp h▸aap (v t) (hs b))
  |For t it b o p=>exact d (dL λh=>lq.mp h▸acl hr ok λP z=>z8 (m (g:=g.wP P z) ok) b)
  |Return e p=>cases e with
   |none=>exact d<|c0 Z4
   |some e=>exact d<|c0<|Z5<|u e
  |Raise e c p=>exact d<|acm hr ok y j
  |Try b hs B E p=>
   refine d<|dL λh=>?_;rw[lq.mp (bL h),lq.mp (bR h)];refine acn hr ok i λl F _ G h2 A=>?_;rw[<-A];exact z8 (m ⟨h2.trans ok.1,λh=>c5 h⟩) l
  |Pass p=>exact d<|c0 Z1
  |Break p=>exact d<|c0 Z2
  |Continue p=>exact d<|c0 Z3
  |_=>exact d gR
noncomputable def acp{b:Type}(o:Option b)(f:b->Bool):Bool:=match o with
 |none=>C
 |some a=>f a
noncomputable def MV(f:ow):Bool:=decide (f.globals=ey)&&(f.closure.isEmpty&&decide (f.builtins=uS))
noncomputable def z9(f:ow)(p:List cA->Bool):Bool:=match f.body with
 |.stmts a=>p a
 |.expr _=>C
noncomputable def EJ(K:cT)(a:aH)(p:ow->List cA->Bool):Bool:=acp (K.lookup a) λo=>if h:o.data.ctorIdx=7 then N9 o.data h λf=>z9 f (p f) else C
noncomputable def Aa(K:cT)(a:aH)(ns:List aw)(np:Nat):Bool:=EJ K a λf b=>MV f&&(codeIn K f.code f.qualname&&((ns.take np).all (λy=>f.scope.names.lookup y==O .local||f.scope.names.lookup y==O .cell)&&(decide ((AI 0 f.scope.names []).map (·.1)).Nodup&&(decide ns.Nodup&&(decide (np=(ns.take np).length)&&(decide (np<=7)&&(!f.scope.isCoroutine&&(!f.scope.isGenerator&&(f.scope.kind== .function)))))))))
theorem isE{a:Type}{l:List a}(h:l.isEmpty=I):l=[]:=lq.mp h
theorem acq{Q:Prop}{f:ow}{p:List cA->Bool}(h:z9 f p=I)(k:∀a,f.body=.stmts a->p a=I->Q):Q:=by
 unfold z9 at h
 cases hb:f.body with
 |stmts a=>rw[hb] at h;exact k a hb h
 |expr _=>rw[hb] at h;exact bc h
theorem acr{Q:Prop}{K:cT}{p:ow->List cA->Bool}(h:EJ K b p=I)(k:∀c g a f i,K.lookup b=O ⟨c,g,.func f,a⟩->f.body=.stmts i->p f i=I->Q):Q:=by
 unfold EJ at h
 cases e:K.lookup b with
 |none=>rw[e] at h;exact bc h
 |some o=>
  rw[e] at h;obtain⟨c,g,d,a⟩:=o;exact Ku h λe1 h=>N9 (motive:=λd=>∀e1:d.ctorIdx=7,N9 d e1 (λf=>z9 f<|p f)=I->K.lookup b=O ⟨c,g,d,a⟩->Q) d e1 (λf j h e=>acq h λi hb h=>k c g a f i e hb h) e1 h e
theorem acs{f:ow}(hb:f.body=.stmts a)(h:MV f=I):f=fnOf f.name f.qualname f.params a f.scope f.defaults f.kwdefaults f.doc f.pyModule f.annotations f.code f.closureTuple:=by
 have b:=dT (bL h);have h2:=isE (bL<|bR h);have c:=dT<|bR<|bR h
 obtain⟨name,qual,params,body,scope,globals,closure,g,i,doc,pm,j,e,k,d⟩:=f;have b:globals=ey:=b;have h2:closure=[]:=h2;have c:d=uS:=c;have hb:body=.stmts a:=hb
 rw[b,h2,c,hb]
noncomputable def kO(K:cT)(a:aH):ow:=match K.lookup a with
 |some ⟨_,_,.func f,_⟩=>f
 |_=>default
theorem sH{K:cT}(h:K.lookup a=O ⟨c,d,.func f,b⟩):kO K a=f:=by
 unfold kO;rw[h]
noncomputable def xt(K:cT)(b:aH)(ns:List aw)(np:Nat)(a:List ak):Prop:=(λS=>xM K S<|FR (kO K b) ⟨a.take np,[]⟩)=λ_=>O<|(ns.take np).zip<|a.take np
theorem act:∀{a:List ak},a.length<=7->([a.getD 0 d,a.getD 1 d,a.getD 2 d,a.getD 3 d,a.getD 4 d,a.getD 5 d,a.getD 6 d]).take a.length=a
 |[],_=>rfl
 |[_],_=>rfl
 |[_,_],_=>rfl
 |[_,_,_],_=>rfl
 |[_,_,_,_],_=>rfl
 |[_,_,_,_,_],_=>rfl
 |[_,_,_,_,_,_],_=>rfl
 |[_,_,_,_,_,_,_],_=>rfl
 |_::_::_::_::_::_::_::_::_,h=>ax h<|Nat.not_le_of_lt<|hG 8 _
theorem Ab{Q:Prop}{K:cT}{ns:List aw}(h:Aa K p ns np=I)(hb:∀a b c d e f g,xt K p ns np [a,b,c,d,e,f,g])(k:∀r t j f u,K.lookup p=O ⟨r,t,.func f,j⟩->f.body=.stmts u->n9 K p (ns.take np) u f.scope->xj np ns.length ns->Q):Q:=
 acr h λr t j f u w l h=>by
  have k1:=bR<|bR<|bR h;have v:=bR<|bR k1;have x:=bR<|bR<|bR v;have nd:=dT<|bL<|bR k1;have m:=dT<|bL v;have e:=acs l<|bL h;refine k r t j f u w l ⟨⟨r,t,j,f.name,f.qualname,f.params,f.defaults,f.kwdefaults,f.doc,f.pyModule,f.annotations,f.code,f.closureTuple,e▸w,bL<|bR h,?_⟩,bL<|bR<|bR h,dT<|bL k1,nd.sublist<|List.take_sublist _ _,kf<|bL<|bR<|bR v,kf<|bL x,beq_iff_eq.mp<|bR x⟩ ⟨m,J,nd⟩;rw[<-e];refineλs i X o=>kp_binds X λS=>?_;have o:=o.trans m.symm;have q:=congrFun (hb (i.getD 0 .none) (i.getD 1 .none) (i.getD 2 .none) (i.getD 3 .none) (i.getD 4 .none) (i.getD 5 .none)<|i.getD 6 .none) S;rw[sH w,<-o,act (o▸dT (bL<|bR v))] at q;rw[q,o]
noncomputable abbrev nr(f:Fn)(l:List aw)(r:List<|Fn×List aw):List (Fn×List aw):=(f,l)::r
noncomputable def acu:List (Fn×List aw):=nr .j ["script","nums","kinds","pick","tree","parts","types","tokens","own","node","other","fewer","n","i"]<|nr 1087 ["nums","stack","roots","n","pick","r","count","kids","height","i","node","kid","tall","row"]<|nr 1082 ["stack","roots","node","height"]<|nr 1075 ["r","kid","name","q","flags"]<|nr 1068 ["name","flags","r","kid","ds","rest","tparams","params","i"]<|nr 1063 ["d","flags","rest","kind"]<|nr 1056 ["ds","rest","out","lax","count","i","d","flags","name","kind"]<|nr 1049 ["d","name","rest","bound","last"]<|nr 1042 ["name"]<|nr 1021 ["node","kind","mark_text","text","name","one"]<|nr 1016 ["node","between","text","tparams","params","ret","body"]<|nr 1009 ["node","kinds","text"]<|nr 1002 ["nodes","between","one"]<|nr 997 ["name"]<|nr 1028 ["text","out","at","start","c","word","cooked"]<|nr 1035 ["tokens","way","out","fresh","i","token","bars","parted"]<|nr 1108 ["tokens","at","out","depth","token"]<|nr 1101 ["d","r","own","i"]<|nr 1094 ["parts","types","tokens","p","node"]<|nr 1113 ["parts","types","pick","tokens","fresh","word","p","words","numbers","kind","one"]<|nr .c6 ["kind","a","at"]<|nr .aK ["kind","a","kids","at"]<|nr .i ["kind","a","kids","flags","at"]<|nr 70 ["nodes","at"]<|nr 194 ["self","file"]<|nr 201 ["self","number","at","args"]<|nr 306 ["self","tokens","diags"]<|nr 313 ["self"]<|nr 320 ["self","n","place"]<|nr 327 ["self","token"]<|nr 334 ["self","text"]<|nr 341 ["self","text"]<|nr 348 ["self","text"]<|nr 355 ["self","text"]<|nr 362 ["self","text"]<|nr 369 ["self","text"]<|nr 376 ["self","text"]<|nr 390 ["self"]<|nr 397 ["self"]<|nr 404 ["self"]<|nr 411 ["self","number","args"]<|nr 418 ["self","number","at","args"]<|nr 425 ["self","token"]<|nr 432 ["self"]<|nr 439 ["self"]<|nr 446 ["self"]<|nr 453 ["self","n","node"]<|nr 509 ["p","count"]<|nr 516 ["p","root","stack","kid","node","level"]<|nr 502 ["token","kind","text"]<|nr 523 ["p","kind","text"]<|nr 530 ["token"]<|nr 537 ["token"]<|nr 551 ["p","name"]<|nr 558 ["p"]<|nr 565 ["token"]<|nr 572 ["p","token","behind","joined"]<|nr 609 ["self","p"]<|nr 621 ["p","node"]<|nr 628 ["p"]<|nr 635 ["p","check"]<|nr 642 ["p","no_cond","saved","node"]<|nr .gI ["p"]<|nr 656 ["p"]<|nr 663 ["p","node","parts"]<|nr 670 ["p","node","parts"]<|nr 677 ["p","token"]<|nr 684 ["p","saved","key","node","links","index"]<|nr 698 ["self","p","left","at","inner"]<|nr 717 ["self","p","left","token","name","args"]<|nr 729 ["p","behind"]<|nr 736 ["p","at","name","links"]<|nr 743 ["p","token","name"]<|nr 750 ["p","args"]<|nr 764 ["self","p","left","at"]<|nr 783 ["p","head"]<|nr 790 ["p","n","token"]<|nr 797 ["p","spot","found"]<|nr 812 ["self","p"]<|nr 824 ["p","at","members"]<|nr 831 ["p","at","flags"]<|nr 838 ["token"]<|nr 845 ["p","word","behind"]<|nr 852 ["p","word"]<|nr 859 ["p","flags","at","name"]<|nr 866 ["p","name","flags","at","tparams","params","ret"]<|nr 873 ["p"]<|nr 880 ["p","flags","at","name","key","value"]<|nr 894 ["self","p","left","at","flags","tparams","params","ret"]<|nr 913 ["self","p"]<|nr 925 ["token"]<|nr 932 ["p","token","behind","name","kind"]<|nr 939 ["p","at","rows"]<|nr 946 ["p","flags","at","name","bound","given"]<|nr 953 ["p","whole","at","allow_in","no_cond","rows"]<|nr 960 ["p","rows","seen","place","row"]<|nr 981 ["p","token"]<|nr 988 ["p","whole","flags","at","target","kind","init"]<|[]
noncomputable def ki(f:Fn):List aw:=(acu.lookup f).getD []
theorem xu{d e:Type}{r:R d}{f:d->Hp->R e}{b:e}{H:Hp}{P:Prop}(h:r.i f=.ok b H)(k:∀a c,r=.ok a c->f a c=.ok b H->P):P:=by
 refine dn λg=>?_
 induction r using R.casesOn with
 |ok a c=>exact g<|k a c J h
 |_=>cases h
noncomputable def EK:List S->Prop
 |[]=>True
 |st::r=>(∃o a e,st=.cP o a e)/\EK r
theorem acv{run:fi}(body:List S):∀{l:Lc} {H c:Hp} {x:Fl×Lc},EK body->aZ run body l H=.ok x c->x.1=.aU:=by
 induction body with
 |nil=>intro l H c x _ h;cases h;rfl
 |cons st r d=>
  rintro l H c x ⟨⟨o,a,e,rfl⟩,hb⟩ h
  refine xu h λy H1 e1 h=>?_;refine xu e1 λb b b e1=>xu e1 λb b b e1=>xu e1 λb b b e1=>?_
  cases e1
  exact d hb h
theorem MW{run:fi}{np nl:Nat}{body:List S}(hb:EK body){as:List V}{H a:Hp}{v:V}(h:sD run np nl body as H=.ok v a):v=.none:=by
 have h:=(zR<|zQ λe=>nomatch e.symm.trans h).symm.trans h;refine xu h λx H1 e h=>?_;obtain⟨fl,l⟩:=x;obtain rfl:fl=.aU:=acv body hb e
 cases h;rfl
theorem acw:∀(n:Nat) (f:Fn),(f=194∨f=306)->∀as H v a,Mine.ag n f as H=.ok v a->v=.none:=by
 intro n f b as H v a h
 cases n with
 |zero=>cases h
 |succ n=>
  rcases b with rfl|rfl
  ·exact MW (by repeat (first|exact bk|refine⟨⟨_,_,_,rfl⟩,?_⟩)) h
  ·exact MW (by repeat (first|exact bk|refine⟨⟨_,_,_,rfl⟩,?_⟩)) h
noncomputable def sI(K:cT)(ns:List aw)(hd:Bool)(f:ow):List S:=match f.body with
 |.stmts a=>a.map<|uE K ns 30 hd f.scope
 |_=>[]
noncomputable def MX(K:cT)(b:Fn×Nat×Nat×List S):Bool:=decide (b.2.2.1=(ki b.1).length)&&Aa K b.1 (ki b.1) b.2.1
noncomputable def xv(K:cT)(cl:eX):Option ak:=(gF K (.ref<|de cl) "__init__").bind id
noncomputable def qW(K:cT)(cl:eX):aH:=match xv K cl with
 |some v=>(match v with
  |.ref a=>a
  |_=>0)
 |none=>0
noncomputable def sJ(K:cT)(cl:eX):List aw:=(kO K<|qW K cl).params.args.map (·.arg)
noncomputable def Ac(K:cT)(cl:eX):Bool:=match jx cl with
 |some r=>(xv K cl==O (.ref<|qW K cl))&&(xL K (.ref<|qW K cl)&&(decide (r.2.map (·.1)).Nodup&&(decide (r.1+1=(sJ K cl).length)&&Aa K (qW K cl) (sJ K cl) (r.1+1))))
 |none=>(match o4 cl with
  |some r=>(xv K cl==O (.ref r.1))&&xL K (.ref r.1)
  |none=>xv K cl==O (.builtin "object.__init__"))
theorem EL{K:cT}(h:xv K cl=O v):gF K (.ref<|de cl) "__init__"=O (O v):=ML h
structure MY(K:cT):Prop where
 j2:∀cl,hD K cl
 fn:∀b∈lG,MX K b=true
 tr:∀b∈lG,sI K (ki b.1) false (kO K b.1)=b.2.2.2
 aO:∀cl a f,gV cl a=some f->gF K (.ref (de cl)) (eb a)=some (some (.ref f))/\a∉iM/\adH K (.ref f)=true/\mo K (.ref f)=true
 zD:∀cl,mo K (.ref (de cl))=true
 MZ:∀cl,Ac K cl=true
 M0:∀b∈lG,∀a0 a1 a2 a3 a4 a5 a6,xt K b.1 (ki b.1) b.2.1 [a0,a1,a2,a3,a4,a5,a6]
 acx:∀cl r,jx cl=some r->∀a0 a1 a2 a3 a4 a5 a6,xt K (qW K cl) (sJ K cl) (r.1+1) [a0,a1,a2,a3,a4,a5,a6]
 trI:∀cl,(jx cl).map (λ_=>sI K (sJ K cl) true (kO K (qW K cl)))=(jx cl).map λr=>qT r.2
 dU:∀oc od osl f,K.lookup 194=some ⟨oc,od,.func f,osl⟩->∀(s:ay) (v:ak),K.In s.heap->AH s f ⟨[v],[]⟩ (((ki 194).take 2).zip [v,.str ⟨#[]⟩ 500])
 ps:∃fI sc,uC K fI sc
 acy:mo K (.ref bZ)=true
 acz:xN K bZ "BaseException"=true
structure EM(n:Nat)(A:dN):Prop where
 fg:A.handled=none
 sA:A.depth+2*n+3<=qd
 qR:A.units+8*n+12<=m0
theorem xw(c:eX):c∈p6:=by cases c<;>decide
noncomputable def M1(q:At×rk):Bool:=match q.2 with
 |.i _=>I
 |.j v=>(match v with
  |.aa _=>I
  |_=>C)
theorem M2:(p6.all λc=>((jx c).all λr=>r.2.all M1)&&(o4 c).all λr=>(jx c).isNone&&(decide (r.1=194)||decide (r.1=306)))=true:=rfl
theorem M3{q:Fn×List V}(h:o4 cl=O q):jx cl=U/\(q.1=194∨q.1=306):=by
 have k:=bR<|lr.mp M2 cl<|xw cl;rw[h] at k;exact⟨E4.mp<|bL k,(jr.mp<|bR k).imp dT dT⟩
theorem uH(h:a+k*n+c<=m)(hc:0<c)(hd:d<c):a+d<m:=iO (by rw[kn];exact Nat.add_lt_add_left (iO hd<|hG ..) _) h
theorem M4{f g:Type}[BEq f][LawfulBEq f]{l:List<|f×g}{a:f}{b:g}(h:l.lookup a=O b):(a,b)∈l:=by
 induction l with
 |nil=>exact ba h
 |cons q l i=>
  obtain⟨c,d⟩:=q;rw[ot] at h
  cases e:a==c with
  |true=>rw[e] at h;cases h;rw[beq_iff_eq.mp e];exact .head _
  |false=>rw[e] at h;exact .tail _<|i h
section
variable(i:MY cx.K)
include i
theorem EN{run:fi}{d:dN}{a:List cA}(h:hd=C->∀b,Av run<|d.deeper b):uB run ns d sc (a.map<|uE cx.K ns 30 hd sc) a:=λg e h2 f h4 j=>by
 refine i.ps.elim λl c=>c.elim λk c=>?_;rw[<-h4];exact z8 (aco i.j2 i.acz i.acy c 30 ⟨h2,λq=>⟨j,by rw[e,f];exact h q _⟩⟩) a
theorem EO{n:Nat}(w:∀A,EM n A->Av (Mine.ag n) A){f:Fx}{p:Pt f}{fn:Fn}{a:dN}{as:List V}{args:Args}{c:List ak}{Q E:ak->ay->Prop}(h:a.frames=f.g.A.frames)(x:a.handled=U)(fg:a.handled=f.g.A.handled)
  (hd:a.depth+2*n+4<=qd)(v:a.units+8*n+15<=m0)(j:aR p.z as c)(hb:args=⟨c,[]⟩∨∀m o d g,cx.K.lookup fn=O ⟨m,o,.func g,d⟩->AH p.s g args (((ki fn).take (iX fn).1).zip c))
  (T:Tk aA p (Mine.ag (n+1) fn as p.H) Q E):ky MM a (.call (.ref fn) args) (sE Q E) p.s:=by
 have T:Tk aA p (sD (Mine.ag n) (iX fn).1 (iX fn).2.1 (iX fn).2.2 as p.H) Q E:=T;unfold iX at T hb
 cases e:lG.lookup fn with
 |none=>rw[e] at T;exact(T.ne<|by cases as<;>rfl).elim
 |some b=>
  rw[e] at T hb;have hm:=M4 e;have ok:=i.fn _ hm;refine Ab (bR ok) (i.M0 _ hm) λq q q y z r s t N=>?_;rw[<-dT (bL ok)] at N;have u:=i.tr _ hm;unfold sI at u;rw[sH r,s] at u;have SB:uB (Mine.ag n) (ki fn) a y.scope b.2.2 z:=by
   rw[u.symm];exact EN i λ_ B=>w _ ⟨x,show a.depth+1+2*n+3<=_ from(L1 hd),show a.units+3+8*n+12<=_ from(L1 v)⟩
  have k:=uH hd (D J) (d:=0)<|D J;have l:a.units+3<m0:=uH v (D J)<|D J;exact hb.elim (λe=>e▸L9 N t SB h fg l k j T) λhb=>L8 N t SB h fg l k j (t.ex.u λm o d g r q=>hb m o d g r) T
theorem M5{run:fi}{f:Fx}{p:Pt f}(g:o4 cl=U)(R:EM n f.g.A)(c:aR p.z as b):Go aA p (iZ run cl as p.H) (kq (uP<|de cl) b):=by
 have hc:=i.MZ cl;have ht:=i.trI cl;unfold Ac at hc
 cases a:jx cl with
 |none=>
  rw[a,g] at hc;exact abt (i.j2 cl) a g (EL<|beq_iff_eq.mp hc) c
 |some r=>
  rw[a] at hc ht;have ht:=cS ht;refine Ab (bR<|bR<|bR<|bR hc) (i.acx cl r a) λj j j l m o d s N=>?_;rw[<-dT (bL<|bR<|bR<|bR hc)] at N;unfold sI at ht;rw[sH o,d] at ht;refine abr (i.j2 cl) a (EL<|beq_iff_eq.mp<|bL hc) (bL<|bR hc) (dT<|bL<|bR<|bR hc) (λq t v e k=>?_) N s (λA=>?_) (uH R.qR (D J)<|D J) (uH R.sA (D J)<|D J) c
  ·have h:=bL<|lr.mp M2 cl<|xw cl;rw[a] at h;have h:=lr.mp (h) q t;unfold M1 at h;rw[e] at h
   induction v using V.casesOn with
   |aa _=>exactλ_ _ _ _ r=>r
   |_=>exact bc h
  ·rw[<-show m.map (uE cx.K (sJ cx.K cl) 30 I l.scope)=qT r.2 from ht];exact EN i λh=>c5 h
theorem av(n:Nat):∀A,EM n A->Av (Mine.ag n) A:=by
 induction n with
 |zero=>
  refineλA R=>⟨R.fg,λ_=>uH R.sA (D J) (d:=1)<|D J,i.j2,λfn f e p as b a Q E T=>(T.ne J).elim,i.aO,λcl f e p as b a=>?_,i.zD⟩
  cases c:o4 cl with
  |none=>exact M5 i c (e▸R) a
  |some q=>
   refineλQ E T=>(T.ne ?_).elim;unfold iZ;rw[(M3 c).1,c]
   rfl
 |succ n d=>
  refineλA R=>⟨R.fg,λ_=>uH R.sA (D J) (d:=1)<|D J,i.j2,λfn f e p as b a Q E T=>?_,i.aO,λcl f e p as b a=>?_,i.zD⟩
  ·subst e;exact FO<|EO i d J R.fg J (aE (by simp+arith only) R.sA) (aE (by simp+arith only) R.qR) a (.inl J) T
  ·subst e
   cases c:o4 cl with
   |none=>exact M5 i c R a
   |some q=>
    obtain⟨fn,Az⟩:=q;have h:=M3 c;have hc:=i.MZ cl;unfold Ac at hc;rw[h.1,c] at hc;have hd:f.g.A.depth+1+2*n+4<=qd:=aE (by simp+arith only) R.sA;have l:f.g.A.units+1+8*n+15<=m0:=aE (by simp+arith only) R.qR;refine abu (i.j2 cl) h.1 c (EL<|beq_iff_eq.mp<|bL hc) (bR hc) (acw (n+1) fn h.2) λq x Q E le m T=>?_;have has':=aR.au le _ _ a
    by_cases j:cl=.q/\as.length=0
    ·rw[aN j] at T;obtain⟨rfl,o⟩:=j
     induction as using aW with
     |cons _ _=>cases o
     |nil=>induction b using aW with
      |cons _ _=>exact a.elim
      |nil=>
       cases c
       exact EO i d J R.fg J hd l (aR.cons m<|aR.cons (pT<|dG _) aR.nil) (.inr λr s k g t=>i.dU r s k g t q.s (.ref x) q.st.dv) T
    ·rw[a9 j,cM] at T;exact EO i d J R.fg J hd l (aR.cons m has') (.inl J) T
end
theorem acA(P:bX)(q:aH×jS):(p6.all λc=>DV (KX P q) c&&(mo (KX P q) (.ref<|de c)&&(Ac (KX P q) c&&(Ge c).all λm=>(gF (KX P q) (.ref<|de c) (eb m.1)==O (O<|.ref m.2))&&(!(iM.contains m.1)&&(xL (KX P q) (.ref m.2)&&mo (KX P q) (.ref m.2))))))=true:=by kernel_rfl
theorem acB(P:bX)(q:aH×jS):(lG.all<|MX<|KX P q)=true:=by kernel_rfl
theorem acC(P:bX)(q:aH×jS):(lG.map λb=>sI (KX P q) (ki b.1) C<|kO (KX P q) b.1)=lG.map λb=>b.2.2.2:=by kernel_rfl
theorem acD(P:bX)(q:aH×jS):(p6.map λc=>(jx c).map λ_=>sI (KX P q) (sJ (KX P q) c) I<|kO (KX P q)<|qW (KX P q) c)=p6.map λc=>(jx c).map λr=>qT r.2:=by kernel_rfl
theorem acE(P:bX)(q:aH×jS)(a c d e f g h:ak):(lG.map λb=>λS=>xM (KX P q) S<|FR (kO (KX P q) b.1) ⟨[a,c,d,e,f,g,h].take b.2.1,[]⟩)=lG.map λb=>λ_=>O (((ki b.1).take b.2.1).zip<|[a,c,d,e,f,g,h].take b.2.1):=by kernel_rfl
theorem acF(P:bX)(q:aH×jS)(a b d e f g h:ak):(p6.map λc=>(jx c).map λr=>λS=>xM (KX P q) S<|FR (kO (KX P q)<|qW (KX P q) c) ⟨[a,b,d,e,f,g,h].take<|r.1+1,[]⟩)=p6.map λc=>(jx c).map λr=>λ_=>O (((sJ (KX P q) c).take<|r.1+1).zip<|[a,b,d,e,f,g,h].take<|r.1+1):=by kernel_rfl
theorem acG(P:bX)(q:aH×jS)(a b c d e f g:ak):xt (KX P q) 126 ["self","text"] 2 [a,b,c,d,e,f,g]:=by unfold xt;kernel_rfl
theorem acH(P:bX)(q:aH×jS)(v:ak):(λS=>xM (KX P q) S<|Ox "Exception.__new__" ⟨[.ref bZ,v],[]⟩)=λ_=>O ():=by kernel_rfl
theorem M6(P:bX)(q:aH×jS):(mo (KX P q) (.ref bZ)&&xN (KX P q) bZ "BaseException")=I/\gF (KX P q) (.ref bZ) "__init__"=O (O<|.ref 126)/\gF (KX P q) (.ref bZ) "number"=O U/\gF (KX P q) (.ref bZ) "text"=O U/\
  (clsIn (KX P q) bZ).any (λa=>Ew a.mro&&a.hasDict)=I/\gF (KX P q) (.ref bZ) "__setattr__"=O (O<|.builtin "object.__setattr__")/\(KX P q).lookup bZ=O xl/\((KX P q).lookup 126).map (·.cls)=O (.type "function"):=by
 refine⟨?_,?_,?_,?_,?_,?_,?_,?_⟩<;>kernel_rfl
theorem acI(P:bX)(q:aH×jS):(kO (KX P q) 126).body=.stmts [Mf,Mg]:=by kernel_rfl
theorem M7(P:bX)(q:aH×jS):(Aa (KX P q) 126 ["self","text"] 2&&(((kO (KX P q) 126).scope.names.lookup ("self":aw)==O .local)&&((kO (KX P q) 126).scope.names.lookup ("text":aw)==O .local)))=true:=by kernel_rfl
theorem acJ(P:bX)(q:aH×jS)(v:ak):(λS=>xM (KX P q) S<|FR (kO (KX P q) 194) ⟨[v],[]⟩)=λa=>O (((ki 194).take 2).zip [v,.str ⟨#[]⟩ 500]):=by kernel_rfl
theorem acK(P:bX)(q:aH×jS):∃sc,uC (KX P q) 126 sc:=by
 refine OF (M6 P q) λl b h2 c h4 d g i=>?_;have h:=bR<|M7 P q;refine Ab (bL<|M7 P q) (acG P q) λm o j f p a hb k N=>?_;rw[sH a] at h;refine⟨f.scope,acH P q,⟨h4,d⟩,g,b,h2,c,?_,i,beq_iff_eq.mp<|bL h,beq_iff_eq.mp<|bR h⟩;have e:=acI P q;rw[sH a,hb] at e;rw[<-FuncBody.stmts.inj e];exact k
theorem kOk(P:bX)(q:aH×jS):MY (KX P q):=by
 have hc:=λcl:eX=>lr.mp (acA P q) cl<|xw cl;have m:=(M6 P q).1;refine⟨λcl=>YX<|bL<|hc cl,lr.mp<|acB P q,E9.mp<|acC P q,λcl a f e=>?_,λcl=>bL<|bR<|hc cl,λcl=>bL<|bR<|bR<|hc cl,λb hb c d g i j k l=>E9.mp (acE P q c d g i j k l) b hb,λcl r o c d g i j k l=>?_,λcl=>E9.mp (acD P q) cl<|xw cl,λu w p f t s v X=>?_,⟨126,acK P q⟩,bL m,bR m⟩
 ·have h:=lr.mp (bR<|bR<|bR<|hc cl) _<|M4 e;exact⟨beq_iff_eq.mp<|bL h,λhm=>c5<|(List.contains_iff_mem.mpr hm).symm.trans<|kf<|bL<|bR h,bL<|bR<|bR h,bR<|bR<|bR h⟩
 ·have h:=E9.mp (acF P q c d g i j k l) cl<|xw cl;rw[o] at h;exact cS h
 ·rw[<-sH t];exact kp_binds X λS=>congrFun (acJ P q v) S
theorem acL:∀(ts:List<|Int×qX),aR z (ts.map λp=>.aa p.1) (ts.map λp=>.int p.1 p.2):=by
 intro ts
 induction ts with
 |nil=>exact aR.nil
 |cons t ts a=>exact aR.cons jP a
set_option backward.match.sparseCases true in
theorem acM:wQ cx:=λq a l vs n ts H' Q E hK X T B hz fk d h=>by
 have r:=hK▸kOk cx.w.params q;have t:aR ⟨[],[]⟩ [.af (ts.map λp=>.aa p.1)] [.ref l]:=aR.cons (f8 l vs n J (.inr B) hz<|fk▸acL ts) aR.nil;generalize hH:[V.af (ts.map λp=>.aa p.1)]=as at t d;have hm:(Fn.j,1,14,lF)∈lG:=.head _;refine Ab (bR<|r.fn _ hm) (r.M0 _ hm) λg g g k F G H j N=>?_;have K:=r.tr _ hm;unfold sI at K;rw[sH G,H] at K;have SB:uB (Mine.ag 339) (ki .j) Fb k.scope (F.map<|uE cx.K (ki .j) 30 C k.scope) F:=EN r λ_ env=>av r 339 _ ⟨J,(by show callerA.depth+1+2*339+3<=qd;decide),(by show callerA.units+3+8*339+12<=m0;decide)⟩;rw[show F.map (uE cx.K (ki .j) 30 C k.scope)=lF from K] at SB;have d:=d;have W:=zQ λe=>nomatch e.symm.trans d;have d:=(zR W).symm.trans d;obtain⟨oc,od,osl,name,qual,params,dV,kV,doc,pm,an,u,ct,G,M,hbind⟩:=j.ex;refine FO<|aej (D J) (X _ _ G) J j.co j.Es J (codeRec_of X M)<|hbind a [.ref l] X J _ _ _ _<|aek j.aq (kindsX (j.i [.ref l]) _) λenv' he Z x=>?_;subst he;refine⟨T.nolimit.keeps x.toInCall.keep,ael ?_⟩;obtain⟨w,tk,rfl,_⟩:=x.done;obtain⟨cells,NC,Y⟩:=Cl.news (bF _) λn c hm=>⟨x.cell n c<|aem (Oe k.scope.names 0 (a.heap.objs.size+1) [] [] J▸j.mQ) hm,x.above n c hm⟩;have R:(cells.map (·.1)).Nodup:=by rw[DE Y];exact adq.mpr x.apart
 let f:Fm:={A₀:=Fb,lY:=a.heap,iq:=[],L:=a.heap.objs.size,aS:=jU qual k.scope a.heap.objs.size Fn.j u,nY:=a.heap,P:=[],eP:=a}
 have eL:bP f ⟨[],[]⟩ cells []=cells:=by show[]++(cells++([]++[]))=cells;rw[cM]
 have z:bG f ⟨[],[]⟩ [] (xG (jU qual k.scope a.heap.objs.size Fn.j u).kindOf (((ki .j).take 1).zip [.ref l]) λg=>U) cells {a with heap:=w,toks:=tk} a.heap []:=
  ⟨.refl,⟨x.toInCall.ns,x.toInCall.keep,bF _⟩,λp hp=>NC p<|eL▸hp,below_caller a.heap,X,T,nofun,by rw[eL];exact R,⟨J,J,λg g g g h=>nomatch h⟩,J⟩
 let A:Gx:=⟨Mine.ag 339,ki .j,C,f,callerA.deeper f.aS,J,⟨J,j.aq,J,J,X,T,J,λx hk=>FM k.scope.names (a.heap.objs.size+1) []<|.inl hk⟩,.inl J,(by show callerA.units+3<m0;decide)⟩
 obtain⟨m,cs,cm,st,lo,fx⟩:=L6 ⟨J,J,N.nd⟩ j W t (c₂:=f) J J Y ⟨a.heap,[],z⟩;refine mm (SB A J J J J J ⟨_,_,_,_,m,cs,cm,st,lo,fx⟩ (λfl Z=>Q (match fl with|.ret v=>v|_=>.none) Z) (λg g=>False) ⟨λe=>?_,λv fl S e le fr=>?_,λx s z' H' e _ _=>?_,ad9⟩) (λ_ _ h=>h) λg g y=>y.elim
 ·have e:aZ (Mine.ag 339) lF (as.map O++jp (14-1) U) []=_:=e;rw[e] at d;cases d
 ·have e:aZ (Mine.ag 339) lF (as.map O++jp (14-1) U) []=_:=e;rw[e] at d;obtain⟨g₁,lv,i⟩:=v.st;refine dn λkk=>?_
  induction fl using Fl.casesOn with
  |am v=>
   cases d
   induction S using Flow.casesOn with
   |ret pv=>
    rw[fr] at kk;exact kk<|h _ (λb o hb=>i.fr.keep b o<|i.ir.other b o hb nofun) i.fA
   |_=>exact fr.elim
  |_=>cases d
 ·have e:aZ (Mine.ag 339) lF (as.map O++jp (14-1) U) []=_:=e;rw[e] at d;cases d
theorem acN{P:bX}:∀{is:List Int} {a:List ak},WellAll P h a (is.map .int)->∃ts:List (Int×qX),a=ts.map (λp=>.int p.1 p.2)/\is=ts.map (·.1):=by
 intro is
 induction is with
 |nil=>
  intro a;intro x
  cases x;exact⟨[],J,J⟩
 |cons i is b=>
  intro a;intro x;obtain⟨v,c,rfl,w,d⟩:=aeW x
  cases w
  obtain⟨ts,e1,e2⟩:=b d;exact⟨(i,_)::ts,by rw[e1];rfl,by rw[e2];rfl⟩
theorem acO(P:bX):gu (KF P) ey "law"=O (O<|.ref 1118):=by kernel_rfl
theorem acP{P:bX}{h:cz}(d:(KF P).In h)(hg:h.get? a=O o):(KX P (a,o)).In h/\(KX P (a,o)).lookup a=O o:=by
 unfold KX;refine⟨λb f hb=>?_,?_⟩
 ·rw[aeb] at hb
  cases e:E7 b (KF P) with
  |some c=>rw[e] at hb;cases hb;exact d _ _ e
  |none=>
   rw[e] at hb;have hb:(if b==a then O o else U)=O f:=by rw[<-hb];rw[ot];cases b==a<;>rfl
   by_cases q:(b==a)=I
   ·rw[aN q] at hb;cases hb;rw[beq_iff_eq.mp q];exact hg
   ·rw[a9 q] at hb;cases hb
 ·rw[aeb]
  cases e:E7 a (KF P) with
  |some c=>exact(d _ _ e).symm.trans hg
  |none=>show E7 a [(a,o)]=_;rw[ot,beq_self_eq_true]
theorem acQ(hr:∀is:List Int,is.length<=63->∃g,Mine.ag 340 .j [.af (is.map V.aa)] []=.ok (.i I) g):Ar.Holds:=by
 refine Yq λd t hdef w eP e mg mb G Y a o pm N doc P Q R hd u x f h args vals as hpre hlay y c hsys=>?_;have r:=kIn_of Y;obtain⟨i,hlen⟩:=YA<|hpre;obtain⟨S,T,rfl,z,A⟩:=hasAllW_cons i;obtain rfl:=hasAllW_nil A;obtain⟨W,rfl,B⟩:=hasW_list z;obtain⟨is,rfl⟩:=items_int B;have j:is.length<=63:=by
  have h2:(WTm.and (.not<|.lt (.lit<|.int 63)<|.len<|.arg 0)<|.lit<|.bool I).holds [] {args:=[.list (is.map .int)]}=true:=hlen;have E:=condW_of h2<|by wtm_val
  have h4:=jt<|kf<|bL E;rw[c3] at h4;exact sN.mp<|ra.mp h4
 obtain⟨v,F,rfl,H,K⟩:=aeW c
 cases K
 cases H with
 | @list k l _ hget m=>
 obtain⟨g,b⟩:=hr is j;have L:a=Fn.j:=by
  have e1:d.name="law":=defOf_name hdef;have e2:=mg_of r G.T.g<|acO w.params;rw[e1,e2] at f
  cases f;rfl
 subst L;obtain⟨p,q⟩:=acP r hget;obtain⟨ts,e1,rfl⟩:=acN m;refine Yw acM ⟨_,w,KX w.params (k,cZ l.toArray 0),_,_,_,mg,mb⟩ (k,cZ l.toArray 0) e k l.toArray 0 ts g _ _ J p G.T q ?_ (by simpa using e1) (by rw[rc] at b;exact b) λX M hs=>?_
 ·have:=bJ Nt e1;simp at this j;rw[iy];simp;exact L2 j<|b7 this
 ·refine GoodW.toG ⟨.inl<|m2 _ (.bool I) [] J (λs=>J) (ReadsW.bool I) (by kernel_rfl) λs=>⟨xB,λs hm=>ax hm eU⟩,M,?_,?_⟩
  ·rw[hs]
  ·rw[hs];exact h
end
inductive T where
 |nd (kind:Int) (a:List Nat) (kids:List (Option T)) (flags:Int) (at_:Int)
namespace T
noncomputable def aq:T->Int|nd k _ _ _ _=>k
noncomputable def a:T->List Nat|nd _ a _ _ _=>a
noncomputable def bO:T->List (Option T)|nd _ _ ks _ _=>ks
noncomputable def cj:T->Int|nd _ _ _ f _=>f
noncomputable def aJ:T->Int|nd _ _ _ _ p=>p
end T
mutual
noncomputable def T.v:T->V
 |.nd k a ks f p=>.aQ .u [(.aq,.aa k),(.a_,.ah a),(.bO,.af<|fj ks),(.cj,.aa f),(.aJ,.aa p),(.x6,.aa 0)]
noncomputable def ov:Option T->V
 |none=>.none
 |some t=>t.v
noncomputable def fj:List (Option T)->List V
 |[]=>[]
 |o::r=>ov o::fj r
end
structure aj where
 aq:Int
 aP:List Nat
 kA:Int
 aJ:Int
 jv:Int
 cC:Bool
noncomputable def aj.v(t:aj):V:=.aQ .j [(.aq,.aa t.aq),(.aP,.ah t.aP),(.kA,.aa t.kA),(.aJ,.aa t.aJ),(.jv,.aa t.jv),(.m3,.i t.cC)]
noncomputable def kY:aj:=⟨0,[],0,0,0,C⟩
structure Sg where
 ts:List aj
 ns:List Int
inductive PR(α:Type) where
 |ok (a:α) (s:Sg)
 |d8 (ns:List Int)
 |j
noncomputable def PR.bd{b c:Type}(r:PR b)(f:b->Sg->PR c):PR c:=match r with
 |.ok a s=>f a s
 |.d8 ns=>.d8 ns
 |.j=>.j
noncomputable def Sg.i(s:Sg):aj:=s.ts.headD kY
noncomputable def Sg.u(s:Sg)(n:Nat):aj:=s.ts.getD n<|s.ts.getLastD kY
noncomputable def Sg.j(s:Sg):Sg:=if s.i.aq=0 then s else⟨s.ts.tail,s.ns⟩
noncomputable def aj.is(t:aj)(k:Int)(x:List Nat):Bool:=decide (t.aq=k)&&decide (t.aP=x)
noncomputable def Sg.q(s:Sg)(x:List Nat):Bool:=s.i.is 5 x
noncomputable def Sg.Br(s:Sg)(x:List Nat):Bool:=s.i.is 2 x
noncomputable def Sg.y(s:Sg)(x:List Nat):Bool:=s.i.is 1 x
noncomputable def cL{a:Type}(k:Int)(x:List Nat)(s:Sg)(f:Bool->Sg->PR a):PR a:=if s.i.is k x then f I s.j else f C s
noncomputable def b8{a:Type}(n:Int)(s:Sg):PR a:=if s.ns.length<1000 then .d8 (s.ns++[n]) else .j
noncomputable def lK{a:Type}(b:Bool)(n:Int)(s:Sg)(f:Sg->PR a):PR a:=if b then(if s.ns.length<1000 then f ⟨s.ts,s.ns++[n]⟩ else .j) else f s
noncomputable def c7{a:Type}(x:List Nat)(s:Sg)(f:Sg->PR a):PR a:=if s.i.is 5 x then f s.j else b8 1005 s
noncomputable def hU{a:Type}(s:Sg)(f:List Nat->Sg->PR a):PR a:=if s.i.aq=1 then f s.i.aP s.j else b8 1003 s
noncomputable def aj.i(t:aj):Bool:=decide (t.aq=1)||(decide (t.aq=2)||(decide (t.aq=4)||decide (t.aq=3)))
noncomputable def aj.j(t:aj):Bool:=t.i||t.is 5 [91]
noncomputable def aj.q(t:aj):Bool:=t.is 5 [40]||t.is 5 [60]
noncomputable def aj.u(t:aj):Bool:=decide (t.aq=1)||t.is 2 eV
noncomputable def Sg.rG(s:Sg):Bool:=(decide (s.i.aq=0)||s.i.cC)||(decide (s.i.aq=5)&&(decide (s.i.aP=[59])||decide (s.i.aP=[125])))
noncomputable def qn{a:Type}(s:Sg)(f:Sg->PR a):PR a:=cL 5 [59] s λb s=>if b then f s else if s.rG then f s else b8 1005 s
noncomputable def o8:List (List Nat):=[s7,FS,xS,xP,kS,qe,FT,xQ]
noncomputable def rH:List (List Nat):=[xV,AY]
noncomputable def tt(s:Sg)(n:Nat):Bool:=
 let t:=s.u n
 if t.aq=5 then if t.aP=[58]∨t.aP=[44]∨t.aP=[63]∨t.aP=[61] then I else decide (t.aP=[41])&&(s.u<|n+1).is 5 fB else C
noncomputable def qo(s:Sg):Bool:=
 if s.q [60]||s.Br bH then I else if !s.q [40] then C else
 let head:=s.u 1
 if head.is 5 [41]||head.is 5 hN then I else if decide (head.aq=1)||head.is 2 eV then tt s 2 else C
noncomputable abbrev bY:=Nat->Sg->PR T
noncomputable def aK(k:Int)(a:List Nat)(ks:List T)(p:Int):T:=.nd k a (ks.map O) 0 p
noncomputable def c6(k:Int)(a:List Nat)(p:Int):T:=.nd k a [] 0 p
noncomputable def jy(x:List Nat)(item:Sg->PR T):Nat->List T->Sg->PR (List T)
 |0,_,_=>.j
 |n+1,a,s=>if s.q x then(item s.j).bd λt s=>jy x item n (a++[t]) s else .ok a s
theorem Qs{item:Sg->PR T}{s:Sg}:jy x item (n+1) a s=if s.q x=I then(item s.j).bd λt s=>jy x item n (a++[t]) s else .ok a s:=rfl
noncomputable def tu{a:Type}(s:Sg)(f:Sg->PR a):PR a:=if s.q rj then .j else c7 [62] s f
noncomputable def vr(part:bY)(s:Sg):PR (List T):=
 c7 [60] s λs=>(part 1 s).bd λt s=>(jy [44] (part 1) (s.ts.length+1) [t] s).bd λl s=>tu s λs=>.ok l s
noncomputable def mv:Nat->List Nat->Sg->PR (List Nat)
 |0,_,s=>.j
 |n+1,a,s=>if s.q [46] then
   let s:=s.j
   if s.i.aq=1∨s.i.aq=2 then(if(a++[46]++s.i.aP).length<=1000 then mv n (a++[46]++s.i.aP) s.j else .j) else b8 1003 s
  else .ok a s
theorem Qt{s:Sg}:mv (n+1) a s=if s.q [46]=I then(if s.j.i.aq=1∨s.j.i.aq=2 then(if(a++[46]++s.j.i.aP).length<=1000 then mv n (a++[46]++s.j.i.aP) s.j.j else .j) else b8 1003 s.j) else .ok a s:=rfl
noncomputable def Bs(part:bY)(s:Sg):PR T:=
 let t:=s.i
 if o8.contains t.aP then .ok (c6 80 t.aP t.aJ) s.j else
 if t.aq=1/\rH.contains t.aP then .j else
 if t.is 1 OC||t.is 1 OD then .j else
 (hU s λa s=>if a.length<=1000 then mv 2 a s else .j).bd λa s=>
 if s.q [60]&& !s.i.cC then(vr part s).bd λl s=>.ok (aK 81 a l t.aJ) s else .ok (aK 81 a [] t.aJ) s
noncomputable def Bt(part:bY)(s:Sg):PR T:=
 let p:=s.i.aJ
 (part 1 s.j).bd λt s=>c7 [41] s λs=>.ok (aK 98 [] [t] p) s
noncomputable def Gg(part:bY)(s:Sg):PR T:=
 let p:=s.i.aJ
 (part 9 s).bd λm s=>.ok (.nd 88 [] m.bO 0 p) s
noncomputable def fC(part:bY)(s:Sg):PR T:=
 let t:=s.i
 if t.aq=1 then Bs part s
 else if t.aq=5∨t.aq=2 then
  if t.aP=[40] then Bt part s else if t.aP=[123] then Gg part s else if t.aP=uY∨t.aP=xO then .j else b8 1110 s
 else if t.aq=0∨t.aq=3∨t.aq=4 then b8 1110 s else .j
noncomputable def mw(part:bY):Nat->T->Sg->PR T
 |0,t,s=>if s.q [91]&& !s.i.cC then .j else .ok t s
 |n+1,t,s=>if s.q [91]&& !s.i.cC then
   cL 5 [93] s.j λb s=>if b then mw part n (aK 85 [] [t] t.aJ) s else(part 1 s).bd λi s=>c7 [93] s λs=>mw part n (aK 90 [] [t,i] t.aJ) s
  else .ok t s
theorem Qu{s:Sg}:mw part 0 t s=if(s.q [91]&& !s.i.cC)=I then .j else .ok t s:=rfl
theorem Qv{t:T}{s:Sg}:mw part (n+1) t s=if(s.q [91]&& !s.i.cC)=I then cL 5 [93] s.j λb s=>if b then mw part n (aK 85 [] [t] t.aJ) s else(part 1 s).bd λi s=>c7 [93] s λs=>mw part n (aK 90 [] [t,i] t.aJ) s else .ok t s:=rfl
noncomputable def my(part:bY)(s:Sg):PR T:=(fC part s).bd λt s=>mw part 60 t s
noncomputable def jZ(part:bY)(s:Sg):PR T:=cL 5 [38] s λa s=>(my part s).bd λt s=>
 if s.q [38] then(jy [38] (my part) (s.ts.length+1) [t] s).bd λl s=>.ok (aK 84 [] l t.aJ) s else .ok t s
noncomputable def rI(part:bY)(s:Sg):PR T:=cL 5 [124] s λa s=>(jZ part s).bd λt s=>
 if s.q [124] then(jy [124] (jZ part) (s.ts.length+1) [t] s).bd λl s=>.ok (aK 83 [] l t.aJ) s else .ok t s
noncomputable def pa(part:bY)(s:Sg):PR T:=
 if s.Br [99,111,110,115,116] then b8 9002 s else
 cL 2 f5 s λb s=>
 let d:Int:=if b then 268435456 else 0
 let o:=s.y fc&&decide ((s.u 1).aq=1)
 let s:=if o then s.j else s
 let e:Int:=if o then d+536870912 else d
 let p:=s.i.aJ
 hU s λa s=>
 lK (o8.contains a||rH.contains a) 2368 s λs=>
 cL 2 iS s λb s=>
 let c:=λ(bound:Option T) (s:Sg)=>cL 5 [61] s λb s=>if b then(part 1 s).bd λg s=>.ok (T.nd 100 a [bound,O g] e p) s else PR.ok (T.nd 100 a [bound,U] e p) s
 if b then(part 1 s).bd λt s=>c (O t) s else c U s
noncomputable def lL(part:bY):Nat->List T->Sg->PR (List T)
 |0,_,_=>.j
 |n+1,a,s=>cL 5 [44] s λb s=>if b&&(!s.q [62]&& !s.q rj) then(pa part s).bd λt s=>lL part n (a++[t]) s else .ok a s
noncomputable def kZ(part:bY)(s:Sg):PR (Option T):=
 let p:=s.i.aJ
 cL 5 [60] s λb s=>if b then(pa part s).bd λt s=>(lL part (s.ts.length+1) [t] s).bd λl s=>tu s λs=>.ok (O<|aK 71 [] l p) s else .ok U s
noncomputable def gI(part:bY)(k:Nat)(s:Sg):PR (Option T):=cL 5 [58] s λb s=>if b then(part k s).bd λt s=>.ok (O t) s else .ok U s
noncomputable def pc(part:bY)(s:Sg):PR T:=
 let p:=s.i.aJ
 cL 5 hN s λb s=>
 let a:Int:=if b then 8192 else 0
 let t:=s.i
 if t.u then
  let s:=s.j
  let q:= !b&&s.q [63]
  let s:=if q then s.j else s
  let c:Int:=if q then a+4096 else a
  (gI part 1 s).bd λk s=>.ok (.nd 28 [] [O (c6 8 t.aP t.aJ),k,U] c p) s
 else .j
noncomputable def rJ(t:T):Bool:=decide (t.cj=8192)
noncomputable def rK(part:bY):Nat->List T->Sg->PR (List T)
 |0,_,_=>.j
 |n+1,a,s=>if s.q [41] then .ok a s else(pc part s).bd λt s=>cL 5 [44] s λb s=>
   if b then lK (rJ t) 1014 s λs=>rK part n (a++[t]) s else .ok (a++[t]) s
noncomputable def k4(t:T):Bool:=match t.bO with
 |some (.nd 8 a _ _ _)::_=>decide (a=eV)
 |_=>C
noncomputable def gW:Nat->Bool->List T->List Int
 |_,_,[]=>[]
 |i,seen,t::r=>(if 0<i/\k4 t then[2680] else[])++(if t.cj=4096 then gW (i+1) I r else(if seen&& !rJ t then[1016] else[])++gW (i+1) seen r)
noncomputable def pd(part:bY)(s:Sg):PR T:=
 let p:=s.i.aJ
 c7 [40] s λs=>(rK part (s.ts.length+1) [] s).bd λl s=>c7 [41] s λs=>if(s.ns++gW 0 C l).length<1000 then .ok (aK 71 [] l p) ⟨s.ts,s.ns++gW 0 C l⟩ else .j
noncomputable def gc(part:bY)(name:List Nat)(flags p:Int)(s:Sg):PR T:=
 (kZ part s).bd λa s=>(pd part s).bd λps s=>(gI part 11 s).bd λr s=>.ok (.nd 27 name [a,O ps,r,U] flags p) s
noncomputable def rL(part:bY)(s:Sg):PR T:=
 let p:=s.i.aJ
 cL 2 bH s λb s=>(kZ part s).bd λa s=>(pd part s).bd λps s=>c7 fB s λs=>(part 11 s).bd λr s=>
  .ok (.nd 27 [] [a,O ps,O r,U] (if b then 3072 else 2048) p) s
noncomputable def j0(part:bY)(s:Sg):PR T:=if qo s then rL part s else rI part s
noncomputable def am(part:bY)(s:Sg):PR T:=
 let t:=s.i
 let b:=s.u 1
 if b.cC|| !t.u then part 1 s else
 if b.is 1 eW then(part 1 s.j.j).bd λk s=>.ok (.nd 96 t.aP [O k] 0 t.aJ) s else
 if !s.y dP|| !b.u then part 1 s else
 let s:=s.j
 let name:=s.i.aP
 let s:=s.j
 cL 1 eW s λi s=>if i then(part 1 s).bd λk s=>.ok (.nd 96 name [O k] 16777216 t.aJ) s else
 if s.q [38]||s.q [124] then b8 1228 s else .ok (.nd 96 name [U] 16777216 t.aJ) s
noncomputable def tv(part:bY)(flags:Int)(s:Sg):PR T:=
 let p:=s.i.aJ
 let t:=s.i
 if t.i then
  let s:=s.j
  let q:=s.q [63]
  let s:=if q then s.j else s
  let flags:=if q then flags+4096 else flags
  if s.i.q&&decide (flags<131072) then gc part t.aP (flags+32) p s else(gI part 1 s).bd λk s=>.ok (.nd 99 t.aP [k] flags p) s
 else if t.is 5 [91] then .j else b8 1003 s
noncomputable def lM(part:bY)(s:Sg):PR T:=
 let p:=s.i.aJ
 if s.q [40]||s.q [60] then gc part [] 512 p s else
 if s.Br bH&&(s.u 1).q then gc part [] 1024 p s.j else
 let ro:=s.y fN&&((s.u 1).j&& !(s.u 1).cC)
 let s:=if ro then s.j else s
 let flags:Int:=if ro then 131072 else 0
 if s.q [91]&&(decide ((s.u 1).aq=1)&&(s.u 2).is 5 [58]) then
  c7 [91] s λs=>hU s λa s=>c7 [58] s λs=>(part 1 s).bd λk s=>c7 [93] s λs=>c7 [58] s λs=>(part 1 s).bd λv s=>.ok (.nd 63 a [O k,O v] flags p) s
 else if(s.y f6||s.y gv)&&(s.u 1).j then b8 9002 s
 else tv part flags s
noncomputable def nk(part:bY):Nat->List T->Sg->PR (List T)
 |0,_,_=>.j
 |n+1,a,s=>if s.q [125] then .ok a s else(lM part s).bd λt s=>cL 5 [44] s λb s=>if b then nk part n (a++[t]) s else qn s λs=>nk part n (a++[t]) s
noncomputable def gK(part:bY)(s:Sg):PR T:=
 let p:=s.i.aJ
 c7 [123] s λs=>(nk part (s.ts.length+1) [] s).bd λl s=>.ok (aK 71 [] l p) s.j
mutual
noncomputable def ht:T->Nat
 |.nd _ _ ks _ _=>fk ks+1
noncomputable def fk:List (Option T)->Nat
 |[]=>0
 |none::r=>fk r
 |some t::r=>max (ht t)<|fk r
end
mutual
noncomputable def sz:T->Nat
 |.nd _ _ ks _ _=>fm ks+1
noncomputable def fm:List (Option T)->Nat
 |[]=>0
 |none::r=>fm r+1
 |some t::r=>sz t+fm r
end
noncomputable def be:Nat->bY
 |0,_,_=>.j
 |f+1,k,s=>(match k with
  |1=>j0 (be f) s
  |9=>gK (be f) s
  |11=>am (be f) s
  |_=>.j).bd λt s=>if ht t<=150/\sz t<=4000000 then .ok t s else .j
theorem ee{b d c:Type}(m:R b)(f:b->Hp->R c)(k:c->Hp->R d):(m.i f).i k=m.i λa H=>(f a H).i k:=by cases m<;>rfl
set_option genCtorIdx false in
inductive Kf where
 |q (a:At)|y (i:E)|tw (v:V)|slc (lo hi:E)|Bu (v:V) (hi:E)|rD (v a:V)|bI (o:f7) (b:E)|nq (o:f7) (x:V)|b9 (o:qf) (b:E)|tx (o:qf) (x:V)
 |bN (b:E)|or (b:E)|cB|bz (a b:E)
 |ao (f:Fn) (vs:List V) (es:List E)|ce (c:eX) (vs:List V) (es:List E)|bi (b:Bi) (vs:List V) (es:List E)|u (vs:List V) (es:List E)|af (vs:List V) (es:List E)
 |dK (m:At) (es:List E)|hV (v:V) (m:At) (vs:List V) (es:List E)
 |i (i:Nat) (r:List S)|iW (is:List Nat) (r:List S)|cP (o:E) (a:At) (r:List S)|tz (v:V) (a:At) (r:List S)|db (i:Nat) (o:f7) (x:V) (r:List S)
 |ex (r:List S)|bQ (a b r:List S)|am|j (r:List S)|vt (n:Nat) (t:E) (b r:List S)|lN (n:Nat) (t:E) (b r:List S)
set_option genCtorIdx false in
inductive Cf where
 |e (e:E) (K:List Kf) (l:Lc) (H:Hp)
 |v (v:V) (K:List Kf) (l:Lc) (H:Hp)
 |s (r:List S) (K:List Kf) (l:Lc) (H:Hp)
 |fl (y:Fl) (K:List Kf) (l:Lc) (H:Hp)
 |ao (f:Fn) (vs:List V) (K:List Kf) (l:Lc) (H:Hp)
 |lp (n:Nat) (t:E) (b r:List S) (K:List Kf) (l:Lc) (H:Hp)
section
variable(run:fi)
noncomputable def Bv(t:E)(b:List S)(n:Nat)(l:Lc)(H:Hp):R (Fl×Lc):=qm (λl H=>(az run t l H).i λx H=>cG (dC x H) H) (λl H=>aZ run b l H) n l H
noncomputable def dp:List Kf->Fl×Lc->Hp->R (Fl×Lc)
 |[],y,H=>.ok y H
 |.j r::K,y,H=>match y with
  |(.aU,l)=>(aZ run r l H).i<|dp K
  |y=>dp K y H
 |.lN n t b r::K,y,H=>match y with
  |(.aU,l)=>(Bv run t b n l H).i λy H=>match y with
   |(.aU,l)=>(aZ run r l H).i<|dp K
   |y=>dp K y H
  |(.q,l)=>(Bv run t b n l H).i λy H=>match y with
   |(.aU,l)=>(aZ run r l H).i<|dp K
   |y=>dp K y H
  |(.u,l)=>(aZ run r l H).i<|dp K
  |(.am v,l)=>dp K (.am v,l) H
 |_::_,_,_=>.j
noncomputable def vu{d:Type}(o:Option Bool)(a b:R d):R d:=match o with
 |some c=>if c then a else b
 |.none=>.j
noncomputable def ap:List Kf->Lc->V->Hp->R (Fl×Lc)
 |[],_,_,_=>.j
 |f::K,l,v,H=>match f with
  |.q a=>(kC v a H).i<|ap K l
  |.y i=>(az run i l H).i λj H=>(f9 v j H).i<|ap K l
  |.tw u=>(f9 u v H).i<|ap K l
  |.slc lo h=>(az run lo l H).i λa H=>(az run h l H).i λb H=>(lI v a b H).i<|ap K l
  |.Bu u h=>(az run h l H).i λb H=>(lI u v b H).i<|ap K l
  |.rD u a=>(lI u a v H).i<|ap K l
  |.bI o b=>(az run b l H).i λy H=>(fQ o v y H).i<|ap K l
  |.nq o x=>(fQ o x v H).i<|ap K l
  |.b9 o b=>(az run b l H).i λy H=>(lH o v y H).i<|ap K l
  |.tx o x=>(lH o x v H).i<|ap K l
  |.bN b=>(vu (dC v H) (az run b l H)<|.ok v H).i<|ap K l
  |.or b=>(vu (dC v H) (.ok v H)<|az run b l H).i<|ap K l
  |.cB=>(cG ((dC v H).map λb=>V.i<|!b) H).i<|ap K l
  |.bz a b=>(vu (dC v H) (az run a l H)<|az run b l H).i<|ap K l
  |.ao f d e=>(cu run e l H).i λg H=>(run f (d++v::g) H).i<|ap K l
  |.ce c d e=>(cu run e l H).i λg H=>(iZ run c (d++v::g) H).i<|ap K l
  |.bi b d e=>(cu run e l H).i λg H=>(ga b (d++v::g) H).i<|ap K l
  |.u d e=>(cu run e l H).i λg H=>ap K l (.u<|d++v::g) H
  |.af d e=>(cu run e l H).i λg H=>ap K l (.ae H.length)<|H++[.af (d++v::g)]
  |.dK m e=>(match ql v H with
   |some c=>match gV c m with
    |some f=>(cu run e l H).i λd H=>run f (v::d) H
    |.none=>.j
   |.none=>if o7 v m H=I then(cu run e l H).i λd H=>hS v m d H else .j).i<|ap K l
  |.hV u m d e=>(cu run e l H).i λg H=>(hS u m (d++v::g) H).i<|ap K l
  |.i i r=>(aZ run r (l.set i<|O v) H).i<|dp run K
  |.iW is r=>(match hR v H with
   |some k=>match lJ is k l with
    |some l=>aZ run r l H
    |.none=>.j
   |.none=>.j).i<|dp run K
  |.cP o a r=>(az run o l H).i λx H=>(jY x a v H).i λp H=>(aZ run r l H).i<|dp run K
  |.tz u a r=>(jY v a u H).i λp H=>(aZ run r l H).i<|dp run K
  |.db i o x r=>(iY o x v H).i λv H=>(aZ run r (l.set i<|O v) H).i<|dp run K
  |.ex r=>(aZ run r l H).i<|dp run K
  |.bQ a b r=>(vu (dC v H) (aZ run a l H)<|aZ run b l H).i<|dp run<|.j r::K
  |.am=>dp run K (.am v,l) H
  |.vt n t b r=>(cG (dC v H) H).i λc H=>if c then(aZ run b l H).i (dp run<|.lN n t b r::K) else(aZ run r l H).i (dp run K)
  |_=>.j
noncomputable def d4:Cf->R (Fl×Lc)
 |.e e K l H=>(az run e l H).i<|ap run K l
 |.v v K l H=>ap run K l v H
 |.s r K l H=>(aZ run r l H).i<|dp run K
 |.fl y K l H=>dp run K (y,l) H
 |.ao f a K l H=>(run f a H).i<|ap run K l
 |.lp n t b r K l H=>(Bv run t b n l H).i<|dp run<|.j r::K
end
noncomputable def tA(e:E)(K:List Kf)(l:Lc)(H:Hp):Cf:=match e with
 |.c v=>.v v K l H
 |.qi n=>.v (.aa<|-(n:Int)) K l H
 |.l i=>match l[i]? with
  |some (some v)=>.v v K l H
  |_=>.e (.l i) K l H
 |.q e a=>.e e (.q a::K) l H
 |.y e i=>.e e (.y i::K) l H
 |.slc e a b=>.e e (.slc a b::K) l H
 |.bI o a b=>.e a (.bI o b::K) l H
 |.b9 o a b=>.e a (.b9 o b::K) l H
 |.bN a b=>.e a (.bN b::K) l H
 |.or a b=>.e a (.or b::K) l H
 |.cB a=>.e a (.cB::K) l H
 |.bz t a b=>.e t (.bz a b::K) l H
 |.ao f []=>.ao f [] K l H
 |.ao f (e::d)=>.e e (.ao f [] d::K) l H
 |.ce c (e::d)=>.e e (.ce c [] d::K) l H
 |.bi b (e::d)=>.e e (.bi b [] d::K) l H
 |.u []=>.v (.u []) K l H
 |.u (e::d)=>.e e (.u [] d::K) l H
 |.af []=>.v (.ae H.length) K l<|H++[.af []]
 |.af (e::d)=>.e e (.af [] d::K) l H
 |.aO e m d=>.e e (.dK m d::K) l H
 |e=>.e e K l H
noncomputable def Qw:f7->V->V->Option V
 |.i,.aa x,.aa y=>O<|.aa<|x+y
 |.ez,.aa x,.aa y=>O<|.aa<|x-y
 |_,_,_=>U
noncomputable def Bw(v:V)(f:Kf)(K:List Kf)(l:Lc)(H:Hp):Cf:=match f with
 |.q a=>match v with
  |.aQ c h=>match fd h a with
   |some u=>.v u K l H
   |.none=>.v (.aQ c h) (.q a::K) l H
  |v=>.v v (.q a::K) l H
 |.y i=>.e i (.tw v::K) l H
 |.slc a b=>.e a (.Bu v b::K) l H
 |.Bu u b=>.e b (.rD u v::K) l H
 |.bI o b=>.e b (.nq o v::K) l H
 |.nq o x=>match Qw o x v with
  |some u=>.v u K l H
  |.none=>.v v (.nq o x::K) l H
 |.b9 o b=>.e b (.tx o v::K) l H
 |.tx o x=>match lH o x v H with
  |.ok u H=>.v u K l H
  |_=>.v v (.tx o x::K) l H
 |.cB=>match v with
  |.i b=>.v (.i !b) K l H
  |v=>.v v (.cB::K) l H
 |.ao f g []=>.ao f (g++[v]) K l H
 |.ao f g (e::d)=>.e e (.ao f (g++[v]) d::K) l H
 |.ce c g (e::d)=>.e e (.ce c (g++[v]) d::K) l H
 |.bi b g (e::d)=>.e e (.bi b (g++[v]) d::K) l H
 |.u g []=>.v (.u<|g++[v]) K l H
 |.u g (e::d)=>.e e (.u (g++[v]) d::K) l H
 |.af g []=>.v (.ae H.length) K l<|H++[.af (g++[v])]
 |.af g (e::d)=>.e e (.af (g++[v]) d::K) l H
 |.dK m d=>match v with
  |.aQ c h=>match gV c m,d with
   |some f,[]=>.ao f [.aQ c h] K l H
   |some f,e::d=>.e e (.ao f [.aQ c h] d::K) l H
   |.none,d=>.v (.aQ c h) (.dK m d::K) l H
  |v=>.v v (.dK m d::K) l H
 |.hV u m g (e::d)=>.e e (.hV u m (g++[v]) d::K) l H
 |.i i r=>.s r K (l.set i<|O v) H
 |.cP o a r=>.e o (.tz v a r::K) l H
 |.ex r=>.s r K l H
 |.am=>.fl (.am v) K l H
 |f=>.v v (f::K) l H
noncomputable def Bx(s:S)(r:List S)(K:List Kf)(l:Lc)(H:Hp):Cf:=match s with
 |.i i e=>.e e (.i i r::K) l H
 |.cP o a e=>.e e (.cP o a r::K) l H
 |.iW is e=>.e e (.iW is r::K) l H
 |.db i o e=>match l[i]? with
  |some (some x)=>.e e (.db i o x r::K) l H
  |_=>.s (.db i o e::r) K l H
 |.ex e=>.e e (.ex r::K) l H
 |.bQ t a b=>.e t (.bQ a b r::K) l H
 |.am e=>.e e (.am::K) l H
 |.u=>.fl .u K l H
 |.q=>.fl .q K l H
 |.gJ t b=>.lp hT t b r K l H
 |s=>.s (s::r) K l H
noncomputable def Gh(y:Fl)(K:List Kf)(l:Lc)(H:Hp):Cf:=match K with
 |.j r::K=>match y with
  |.aU=>.s r K l H
  |y=>.fl y K l H
 |.lN n t b r::K=>match y with
  |.aU=>.lp n t b r K l H
  |.q=>.lp n t b r K l H
  |.u=>.s r K l H
  |.am v=>.fl (.am v) K l H
 |K=>.fl y K l H
noncomputable def nx:Cf->Cf
 |.e e K l H=>tA e K l H
 |.v v (f::K) l H=>Bw v f K l H
 |.s [] K l H=>.fl .aU K l H
 |.s (s::r) K l H=>Bx s r K l H
 |.fl y K l H=>Gh y K l H
 |.v v [] l H=>.v v [] l H
 |.ao f a K l H=>.ao f a K l H
 |.lp n t b r K l H=>.lp n t b r K l H
noncomputable def yb:Nat->Cf->Cf
 |0,c=>c
 |n+1,c=>yb n<|nx c
noncomputable abbrev go(c:Cf):Cf:=yb 60 c
section
variable{run:fi}
theorem lO{c:Type}(e:E)(b:List E)(l:Lc)(H:Hp)(g:List V->Hp->R c):(cu run (e::b) l H).i g=(az run e l H).i λa H=>(cu run b l H).i λd H=>g (a::d) H:=by
 rw[ee];congr 1;funext a H;rw[ee];rfl
theorem tB{f:Type}(c:List V)(v:V)(e:E)(d:List E)(l:Lc)(H:Hp)(g:List V->Hp->R f):(az run e l H).i (λa H=>(cu run d l H).i λb H=>g ((c++[v])++a::b) H)=(cu run (e::d) l H).i λb H=>g (c++v::b) H:=by
 rw[lO];simp only[b6];rfl
theorem i0{b c:Type}{m:R b}{f g:b->Hp->R c}(h:∀a H,f a H=g a H):m.i f=m.i g:=by cases m<;>first|rfl|exact h _ _
theorem jz{b c:Type}(a:b)(H:Hp)(f:b->Hp->R c):(R.ok a H).i f=f a H:=rfl
theorem Gi(e:E)(K:List Kf)(l:Lc)(H:Hp):d4 run (tA e K l H)=(az run e l H).i (ap run K l):=by
 induction e using E.casesOn with
 |l i=>
  show d4 run (match l[i]? with|some (some v)=>.v v K l H|_=>.e (.l i) K l H)=_
  rcases h:l[i]? with _|_|v
  ·rfl
  ·rfl
  ·show _=(match l[i]? with|some (some v)=>R.ok v H|_=>.j).i _;rw[h];rfl
 |ao f as=>induction as using aW with|nil=>rfl|cons e c=>exact(lO e c l H _).symm.trans (ee ..).symm
 |ce f as=>induction as using aW with|nil=>rfl|cons e c=>exact(lO e c l H _).symm.trans (ee ..).symm
 |bi f as=>induction as using aW with|nil=>rfl|cons e c=>exact(lO e c l H _).symm.trans (ee ..).symm
 |u as=>induction as using aW with|nil=>rfl|cons e c=>exact((lO e c l H λd H=>ap run K l (.u d) H).symm.trans (ee (cu run (e::c) l H) (λd H=>R.ok (V.u d) H) _).symm)
 |af as=>induction as using aW with|nil=>rfl|cons e c=>exact((lO e c l H λd H=>ap run K l (.ae H.length)<|H++[.af d]).symm.trans (ee (cu run (e::c) l H) (λd H=>R.ok (V.ae H.length)<|H++[b4.af d]) _).symm)
 |y e i=>exact(i0 λa H=>(ee ..).symm).trans (ee ..).symm
 |slc e a b=>exact(i0 λa H=>(i0 λa H=>(ee ..).symm).trans (ee ..).symm).trans (ee ..).symm
 |bI o a b=>exact(i0 λa H=>(ee ..).symm).trans (ee ..).symm
 |b9 o a b=>exact(i0 λa H=>(ee ..).symm).trans (ee ..).symm
 |_=>first|rfl|exact(ee ..).symm
theorem Gj(v:V)(f:Kf)(K:List Kf)(l:Lc)(H:Hp):d4 run (Bw v f K l H)=ap run (f::K) l v H:=by
 cases f with
 |q a=>
  induction v using V.casesOn with
  |aQ c j=>
   show d4 run (match fd j a with|some u=>.v u K l H|.none=>.v (.aQ c j) (.q a::K) l H)=_
   rcases h:fd j a with _|u
   ·rfl
   ·show _=(cG (fd j a) H).i _;rw[h];rfl
  |_=>rfl
 |nq o x=>
  induction o using f7.casesOn with
  |i=>cases x<;>first|rfl|(cases v<;>rfl)
  |ez=>cases x<;>first|rfl|(cases v<;>rfl)
  |_=>rfl
 |tx o x=>
  show d4 run (match lH o x v H with|.ok u H=>.v u K l H|_=>.v v (.tx o x::K) l H)=(lH o x v H).i _
  rcases h:lH o x v H with _|_|_<;>first|rfl|(show(lH o x v H).i _=_;rw[h])
 |cB=>cases v<;>rfl
 |ao f d as=>induction as using aW with|nil=>rfl|cons e b=>exact tB d v e b l H λg H=>(run f g H).i<|ap run K l
 |ce f d as=>induction as using aW with|nil=>rfl|cons e b=>exact tB d v e b l H λg H=>(iZ run f g H).i<|ap run K l
 |bi f d as=>induction as using aW with|nil=>rfl|cons e b=>exact tB d v e b l H λg H=>(ga f g H).i<|ap run K l
 |u d as=>induction as using aW with|nil=>rfl|cons e b=>exact tB d v e b l H λg H=>ap run K l (.u g) H
 |af d as=>induction as using aW with|nil=>rfl|cons e b=>exact tB d v e b l H λg H=>ap run K l (.ae H.length)<|H++[.af g]
 |hV u m d as=>induction as using aW with|nil=>rfl|cons e b=>exact tB d v e b l H λg H=>(hS u m g H).i<|ap run K l
 |dK m b=>
  induction v using V.casesOn with
  |aQ c j=>
   show d4 run (match gV c m,b with|some f,[]=>.ao f [.aQ c j] K l H|some f,e::b=>.e e (.ao f [.aQ c j] b::K) l H|.none,b=>.v (.aQ c j) (.dK m b::K) l H)=(match gV c m with|some f=>(cu run b l H).i λd H=>run f (.aQ c j::d) H|.none=>.j).i (ap run K l)
   rcases h:gV c m with _|f
   ·show(match gV c m with|some f=>(cu run b l H).i λd H=>run f (.aQ c j::d) H|.none=>.j).i (ap run K l)=_;rw[h]
   ·induction b using aW with|nil=>rfl|cons e b=>exact(lO e b l H λg H=>(run f (V.aQ c j::g) H).i<|ap run K l).symm.trans (ee (cu run (e::b) l H) (λd H=>run f (V.aQ c j::d) H) _).symm
  |_=>rfl
 |cP o a r=>rfl
 |_=>rfl
theorem Gk(s:S)(r:List S)(K:List Kf)(l:Lc)(H:Hp):d4 run (Bx s r K l H)=(aZ run (s::r) l H).i (dp run K):=by
 have sc:∀(m:R<|Fl×Lc),(m.i λx H=>match x with|(.aU,l)=>aZ run r l H|x=>.ok x H).i (dp run K)=m.i (dp run<|.j r::K):=λm=>by
  rw[ee];congr 1;funext x H;obtain⟨f,g⟩:=x;cases f<;>rfl
 have c:=sc<|f0 run s l H;refine .trans ?_ (sc<|f0 run s l H).symm
 induction s using S.casesOn with
 |i i e=>exact(ee (az run e l H) (λv H=>R.ok (Fl.aU,l.set i<|O v) H)<|dp run<|.j r::K).symm
 |ex e=>exact(ee (az run e l H) (λv H=>R.ok (Fl.aU,l) H)<|dp run<|.j r::K).symm
 |am e=>exact(ee (az run e l H) (λv H=>R.ok (Fl.am v,l) H)<|dp run<|.j r::K).symm
 |bQ t a b=>exact(ee (az run t l H) (λx H=>vu (dC x H) (aZ run a l H)<|aZ run b l H)<|dp run<|.j r::K).symm
 |cP o a e=>
  exact(i0 λv H=>(i0 λx H=>(ee (jY x a v H) (λd H=>R.ok (Fl.aU,l) H)<|dp run<|.j r::K).symm).trans (ee (az run o l H) (λx H=>(jY x a v H).i λd H=>R.ok (Fl.aU,l) H)<|dp run<|.j r::K).symm).trans (ee (az run e l H) (λv H=>(az run o l H).i λx H=>(jY x a v H).i λd H=>R.ok (Fl.aU,l) H)<|dp run<|.j r::K).symm
 |iW is e=>
  refine .trans (i0 λv H=>?_) (ee (az run e l H) (λv H=>(match hR v H with|some xs=>(match lJ is xs l with|some l=>R.ok (Fl.aU,l) H|.none=>R.j)|.none=>R.j))<|dp run<|.j r::K).symm;show(match hR v H with|some xs=>(match lJ is xs l with|some l=>aZ run r l H|.none=>.j)|.none=>.j).i _=(match hR v H with|some xs=>(match lJ is xs l with|some l=>R.ok (Fl.aU,l) H|.none=>R.j)|.none=>R.j).i _
  rcases hR v H with _|xs
  ·rfl
  ·dsimp only;rcases lJ is xs l<;>rfl
 |db i o e=>
  show d4 run (match l[i]? with|some (some x)=>.e e (.db i o x r::K) l H|_=>.s (.db i o e::r) K l H)=R.i (match l[i]? with
   |some (some x)=>(az run e l H).i λy H=>(iY o x y H).i λv H=>R.ok (Fl.aU,l.set i<|O v) H
   |_=>R.j) (dp run<|.j r::K)
  rcases h:l[i]? with _|_|x
  ·refine c.trans ?_;show R.i (match l[i]? with|some (some x)=>(az run e l H).i λy H=>(iY o x y H).i λv H=>R.ok (Fl.aU,l.set i<|some v) H|_=>.j) _=_;rw[h]
  ·refine c.trans ?_;show R.i (match l[i]? with|some (some x)=>(az run e l H).i λy H=>(iY o x y H).i λv H=>R.ok (Fl.aU,l.set i<|O v) H|_=>.j) _=_;rw[h]
  ·exact(i0 λv H=>(ee (iY o x v H) (λv H=>R.ok (Fl.aU,l.set i<|O v) H)<|dp run<|.j r::K).symm).trans (ee (az run e l H) (λy H=>(iY o x y H).i λv H=>R.ok (Fl.aU,l.set i<|O v) H)<|dp run<|.j r::K).symm
 |u=>rfl
 |q=>rfl
 |gJ t b=>rfl
 |_=>exact c
theorem Gl(c:Cf):d4 run (nx c)=d4 run c:=by
 induction c using Cf.casesOn with
 |e e K l H=>exact Gi ..
 |v v K l H=>induction K using aW with|nil=>rfl|cons f K=>exact Gj ..
 |s r K l H=>induction r using aW with|nil=>rfl|cons s r=>exact Gk ..
 |fl y K l H=>
  induction K using aW with
  |nil=>rfl
  |cons f K=>induction f using Kf.casesOn with
   |j r=>cases y<;>rfl
   |lN n t b r=>
    induction y using Fl.casesOn with
    |aU=>exact i0 λy H=>by obtain⟨y,l⟩:=y;cases y<;>rfl
    |q=>exact i0 λy H=>by obtain⟨y,l⟩:=y;cases y<;>rfl
    |_=>rfl
   |_=>rfl
 |ao f a K l H=>rfl
 |lp n t b r K l H=>rfl
theorem Qx:∀(n:Nat) (c:Cf),d4 run (yb n c)=d4 run c:=by
 intro n
 induction n with
 |zero=>
  intro b;exact J
 |succ n a=>
  intro c;exact(a<|nx c).trans<|Gl c
end
structure PA where
 ap:Nat
 tl:Nat
 dl:Nat
 rl:Nat
 lb:Nat
 cv:Nat
 sp:Nat
 sv:Nat
structure Fg where
 bS:Int
 nc:Bool
 ai:Bool
noncomputable def gX:V:=.dct [(.aa 1,.aQ .vh []),(.aa 9,.aQ .vi []),(.aa 11,.aQ .vj [])]
noncomputable def i3:V:=.dct [(.ah uY,.aQ .y []),(.ah [40],.aQ .tg []),(.ah [123],.aQ .ti []),(.ah xO,.aQ .tj [])]
noncomputable def Gm(c:PA)(g:Fg)(k:Nat):List (At×V):=[(.iz,.ae c.tl),(.aJ,.aa k),(.dU,.ae c.dl),(.gT,gX),(.qg,.dct []),(.qh,.dct []),(.fY,i3),(.bS,.aa g.bS),(.rn,.u [.ah [],.aa 0,.aa 0]),(.lD,.i g.ai),(.rq,.aa 0),(.rt,.aa 0),(.s8,.aa 0),(.s9,.ae c.lb),(.hQ,.i g.nc),(.tb,.i C),(.vb,.aa 0),(.vc,.ae c.cv),(.vd,.dct []),(.ve,.dct []),(.tc,.ae c.sp),(.x0,.ae c.sv)]
noncomputable abbrev vv(c:PA)(g:Fg)(k:Nat):b4:=.aQ .i<|Gm c g k
noncomputable abbrev yc(c:PA):b4:=.aQ .q [(.lC,.ae c.rl),(.rm,.ah [])]
noncomputable def yd(n:Int)(a:Int)(args:List V):V:=.aQ .vg [(.oG,.aa n),(.aJ,.aa a),(.Ba,.u args),(.rm,.ah [])]
class inductive nt:List V->List Int->Prop where
 |nil:nt [] []
 |eJ {ds ns n p as}:nt ds ns->nt (ds++[yd n p as]) (ns++[n])
theorem nt.j{a:List V}{ns:List Int}(h:nt a ns):a.length=ns.length:=by
 induction h with
 |nil=>rfl
 |eJ _ b=>rw[bx,bx,b];rfl
structure Pl(c:PA)(F:List aj):Prop where
 Qy:∃i e,F=i++[e]/\e.aq=0
 Qz:F.length<4000000
 n1:c.ap≠c.tl
 n2:c.ap≠c.dl
 n3:c.ap≠c.rl
 n4:c.rl≠c.tl
 n5:c.rl≠c.dl
inductive PS(c:PA)(F:List aj)(g:Fg):Sg->Hp->Prop
 |mk (i r:List aj) (t:aj) (ds:List V) (ns:List Int) (H:Hp) (P:Pl c F) (e:F=i++t::r) (hp:H[c.ap]? =some (vv c g i.length)) (ht:H[c.tl]? =some (.af (F.map aj.v))) (hd:H[c.dl]? =some (yc c)) (hr:H[c.rl]? =some (.af ds)) (R:nt ds ns):PS c F g ⟨t::r,ns⟩ H
structure bT(c:PA)(H H':Hp):Prop where
 bK:H.length<=H'.length
 jA:∀i,i<H.length->i≠c.ap->i≠c.rl->H'[i]? =H[i]?
theorem bT.refl{c:PA}{H:Hp}:bT c H H:=⟨bF _,λa a a a=>J⟩
theorem bT.q{c:PA}{H H₁ d:Hp}(a:bT c H H₁)(b:bT c H₁ d):bT c H d:=
 ⟨aE a.bK b.bK,λi h x y=>(b.jA i (iO h a.bK) x y).trans<|a.jA i h x y⟩
theorem hW{H:Hp}(h:H[i]? =O o):i<H.length:=(fM.mp h).1
theorem fo{H:Hp}(h:H[i]? =O a):(H.set i o)[i]? =O o:=oi<|hW h
theorem fq{H:Hp}(n:i≠j)(h:H[j]? =O a):(H.set i o)[j]? =O a:=(mS n).trans h
theorem cQ{H l:Hp}{i:Nat}{o:b4}(h:H[i]? =O o):(H++l)[i]? =O o:=(p7<|hW h).trans h
theorem cD{H:Hp}:(H++[o])[H.length]? =O o:=mT
theorem iA{H:Hp}:(H++[o]).set H.length a=H++[a]:=by rw[acS _ _ (bF _),p9];rfl
section
variable{c:PA}{F:List aj}{g:Fg}{s:Sg}{H:Hp}
theorem bT.u:bT c H (H.set c.ap o):=⟨b7 (sK ..).symm,λi a x a=>mS<|eG x⟩
theorem bT.i:bT c H (H.set c.rl o):=⟨b7 (sK ..).symm,λi a a x=>mS<|eG x⟩
theorem bT.j:bT c H (H++l):=⟨by rw[bx];exact d7 ..,λi h a a=>p7 h⟩
theorem bT.y{H₀:Hp}(x:bT c H H₀)(b:H.length<=a):bT c H (H₀.set a o):=
 ⟨(sK ..).symm▸x.bK,λi h p q=>(mS<|mU<|iO h b).trans<|x.jA i h p q⟩
theorem bT.at{H₀:Hp}(x:bT c H H₀)(h:H[a]? =O o)(p:a≠c.ap)(q:a≠c.rl):H₀[a]? =O o:=(x.jA a (hW h) p q).trans h
theorem PS.u{i r:List aj}(P:Pl c F)(e:F=i++t::r)(hp:H[c.ap]? =O (vv c g k))(ht:H[c.tl]? =O (.af<|F.map aj.v))(hd:H[c.dl]? =O (yc c))(hr:H[c.rl]? =O (.af a))(R:nt a ns):
  PS c F g' ⟨t::r,ns⟩ (H.set c.ap<|vv c g' i.length):=.mk i r t a ns _ P e (fo hp) (fq P.n1 ht) (fq P.n2 hd) (fq P.n3 hr) R
theorem PS.j(h:PS c F g s H)(l:Hp):PS c F g s (H++l):=by
 induction h with
 |mk i r t a ns H P e hp ht hd hr R=>exact .mk i r t a ns _ P e (cQ hp) (cQ ht) (cQ hd) (cQ hr) R
end
structure i4(c:PA)(B:Hp)(a:Nat):Prop where
 By:B.length<=a
 ap:c.ap<B.length
 tl:c.tl<B.length
 dl:c.dl<B.length
 rl:c.rl<B.length
section
variable{c:PA}{F:List aj}{g:Fg}{s:Sg}{H:Hp}
theorem i4.ne{B:Hp}(o:i4 c B a)(h:x<B.length):a≠x:=mU<|iO h o.By
theorem i4.ps(o:i4 c B a)(h:PS c F g s H):PS c F g s (H.set a b):=by
 induction h with
 |mk i r t d ns H P e hp ht hd hr R=>exact .mk i r t d ns _ P e (fq (o.ne o.ap) hp) (fq (o.ne o.tl) ht) (fq (o.ne o.dl) hd) (fq (o.ne o.rl) hr) R
theorem PS.kD(h:PS c F g s H):i4 c H H.length:=by
 induction h with
 |mk i r t a ns H P e hp ht hd hr R=>exact⟨bF _,hW hp,hW ht,hW hd,hW hr⟩
theorem i4.at{B H₀:Hp}(o:i4 c B a)(x:bT c H H₀)(h:H[a]? =O b):H₀[a]? =O b:=x.at h (o.ne o.ap) (o.ne o.rl)
noncomputable def NS(c:PA)(ns:List Int)(H:Hp):Prop:=∃g k a,H[c.ap]? =O (vv c g k)/\H[c.dl]? =O (yc c)/\H[c.rl]? =O (.af a)/\nt a ns
theorem PS.ns(h:PS c F g s H):NS c s.ns H:=by
 induction h with
 |mk i r t a ns H P e hp ht hd hr R=>exact f8 g i.length a hp hd hr R
end
noncomputable def RT:T->V->Hp->Prop:=λt v a=>v=t.v
inductive eK{α:Type}(c:PA)(F:List aj)(g:Fg)(H:Hp)(Rv:α->V->Hp->Prop):R V->PR α->Prop
 |ok {v H' a s}:Rv a v H'->PS c F g s H'->bT c H H'->eK c F g H Rv (.ok v H') (.ok a s)
 |d8 {H' ns}:NS c ns H'->bT c H H'->eK c F g H Rv (.q H') (.d8 ns)
 |j {r}:eK c F g H Rv r .j
noncomputable abbrev dD{a:Type}(c:PA)(F:List aj)(g:Fg)(H:Hp)(Rv:a->V->Hp->Prop)(r:R V)(p:PR a):Prop:=eK c F g H Rv r p
noncomputable def Jd(X:R (Fl×Lc)->Prop)(m:Nat)(c:Cf):Prop:=X<|d4 (ag m) c
noncomputable def ef(x:Fl×Lc)(H:Hp):R V:=match x with
 |(.am v,_)=>.ok v H
 |(.aU,_)=>.ok .none H
 |_=>.j
theorem kE(n:Nat){X:R (Fl×Lc)->Prop}{m:Nat}{c c':Cf}(e:yb n c=c')(h:Jd X m c'):Jd X m c:=by
 unfold Jd at h⊢;rw[<-Qx n c];rw[<-e] at h;exact h
theorem bv{X:R (Fl×Lc)->Prop}{m:Nat}{c c':Cf}(e:go c=c')(h:Jd X m c'):Jd X m c:=kE 60 e h
theorem bf{X:R (Fl×Lc)->Prop}{m:Nat}{c c':Cf}(e:d4 (ag m) c=d4 (ag m) c')(h:Jd X m c'):Jd X m c:=by
 unfold Jd at h⊢;rw[e];exact h
theorem qp{as:List V}{H:Hp}(m:Nat)(hb:iX f=(np,nl,body))(a:as.length=np):ag (m+1) f as H=(d4 (ag m)<|.s body [] (as.map O++jp (nl-np) U) H).i ef:=by
 show Bq (ag m) f as H=_;unfold Bq;rw[hb]
 dsimp only
 rw[aN a];show _=R.i (R.i _<|dp (ag m) []) ef;rw[(λr=>by cases r<;>rfl:∀r:R<|Fl×Lc,r.i (dp (ag m) [])=r)];exact i0 λx H=>by obtain⟨y,l⟩:=x;cases y<;>rfl
section
variable{X:R (Fl×Lc)->Prop}{m:Nat}{c:Cf}{K:List Kf}{l:Lc}{H H':Hp}{u v w:V}
theorem bn(e:go c=.ao f a K l H)(h:ag m f a H=.ok v H')(q:Jd X m<|.v v K l H'):Jd X m c:=
 bv e (bf (by show(ag m f a H).i _=_;rw[h];rfl) q)
theorem cX(e:go c=.v u (.q a::K) l H)(h:kC u a H=.ok v H)(q:Jd X m<|.v v K l H):Jd X m c:=
 bv e (bf (by show(kC u a H).i _=_;rw[h];rfl) q)
theorem gf(h:H[x]? =O (.aQ cl fs))(e:fd fs a=O v):kC (.ae x) a H=.ok v H:=by
 show(match H[x]? with|some (.aQ _ fs)=>cG (fd fs a) H|_=>.j)=_;rw[h];show cG (fd fs a) H=_;rw[e];rfl
theorem b5(e:go c=.v w (.tw u::K) l H)(h:f9 u w H=.ok v H)(q:Jd X m<|.v v K l H):Jd X m c:=
 bv e (bf (by show(f9 u w H).i _=_;rw[h];rfl) q)
theorem ck(e:go c=.v w (.nq o u::K) l H)(h:fQ o u w H=.ok v H')(q:Jd X m<|.v v K l H'):Jd X m c:=
 bv e (bf (by show(fQ o u w H).i _=_;rw[h];rfl) q)
noncomputable def BA(f:Fn)(v:V)(a:List E)(K:List Kf)(l:Lc)(H:Hp):Cf:=match a with
 |[]=>.ao f [v] K l H
 |e::a=>.e e (.ao f [v] a::K) l H
theorem tC:d4 (ag m) (BA f v a K l H)=((cu (ag m) a l H).i λb H=>ag m f (v::b) H).i (ap (ag m) K l):=by
 induction a using aW with
 |nil=>rfl
 |cons e a=>exact(lO e a l H λd H=>(ag m f (v::d) H).i<|ap (ag m) K l).symm.trans (ee (cu (ag m) (e::a) l H) (λb H=>ag m f (v::b) H) _).symm
theorem vw{x:Nat}{a:At}{b:List E}{cl:eX}{fs:List (At×V)}{f:Fn}(e:go c=.v (.ae x) (.dK a b::K) l H)(h:H[x]? =some (.aQ cl fs))(hm:gV cl a=some f)(q:Jd X m (BA f (.ae x) b K l H)):Jd X m c:=
 bv e (bf (by rw[tC];show R.i (match(match H[x]? with|some (.aQ c _)=>some c|_=>.none) with|some c=>(match gV c a with|some f=>(cu (ag m) b l H).i λd H=>ag m f (.ae x::d) H|.none=>.j)|.none=>_) _=_;rw[h];dsimp only;rw[hm]) q)
theorem ek(e:go c=.v (.i b) (.bQ a d r::K) l H)(f:b=I->Jd X m (.s a (.j r::K) l H))(g:b=C->Jd X m (.s d (.j r::K) l H)):Jd X m c:=by
 refine bv e ?_;clear e
 cases b
 ·exact g J
 ·exact f J
theorem k7(h:l[i]? =O (O v)):az (ag m) (.l i) l H=.ok v H:=by show(match l[i]? with|some (some v)=>R.ok v H|_=>.j)=_;rw[h]
theorem cy(e:go c=.v (.i b) (.bQ a d r::K) l H)(hb:b=I)(q:Jd X m<|.s a (.j r::K) l H):Jd X m c:=ek e (λf=>q) λh=>ax (hb.symm.trans h) c5
theorem bh(e:go c=.v (.i b) (.bQ a d r::K) l H)(hb:b=C)(q:Jd X m<|.s d (.j r::K) l H):Jd X m c:=ek e (λh=>ax (hb.symm.trans h) bc) λf=>q
theorem BB(e:go c=.s (.oW (.l i) a o (.c u)::r) K l H)(b:l[i]? =O (O<|.ae x))(h:H[x]? =O (.aQ cl fs))(hg:fd fs a=O w)(hb:iY o w u H=.ok v H)(q:Jd X m<|.s r K l<|H.set x<|.aQ cl<|fD fs a v):Jd X m c:=
 bv e (bf (by
  have e1:f0 (ag m) (.oW (.l i) a o<|.c u) l H=.ok (.aU,l) (H.set x<|.aQ cl<|fD fs a v):=by
   show R.i (az (ag m) (.l i) l H) _=_;rw[k7 b,jz,gf h hg,jz];show R.i (iY o w u H) _=_;rw[hb,jz];show R.i (match H[x]? with|some (.aQ c fs)=>R.ok () (H.set x<|.aQ c<|fD fs a v)|_=>.j) _=_;rw[h];rfl
  show R.i (R.i (f0 (ag m) (.oW (.l i) a o<|.c u) l H) _) _=_;rw[e1];rfl) q)
theorem j1(e:go c=.v (.i b) (.bz x y::K) l H)(a:b=I->Jd X m (.e x K l H))(d:b=C->Jd X m (.e y K l H)):Jd X m c:=by
 refine bv e ?_;clear e
 cases b
 ·exact d J
 ·exact a J
theorem eg(e:go c=.v (.i b) (.bN y::K) l H)(a:b=I->Jd X m (.e y K l H))(d:b=C->Jd X m (.v (.i C) K l H)):Jd X m c:=by
 refine bv e ?_;clear e
 cases b
 ·exact d J
 ·exact a J
theorem vx(e:go c=.v (.i b) (.or y::K) l H)(a:b=I->Jd X m (.v (.i I) K l H))(d:b=C->Jd X m (.e y K l H)):Jd X m c:=by
 refine bv e ?_;clear e
 cases b
 ·exact d J
 ·exact a J
theorem tD(h:az (ag m) x l H=.ok v H)(hs:cu (ag m) a l H=.ok b H):cu (ag m) (x::a) l H=.ok (v::b) H:=by
 show R.i (az (ag m) x l H) (λv H=>R.i (cu (ag m) a l H) _)=_;rw[h,jz,hs];rfl
theorem gL(h:az (ag m) x l H=.ok v H')(q:Jd X m<|.v v K l H'):Jd X m (.e x K l H):=
 bf (by show(az (ag m) x l H).i _=_;rw[h];rfl) q
theorem fE(e:go c=.v (.i b) (.bN y::K) l H)(h:az (ag m) y l H=.ok (.i b') H)(q:Jd X m<|.v (.i<|b&&b') K l H):Jd X m c:=by
 refine bv e ?_;clear e
 cases b
 ·exact q
 ·exact gL h q
theorem dQ(e:go c=.v (.i b) (.or y::K) l H)(h:az (ag m) y l H=.ok (.i b') H)(q:Jd X m<|.v (.i<|b||b') K l H):Jd X m c:=by
 refine bv e ?_;clear e
 cases b
 ·exact gL h q
 ·exact q
theorem i5(q:Jd X m<|.e t (.vt n t b r::K) l H):Jd X m (.lp (n+1) t b r K l H):=by
 refine bf ?_ q;show R.i (R.i (R.i _ _) _) _=R.i _ _;rw[ee,ee];refine i0 λx H=>i0 λd H=>?_
 cases d
 ·rfl
 ·rw[ee];refine i0 λy H=>?_;obtain⟨y,l⟩:=y
  induction y using Fl.casesOn with
  |aU=>exact i0 λy H=>by obtain⟨y,l⟩:=y;cases y<;>rfl
  |q=>exact i0 λy H=>by obtain⟨y,l⟩:=y;cases y<;>rfl
  |_=>rfl
theorem gA(e:go c=.v (.i d) (.vt n t b r::K) l H)(a:d=I->Jd X m (.s b (.lN n t b r::K) l H))(f:d=C->Jd X m (.s r K l H)):Jd X m c:=by
 refine bv e ?_;clear e
 cases d
 ·exact f J
 ·exact a J
theorem f1(e:go c=.v (.ae a) (.dK .q [b]::K) l H)(h:H[a]? =O (.af f))(q:Jd X m<|.e b (.hV (.ae a) .q [] []::K) l H):Jd X m c:=
 bv e (bf (by
  show R.i (match(match H[a]? with|some (.aQ c _)=>O c|_=>.none) with
   |some c=>_
   |.none=>if(match H[a]? with|some (.af _)=>I|_=>C)=I then(cu (ag m) [b] l H).i λd H=>hS (.ae a) .q d H else .j) _=_
  rw[h];rw[aN J];exact(ee (cu (ag m) [b] l H) (λd H=>hS (.ae a) .q d H) _).trans<|lO b [] l H λg H=>(hS (.ae a) .q g H).i<|ap (ag m) K l) q)
theorem i6{b:List V}(e:go c=.v u (.hV (.ae a) .q [] []::K) l H)(h:H[a]? =O (.af b))(d:b.length<bg)(q:Jd X m<|.v .none K l<|H.set a<|.af<|b++[u]):Jd X m c:=
 bv e (bf (by
  show R.i (match H[a]? with|some (.af b)=>if b.length<bg then R.ok V.none (H.set a<|.af<|b++[u]) else .j|_=>.j) _=_;rw[h];dsimp only;rw[aN d];rfl) q)
theorem rM(e:go c=.v (.ae x) (.tz u a r::K) l H)(h:H[x]? =O (.aQ cl fs))(q:Jd X m<|.s r K l<|H.set x<|.aQ cl<|fD fs a u):Jd X m c:=
 bv e (bf (by
  show R.i (match H[x]? with|some (.aQ c fs)=>R.ok () (H.set x<|.aQ c<|fD fs a u)|_=>.j) _=_;rw[h];rfl) q)
theorem aL(e:go c=.fl y [] l H)(h:X<|.ok (y,l) H):Jd X m c:=bv e h
end
theorem cR{as:List V}{H H':Hp}{v:V}{m:Nat}(hb:iX f=(np,nl,body))(a:as.length=np)(q:Jd (λr=>r.i ef=.ok v H') m<|.s body [] (as.map O++jp (nl-np) U) H):ag (m+1) f as H=.ok v H':=(qp m hb a).trans q
section
variable{c:PA}{y:List aj}{g:Fg}{s:Sg}{H:Hp}{m:Nat}
theorem i7(t:aj)(k:Int)(x:List Nat)(H:Hp):ag (m+1) 502 [t.v,.aa k,.ah x] H=.ok (.i<|t.is k x) H:=by
 refine cR J J<|eg J (λh=>?_) λh=>?_
 ·refine aL J ?_;unfold aj.is;rw[h];rfl
 ·refine aL J ?_;unfold aj.is;rw[h];rfl
theorem ye{i r:List aj}{t:aj}(e:y=i++t::r):(y.map aj.v)[i.length]? =O t.v:=by
 subst e;simp
theorem Gn{a:List V}{i:Nat}{H:Hp}(e:a[i]? =O v):cG ((fR (i:Int) a.length).bind λj=>a[j]?) H=.ok v H:=by
 have:fR (i:Int) a.length=O i:=by
  unfold fR;rw[aN (qa i),aN (uI.mpr<|(fM.mp e).1)];rfl
 rw[this];exact bJ (cG · H) e
theorem hX{b:List V}{i:Nat}{v:V}{a:Nat}(h:H[a]? =O (.af b))(e:b[i]? =O v):f9 (.ae a) (.aa i) H=.ok v H:=by
 show cG ((match H[a]? with|some (.af b)=>O b|_=>U).bind λb=>(fR i b.length).bind λj=>b[j]?) H=_;rw[h];exact Gn e
theorem QA(h:PS c y g s H):ag (m+1) 313 [.ae c.ap] H=.ok s.i.v H:=by
 induction h with
 |mk i r t a ns H P e hp ht hd hr R=>
 refine cR rfl rfl<|cX rfl (gf hp rfl)<|cX rfl (gf hp rfl)<|b5 rfl (hX ht<|ye e)<|aL rfl rfl
theorem Gp{i r:List aj}(e:y=i++t::r){u:aj}(h:(t::r)[j]? =O u):(y.map aj.v)[i.length+j]? =O u.v:=by
 subst e;rw[dz,qY (by rw[c3];exact d7 ..),c3,M9,qb,h];rfl
theorem Gq(h:H[c.tl]? =O (.af<|y.map aj.v)){i r:List aj}(e:y=i++t::r):ga .bK [.ae c.tl] H=.ok (.aa ((i.length+(r.length+1):Nat):Int)) H:=by
 show cG ((match H[c.tl]? with|some (.af a)=>O a|_=>U).map λ(a:List V)=>V.aa a.length) H=_;rw[h];show R.ok (V.aa ((y.map aj.v).length:Nat)) H=_;rw[c3,e,bx,gS]
theorem fF{X:R (Fl×Lc)->Prop}{K:List Kf}(e:go d=.v u (.bi b a []::K) l H)(h:ga b (a++[u]) H=.ok v H)(q:Jd X m<|.v v K l H):Jd X m d:=
 bv e (bf (by show(ga b (a++[u]) H).i _=_;rw[h];rfl) q)
theorem QC{r:List aj}(q:j<r.length+1):(t::r)[j]? =O ((Sg.mk (t::r) ns).u j):=by
 show _=O ((t::r).getD j _);rw[Ad,li (q)];rfl
theorem QD{r:List aj}(q:¬j<r.length+1):(t::r)[r.length]? =O ((Sg.mk (t::r) ns).u j):=by
 show _=O ((t::r).getD j _);rw[Ad,EP (show(t::r).length<=j from sL q),Option.getD_none,acT,List.getLast?_eq_getElem?,gS,acU,li (sM r.length)];rfl
theorem BC(h:PS c y g s H)(j:Nat):ag (m+1) 320 [.ae c.ap,.aa j] H=.ok (s.u j).v H:=by
 induction h with
 |mk i r t a ns H P e hp ht hd hr R=>
 refine cR J J<|cX J (gf hp J)<|cX J (gf hp J)<|fF J (Gq ht e)<|ek J (λq=>?_) λq=>?_
 ·have q:¬j<r.length+1:=by have:=of_decide_eq_true q;lia
  refine cX J (gf hp J)<|fF J (Gq ht e)<|cX J (gf hp J)<|b5 J ?_ (aL J J);rw[show((i.length+(r.length+1):Nat):Int)-1=((i.length+r.length:Nat):Int) by lia];exact hX ht<|Gp e<|QD q
 ·have q:j<r.length+1:=by have:=of_decide_eq_false q;lia
  exact cX J (gf hp J)<|b5 J (hX ht<|Gp e<|QC q)<|aL J J
theorem tE(h:PS c y g s H):∃a,ag (m+1) 327 [.ae c.ap] H=.ok s.i.v a/\PS c y g s.j a/\bT c H a:=by
 induction h with
 |mk i r t b ns H P e hp ht hd hr R=>
 by_cases q:t.aq=0
 ·refine df H (cR J J<|cX J (gf hp J)<|cX J (gf hp J)<|b5 J (hX ht<|ye e)<|bh J (by rw[decide_eq_true q];rfl)<|aL J J) ?_ .refl;show PS c y g (if t.aq=0 then _ else _) H;rw[if_pos q];exact .mk i r t b ns H P e hp ht hd hr R
 ·refine dn λd=>eB P.Qy λk l f j=>d ?_
  induction r using aW with
  |nil=>exact absurd (mV (List.append_inj' (e.symm.trans f) J).2).1 λw=>q<|w▸j
  |cons o p=>
   refine df _ (cR J J<|cX J (gf hp J)<|cX J (gf hp J)<|b5 J (hX ht<|ye e)<|cy J (by rw[decide_eq_false q];rfl)<|BB J J hp J J<|aL J J) ?_ (.u);show PS c y g (if t.aq=0 then _ else _) _;rw[if_neg q];have:=PS.u (g':=g) P (e.trans<|kP ..) hp ht hd hr R;rw[bx] at this;exact this
end
section
variable{c:PA}{B:List aj}{g:Fg}{s:Sg}{H:Hp}{m:Nat}{X:R (Fl×Lc)->Prop}{i:Cf}{K:List Kf}{l:Lc}
theorem PS.j2(h:PS c B g s H):∃k,H[c.ap]? =O (vv c g k):=by
 induction h with
 |mk i r t a ns H P e hp ht hd hr R=>exact⟨_,hp⟩
theorem vy(e:go i=.v (.ae c.ap) (.dK a b::K) l H)(h:PS c B g s H)(hm:gV .i a=O f)(q:Jd X m<|BA f (.ae c.ap) b K l H):Jd X m i:=let⟨_,hp⟩:=h.j2;vw e hp hm q
theorem dM{u:Hp}(e:go i=.v (.ae c.ap) (.dK a b::K) l H)(h:PS c B g s H)(hm:gV .i a=O f)(j:cu (ag m) b l H=.ok d H)(hr:ag m f (.ae c.ap::d) H=.ok v u)(q:Jd X m<|.v v K l u):Jd X m i:=
 vy e h hm (bf (by rw[tC,j,jz,hr];rfl) q)
theorem dR(e:go i=.v (.ae c.ap) (.dK .i []::K) l H)(h:PS c B g s H)(q:Jd X (m+1)<|.v s.i.v K l H):Jd X (m+1) i:=dM e h J J (QA h) q
theorem pg{j:Nat}(e:go i=.v (.ae c.ap) (.dK .u [.c (.aa j)]::K) l H)(h:PS c B g s H)(q:Jd X (m+1)<|.v (s.u j).v K l H):Jd X (m+1) i:=dM e h J J (BC h j) q
theorem mz(e:go i=.v (.ae c.ap) (.dK .j []::K) l H)(h:PS c B g s H)(q:∀u,PS c B g s.j u->bT c H u->Jd X (m+1) (.v s.i.v K l u)):Jd X (m+1) i:=dn λa=>cF (tE (m:=m) h) λu b p x=>a<|dM e h J J b<|q u p x
theorem BD{k:Int}(hb:iX f=(2,2,[.am (.ao 502 [.y (.q (.l 0) .iz) (.q (.l 0) .aJ),.c (.aa k),.l 1])]))(h:PS c B g s H):ag (m+2) f [.ae c.ap,.ah x] H=.ok (.i<|s.i.is k x) H:=by
 induction h with
 |mk i r t a ns H P e hp ht hd hr R=>
 exact cR hb J<|cX J (gf hp J)<|cX J (gf hp J)<|b5 J (hX ht<|ye e)<|bn J (i7 t k x H)<|aL J J
theorem QE(h:PS c B g s H)(x:List Nat):ag (m+2) 334 [.ae c.ap,.ah x] H=.ok (.i<|s.i.is 5 x) H:=BD J h
theorem QF(h:PS c B g s H)(x:List Nat):ag (m+2) 341 [.ae c.ap,.ah x] H=.ok (.i<|s.i.is 2 x) H:=BD J h
theorem BE(h:PS c B g s H)(x:List Nat):ag (m+2) 348 [.ae c.ap,.ah x] H=.ok (.i<|s.i.is 1 x) H:=BD J h
theorem jB(e:go i=.v (.ae c.ap) (.dK .fZ [.c (.ah x)]::K) l H)(h:PS c B g s H)(q:Jd X (m+2)<|.v (.i<|s.i.is 5 x) K l H):Jd X (m+2) i:=dM e h J J (QE h x) q
theorem yg(e:go i=.v (.ae c.ap) (.dK .td [.c (.ah x)]::K) l H)(h:PS c B g s H)(q:Jd X (m+2)<|.v (.i<|s.i.is 2 x) K l H):Jd X (m+2) i:=dM e h J J (QF h x) q
theorem tF(e:go i=.v (.ae c.ap) (.dK .mq [.c (.ah x)]::K) l H)(h:PS c B g s H)(q:Jd X (m+2)<|.v (.i<|s.i.is 1 x) K l H):Jd X (m+2) i:=dM e h J J (BE h x) q
theorem BF(h:PS c B g s H)(k:Int)(x:List Nat):∃u,ag (m+2) 523 [.ae c.ap,.aa k,.ah x] H=.ok (.i<|s.i.is k x) u/\(s.i.is k x=I->PS c B g s.j u/\bT c H u)/\(s.i.is k x=C->u=H):=by
 refine dn λa=>cF (tE (m:=m) h) λu b p y=>a ?_
 cases q:s.i.is k x with
 |true=>exact df u (cR J J<|dR J h<|bn J (i7 s.i k x H)<|bh J (by rw[q];rfl)<|dM J h J J b<|aL J J) (λd=>⟨p,y⟩) c5
 |false=>exact df H (cR J J<|dR J h<|bn J (i7 s.i k x H)<|cy J (by rw[q];rfl)<|aL J J) bc λd=>J
theorem rN{k:Int}(hb:iX f=(2,2,[.am (.ao 523 [.l 0,.c (.aa k),.l 1])]))(h:PS c B g s H)(x:List Nat):∃u,ag (m+3) f [.ae c.ap,.ah x] H=.ok (.i<|s.i.is k x) u/\(s.i.is k x=I->PS c B g s.j u/\bT c H u)/\(s.i.is k x=C->u=H):=dn λa=>aB (BF (m:=m) h k x) λu b p=>a<|aD u (cR hb J<|bn J b<|aL J J) p
theorem yh(h:PS c B g s H)(x p:Int)(as:List V)(a:s.ns.length<1000):∃u,ag (m+1) 201 [.ae c.dl,.aa x,.aa p,.u as] H=.ok .none u/\PS c B g ⟨s.ts,s.ns++[x]⟩ u/\bT c H u:=by
 induction h with
 |mk i r t b ns H P e hp ht hd hr R=>
 refine df _ (cR J J<|cX J (gf hd J)<|f1 J hr<|cX J (gf hd J) ?_) (.mk i r t (b++[yd x p as]) _ _ P e (fq P.n3.symm hp) (fq P.n4 ht) (fq P.n5 hd) (fo hr) R.eJ) .i;exact bf (c':=.v (yd x p as) [.hV (.ae c.rl) .q [] [],.ex []] _ H) J<|i6 J hr (R.j▸uJ a (D J))<|aL J J
theorem vz(h:PS c B g s H):kC (.ae c.ap) .dU H=.ok (.ae c.dl) H:=by
 obtain⟨_,hp⟩:=h.j2;exact gf hp J
theorem PS.y(h:PS c B g s H):H[c.dl]? =O (yc c):=by
 induction h with
 |mk i r t a ns H P e hp ht hd hr R=>exact hd
theorem Gs{x p:Int}(e:go i=.v (.ae c.ap) (.q .dU:: .dK .gx a::K) l H)(h:PS c B g s H)(b:cu (ag<|m+1) a l H=.ok [.aa x,.aa p,.u as] H)(d:s.ns.length<1000)(q:∀u,PS c B g ⟨s.ts,s.ns++[x]⟩ u->bT c H u->Jd X (m+1) (.v .none K l u)):Jd X (m+1) i:=cF (yh (m:=m) h x p as d) λu f j y=>cX e (vz h)<|vw J h.y J<|bf (by rw[tC,b,jz,f];rfl)<|q u j y
theorem nA{as:List V}{H u:Hp}{m:Nat}(hb:iX f=(np,nl,body))(a:as.length=np)(q:Jd (λr=>r=.q u) m<|.s body [] (as.map O++jp (nl-np) U) H):ag (m+1) f as H=.q u:=(qp m hb a).trans (by rw[q];rfl)
theorem QG(h:PS c B g s H){x:Int}(a:0<=x/\x<1000000)(p:Int)(as:List V)(b:s.ns.length<1000):∃u,ag (m+2) 418 [.ae c.ap,.aa x,.aa p,.u as] H=.q u/\NS c (s.ns++[x]) u/\bT c H u:=by
 refine dn λd=>cF (yh (m:=m) h x p as b) λu e f y=>d<|df u (nA J J<|cX J (vz h)<|vw J h.y J<|bn J e ?_) f.ns y;exact bv J (show R.i (R.i (if 0<=x/\x<1000000 then R.q u else .j) _) _=_ by rw[aN a];rfl)
theorem vA{u:Hp}(e:go i=.ao f a K l H)(h:ag m f a H=.q u)(q:X<|.q u):Jd X m i:=
 bv e (show X (R.i (ag m f a H) _) by rw[h];exact q)
theorem tG(h:PS c B g s H){x:Int}(a:0<=x/\x<1000000)(as:List V)(b:s.ns.length<1000):∃u,ag (m+3) 411 [.ae c.ap,.aa x,.u as] H=.q u/\NS c (s.ns++[x]) u/\bT c H u:=dn λd=>cF (QG (m:=m) h a s.i.aJ as b) λu e n y=>d<|df u (nA J J<|vy J h J<|dR J h<|vA J e J) n y
end
structure ft(F:Type) where
 c:PA
 dW:List aj
 g:Fg
 H:Hp
 Rv:F->V->Hp->Prop
noncomputable def OX{F:Type}(A:ft F)(p:PR F)(r:R<|Fl×Lc):Prop:=dD A.c A.dW A.g A.H A.Rv (r.i ef) p
structure Sx{F:Type}(A:ft F)(g:Fg)(s:Sg)(H:Hp):Prop where
 ps:PS A.c A.dW g s H
 ex:bT A.c A.H H
theorem eM{F:Type}{A:ft F}{p:PR F}{m:Nat}{as:List V}(hb:iX f=(np,nl,body))(a:as.length=np)(q:Jd (OX A p) m<|.s body [] (as.map O++jp (nl-np) U) A.H):dD A.c A.dW A.g A.H A.Rv (ag (m+1) f as A.H) p:=by
 rw[qp m hb a];exact q
section
variable{F q:Type}{A:ft F}{p:PR F}{M:PR q}{Q:q->Sg->PR F}{G:Fg}{s:Sg}{H u:Hp}{m:Nat}{i:Cf}{K:List Kf}{l:Lc}{N:q->V->Hp->Prop}
theorem Sx.go(h:Sx A G s H)(p:PS A.c A.dW b d a)(x:bT A.c H a):Sx A b d a:=⟨p,h.ex.q x⟩
theorem Sx.j(h:Sx A G s H)(l:Hp):Sx A G s (H++l):=⟨h.ps.j l,h.ex.q .j⟩
theorem eC(e:go i=.fl (.am v) [] l H)(b:A.Rv a v H)(h:Sx A A.g s H):Jd (OX A<|.ok a s) m i:=aL e<|eK.ok b h.ps h.ex
theorem Gu(e:go i=.ao f b K l H)(x:bT A.c A.H H)(h:dD A.c A.dW G H N (ag m f b H) M)(q:∀a s v u,M=.ok a s->N a v u->Sx A G s u->bT A.c H u->Jd (OX A<|Q a s) m (.v v K l u)):Jd (OX A<|M.bd Q) m i:=by
 refine bv e ?_;show OX A _ (R.i (ag m f b H) _);generalize ag m f b H=r at h
 induction h with
 |ok d p y=>exact q _ _ _ _ J d ⟨p,x.q y⟩ y
 |d8 n y=>exact .d8 n<|x.q y
 |j=>exact .j
theorem fG(e:go i=.ao f b K l H)(x:bT A.c A.H H)(h:dD A.c A.dW G H N (ag m f b H) M)(q:∀a s v u,N a v u->Sx A G s u->bT A.c H u->Jd (OX A<|Q a s) m (.v v K l u)):Jd (OX A<|M.bd Q) m i:=Gu e x h λa s v u d=>q a s v u
theorem k8(e:go i=.ao f b K l H)(d:∀v H,go (.v v K l H)=.fl (.am v) [] l H)(x:bT A.c A.H H)(h:dD A.c A.dW A.g H A.Rv (ag m f b H) p):Jd (OX A p) m i:=by
 refine bv e ?_;show OX A _ (R.i (ag m f b H) _);generalize ag m f b H=r at h
 induction h with
 | @ok v u a s k p y=>exact(aL (d v u) (eK.ok k p<|x.q y):Jd (OX A<|.ok a s) m<|.v v K l u)
 |d8 n y=>exact .d8 n<|x.q y
 |j=>exact .j
theorem QH(e:go i=.v (.ae A.c.ap) (.dK a d::K) l H)(h:Sx A G s H)(hm:gV .i a=O f)(j:cu (ag m) d l H=.ok b H)(hr:dD A.c A.dW G H N (ag m f (.ae A.c.ap::b) H) M)(q:∀a s v u,N a v u->Sx A G s u->bT A.c H u->Jd (OX A<|Q a s) m (.v v K l u)):Jd (OX A<|M.bd Q) m i:=
 vy e h.ps hm (bf (c':=.ao f (.ae A.c.ap::b) K l H) (by rw[tC,j,jz];rfl)<|fG J h.ex hr q)
theorem yi{x:Int}(e:go i=.v (.ae A.c.ap) (.dK .b8 b::K) l H)(h:Sx A G s H)(d:0<=x/\x<1000000)(f:cu (ag<|m+3) b l H=.ok [.aa x,.u a] H):Jd (OX A<|b8 x s) (m+3) i:=by
 refine vy e h.ps J<|bf (c':=.ao 411 [.ae A.c.ap,.aa x,.u a] K l H) (by rw[tC,f,jz];rfl) ?_;unfold b8;split
 ·rename_i j
  exact dn λk=>cF (tG (m:=m) h.ps d a j) λu o n y=>k<|vA J o<|.d8 n<|h.ex.q y
 ·exact eK.j
theorem BH{k:Int}{pf:Bool->Sg->PR F}(e:go i=.v (.ae A.c.ap) (.dK a [.c (.ah x)]::K) l H)(hm:gV .i a=O f)(hb:iX f=(2,2,[.am (.ao 523 [.l 0,.c (.aa k),.l 1])]))(h:Sx A G s H)
  (d:s.i.is k x=I->∀u,Sx A G s.j u->bT A.c H u->Jd (OX A<|pf I s.j) (m+3) (.v (.i I) K l u))(j:s.i.is k x=C->Jd (OX A<|pf C s) (m+3) (.v (.i C) K l H)):Jd (OX A<|cL k x s pf) (m+3) i:=by
 refine dn λo=>cF (rN (m:=m) hb h.ps x) λu b M r=>o ?_;unfold cL
 cases q:s.i.is k x with
 |true=>rw[q] at b;obtain⟨p,y⟩:=M q;exact dM e h.ps hm J b<|d q u (h.go p y) y
 |false=>rw[q] at b;cases r q;exact dM e h.ps hm J b<|j q
theorem ph{pf:Bool->Sg->PR F}(e:go i=.v (.ae A.c.ap) (.dK .y [.c (.ah x)]::K) l H)(h:Sx A G s H)
  (a:s.i.is 5 x=I->∀u,Sx A G s.j u->bT A.c H u->Jd (OX A<|pf I s.j) (m+3) (.v (.i I) K l u))(b:s.i.is 5 x=C->Jd (OX A<|pf C s) (m+3) (.v (.i C) K l H)):Jd (OX A<|cL 5 x s pf) (m+3) i:=BH e J J h a b
theorem BI{pf:Bool->Sg->PR F}(e:go i=.v (.ae A.c.ap) (.dK .te [.c (.ah x)]::K) l H)(h:Sx A G s H)
  (a:s.i.is 2 x=I->∀u,Sx A G s.j u->bT A.c H u->Jd (OX A<|pf I s.j) (m+3) (.v (.i I) K l u))(b:s.i.is 2 x=C->Jd (OX A<|pf C s) (m+3) (.v (.i C) K l H)):Jd (OX A<|cL 2 x s pf) (m+3) i:=BH e J J h a b
theorem QI{pf:Bool->Sg->PR F}(e:go i=.v (.ae A.c.ap) (.dK .A9 [.c (.ah x)]::K) l H)(h:Sx A G s H)
  (a:s.i.is 1 x=I->∀u,Sx A G s.j u->bT A.c H u->Jd (OX A<|pf I s.j) (m+3) (.v (.i I) K l u))(b:s.i.is 1 x=C->Jd (OX A<|pf C s) (m+3) (.v (.i C) K l H)):Jd (OX A<|cL 1 x s pf) (m+3) i:=BH e J J h a b
theorem kF(e:go i=.v (.i b) (.bQ a d r::K) l H)(h:b=I->Jd (OX A p) m (.s a (.j r::K) l H))(j:b=C->Jd (OX A f) m (.s d (.j r::K) l H)):Jd (OX A<|if b=I then p else f) m i:=by
 refine bv e ?_;clear e
 cases b
 ·exact j J
 ·exact h J
theorem QJ(e:go i=.v (.i<|!b) (.bQ a d r::K) l H)(h:b=I->Jd (OX A p) m (.s d (.j r::K) l H))(j:b=C->Jd (OX A f) m (.s a (.j r::K) l H)):Jd (OX A<|if b=I then p else f) m i:=by
 refine bv e ?_;clear e
 cases b
 ·exact j J
 ·exact h J
theorem QK(e:go i=.v (.i b) (.bQ a f r::K) l H)(hb:b=d)(j:d=I->Jd (OX A p) m (.s a (.j r::K) l H))(k:d=C->Jd (OX A h) m (.s f (.j r::K) l H)):Jd (OX A<|if d=I then p else h) m i:=by
 subst hb;exact kF e j k
end
section
variable{c:PA}{u:List aj}{g:Fg}{s:Sg}{H:Hp}{m:Nat}{X:R (Fl×Lc)->Prop}{i:Cf}{K:List Kf}{l:Lc}
theorem c8(q:Jd (λr=>r=.ok (.am v,l) b) m<|.e x [.am] l H):az (ag m) x l H=.ok v b:=by
 have q:(az (ag m) x l H).i (ap (ag m) [.am] l)=.ok (.am v,l) b:=q;generalize az (ag m) x l H=r at q
 induction r using R.casesOn with
 |ok a H=>cases q;rfl
 |q H=>cases q
 |j=>cases q
theorem mA(e:go i=.v (.ae c.ap) (.dK a b::K) l H)(h:PS c u g s H)(hm:gV .i a=O f)(k:cu (ag m) b l H=.ok d H)(hr:ag m f (.ae c.ap::d) H=.q j)(q:X<|.q j):Jd X m i:=
 vy e h hm (show X _ by rw[tC,k,jz,hr];exact q)
theorem Gv(h:PS c u g s H)(q:s.i.is 5 x=I):∃a,ag (m+4) 376 [.ae c.ap,.ah x] H=.ok .none a/\PS c u g s.j a/\bT c H a:=dn λb=>cF (BF (m:=m+1) h 5 x) λa e p d=>b<|aD a (cR J J<|bn J e<|bh J (by rw[q];rfl)<|aL J J)<|p q
theorem Gw(h:PS c u g s H)(q:s.i.is 5 x=C)(b:s.ns.length<1000):∃a,ag (m+4) 376 [.ae c.ap,.ah x] H=.q a/\NS c (s.ns++[1005]) a/\bT c H a:=by
 refine cF (BF (m:=m+1) h 5 x) λa e d p=>?_;clear d
 cases p q
 exact cF (tG (m:=m) h (x:=1005) (D J) [.ah x] b) λa f n y=>df a (nA J J<|bn J e<|cy J (by rw[q];rfl)<|mA J h J J f J) n y
theorem QM(h:PS c u g s H)(q:s.i.aq=1):∃a,ag (m+4) 390 [.ae c.ap] H=.ok (.ah s.i.aP) a/\PS c u g s.j a/\bT c H a:=dn λb=>cF (tE (m:=m+2) h) λa e p y=>b<|df a (cR J J<|dR J h<|bh J (by rw[dH q];rfl)<|dM J h J J e<|aL J J) p y
theorem QN(h:PS c u g s H)(q:¬s.i.aq=1)(b:s.ns.length<1000):∃a,ag (m+4) 390 [.ae c.ap] H=.q a/\NS c (s.ns++[1003]) a/\bT c H a:=dn λd=>cF (tG (m:=m) h (x:=1003) (D J) [] b) λa e n y=>d<|df a (nA J J<|dR J h<|cy J (by rw[dO q];rfl)<|mA J h J J e J) n y
theorem Gy(h:PS c u g s H):ag (m+2) 425 [.ae c.ap] H=.ok (.i s.rG) H:=by
 refine cR J J<|dR J h<|dQ J J ?_;unfold Sg.rG;refine ek J (λq=>aL J ?_) λq=>?_
 ·rw[q];rfl
 ·rw[q];refine fE J ?_ (aL J J);exact c8<|dQ J J<|aL J J
theorem QO(h:PS c u g s H)(q:s.i.is 5 [59]=I):∃a,ag (m+4) 432 [.ae c.ap] H=.ok .none a/\PS c u g s.j a/\bT c H a:=dn λb=>cF (rN (m:=m) (f:=355) J h [59]) λa e p d=>b<|aD a (cR J J<|dM J h J J e<|eg J (λz=>ax (q▸z) λh=>ax h<|D J) λd=>bh J J<|aL J J)<|p q
theorem QP(h:PS c u g s H)(q:s.i.is 5 [59]=C)(hc:s.rG=I):ag (m+4) 432 [.ae c.ap] H=.ok .none H:=by
 refine dn λa=>cF (rN (m:=m) (f:=355) J h [59]) λd e b p=>a ?_;clear b
 cases p q
 exact cR J J<|dM J h J J e<|fE J (c8<|dM J h J J (Gy h) (by rw[hc];exact aL J J))<|bh J (mW _)<|aL J J
theorem QQ(h:PS c u g s H)(q:s.i.is 5 [59]=C)(hc:s.rG=C)(b:s.ns.length<1000):∃a,ag (m+4) 432 [.ae c.ap] H=.q a/\NS c (s.ns++[1005]) a/\bT c H a:=by
 refine cF (rN (m:=m) (f:=355) J h [59]) λa e d p=>?_;clear d
 cases p q
 exact cF (tG (m:=m) h (x:=1005) (D J) [.ah [59]] b) λa f n y=>df a (nA J J<|dM J h J J e<|fE J (c8<|dM J h J J (Gy h) (by rw[hc];exact aL J J))<|cy J (by rw[q];rfl)<|mA J h J J f J) n y
theorem pi(a b:Int):decide (a=b)=decide (b=a):=by by_cases h:a=b<;>simp[h,eq_comm]
theorem nB(a b:List Nat):decide (a=b)=decide (b=a):=by by_cases h:a=b<;>simp[h,eq_comm]
theorem BJ(t:aj):ag (m+1) 530 [t.v] H=.ok (.i t.i) H:=by
 have e:t.i=(decide (1=t.aq)||(decide (2=t.aq)||(decide (4=t.aq)||(decide (3=t.aq)||C)))):=by
  rw[oj,pi 1,pi 2,pi 4,pi 3];rfl
 rw[e];exact cR J J<|aL J J
theorem Gz(t:aj):ag (m+2) 537 [t.v] H=.ok (.i t.j) H:=
 cR J J (bn J (BJ t)<|dQ J (c8<|bn J (i7 t 5 [91] H)<|aL J J)<|aL J J)
theorem GA(t:aj):ag (m+2) 838 [t.v] H=.ok (.i t.q) H:=
 cR J J (bn J (i7 t 5 [40] H)<|dQ J (c8<|bn J (i7 t 5 [60] H)<|aL J J)<|aL J J)
theorem BK(t:aj):ag (m+2) 925 [t.v] H=.ok (.i t.u) H:=
 cR J J (dQ (b:=decide (t.aq=1)) J (c8<|bn J (i7 t 2 _ H)<|aL J J)<|aL J J)
theorem QR(h:PS c u g s H)(hd:g.bS<40):∃a,ag (m+1) 439 [.ae c.ap] H=.ok .none a/\PS c u {g with bS:=g.bS+1} s a/\bT c H a:=by
 induction h with
 |mk i r t d ns H P e hp ht b hr R=>
 exact df _ (cR J J<|BB J J hp J J<|cX J (gf (fo hp) J)<|bh J (dO<|by lia)<|aL J J) (.u P e hp ht b hr R)<|.u
theorem QS(h:PS c u g s H):∃a,ag (m+1) 446 [.ae c.ap] H=.ok .none a/\PS c u {g with bS:=g.bS-1} s a/\bT c H a:=by
 induction h with
 |mk i r t d ns H P e hp ht b hr R=>
 exact df _ (cR J J<|BB J J hp J J<|aL J J) (.u P e hp ht b hr R)<|.u
theorem QT(h:PS c u g s H)(x:List Nat):ag (m+3) 845 [.ae c.ap,.ah x] H=.ok (.i<|s.y x&&((s.u 1).j&& !(s.u 1).cC)) H:=
 cR J J (pg J h<|dM J h J J (BE h x)<|fE J (c8<|bn J (Gz _)<|fE J J<|aL J J)<|aL J J)
theorem GB(h:PS c u g s H)(x:List Nat):ag (m+3) 852 [.ae c.ap,.ah x] H=.ok (.i<|s.y x&&(s.u 1).j) H:=
 cR J J (dM J h J J (BE h x)<|fE J (c8<|pg J h<|bn J (Gz _)<|aL J J)<|aL J J)
theorem QU(h:PS c u g s H):ag (m+3) 873 [.ae c.ap] H=.ok (.i<|s.q [91]&&(decide ((s.u 1).aq=1)&&(s.u 2).is 5 [58])) H:=by
 refine cR J J<|jB J h<|dQ (b':= !decide ((s.u 1).aq=1)) J (c8<|pg J h<|aL J J)<|ek J (λq=>aL J ?_) λq=>pg J h<|bn J (i7 _ 5 [58] H)<|aL J ?_
 ·rw[<-acV,show(s.q [91]&&decide ((s.u 1).aq=1))=C by rw[<-acW] at q;exact Ae _▸q];rfl
 ·rw[<-acV,show(s.q [91]&&decide ((s.u 1).aq=1))=I by rw[<-acW] at q;exact acX .. ▸q];rfl
theorem QV(x a b e d:List Nat):(decide (a=x)||(decide (b=x)||(decide (e=x)||(decide (d=x)||C))))=I↔x=a∨x=b∨x=e∨x=d:=by
 rw[nB a,nB b,nB e,nB d,oj];simp only[uK,decide_eq_true_eq]
theorem QW(h:PS c u g s H)(j:Nat):ag (m+2) 790 [.ae c.ap,.aa j] H=.ok (.i<|tt s j) H:=by
 have a:=QV (s.u j).aP [58] [44] [63] [61];unfold tt;refine cR J J<|dM J h J J (BC h j)<|ek J (λq=>aL J ?_) λq=>?_
 ·rw[a9 (jt<|Ae _▸q)];rfl
 ·rw[aN (D<|acX _▸q)];refine ek J (λq=>aL J ?_) λq=>?_
  ·rw[aN (a.mp q)];rfl
  ·rw[a9 λz=>qc.mp q (a.mpr z)];refine fE J (c8<|dM J h J J (BC h<|j+1)<|bn J (i7 _ 5 fB H)<|aL J J)<|aL J J
theorem QX(h:PS c u g s H):ag (m+3) 783 [.ae c.ap] H=.ok (.i<|qo s) H:=by
 unfold qo;refine cR J J<|jB J h<|dQ J (c8<|yg J h<|aL J J)<|ek J (λq=>aL J ?_) λq=>?_
 ·rw[q];rfl
 ·rw[q];refine jB J h<|ek J (λq=>aL J ?_) λq=>?_
  ·rw[q];rfl
  ·rw[q];refine pg J h<|bn J (i7 _ 5 [41] H)<|dQ J (c8<|bn J (i7 _ 5 hN H)<|aL J J)<|ek J (λq=>aL J ?_) λq=>?_
   ·dsimp only;rw[q];rfl
   ·dsimp only;rw[q]
    refine dQ J (c8<|bn J (i7 _ 2 _ H)<|aL J J)<|ek J (λq=>bn J (QW h 2)<|aL J ?_) λq=>?_
    ·rw[q];rfl
    ·rw[q];refine bn J (i7 _ 5 [123] H)<|dQ J (c8<|bn J (i7 _ 5 [91] H)<|aL J J)<|ek J (λq=>bn (v:=.i C) J ?_ (aL J J)) λq=>aL J J
     induction h with
     |mk i r t b ns H P e hp ht a hr R=>exact cR J J<|cX J (gf hp J)<|cy J J<|aL J J
end
section
variable{c:PA}{y:List aj}{g:Fg}{s:Sg}{H:Hp}{m:Nat}{X:R (Fl×Lc)->Prop}{j:Cf}{K:List Kf}{l:Lc}
theorem yj{u b d:Type}(p:PR u)(f:u->Sg->PR b)(g:b->Sg->PR d):(p.bd f).bd g=p.bd λa s=>(f a s).bd g:=by cases p<;>rfl
theorem pj(ts:List T):fj (ts.map O)=ts.map T.v:=by
 induction ts with
 |nil=>rfl
 |cons t r a=>show t.v::fj (r.map O)=_;rw[a];rfl
theorem yl(h:H[a]? =O (.af b)):o6 (.ae a) H=(.af b,H.set a .i):=by
 show(match H[a]? with|some (.af b)=>(V.af b,H.set a .i)|_=>_)=_;rw[h]
theorem vB{k f p:Int}{u:V}{i:Hp}{run:fi}(h:o6 u H=(.af<|fj ks,i)):iZ run .u [.aa k,.ah x,u,.aa f,.aa p] H=.ok (T.nd k x ks f p).v i:=by
 have e:mu [.aa k,.ah x,u,.aa f,.aa p] H=([.aa k,.ah x,.af (fj ks),.aa f,.aa p],i):=by
  show(V.aa k::V.ah x::(o6 u H).1::V.aa f::V.aa p::[],(o6 u H).2)=_;rw[h]
 have b:iZ run .u [.aa k,.ah x,u,.aa f,.aa p] H=match mu [.aa k,.ah x,u,.aa f,.aa p] H with
  |(a,i)=>match nj a [(.aq,.i 0),(.a_,.i 1),(.bO,.i 2),(.cj,.i 3),(.aJ,.i 4),(.x6,.j<|.aa 0)] with
   |some d=>.ok (.aQ .u d) i
   |.none=>.j:=J
 rw[b,e];rfl
theorem lP{u v:V}{i:Hp}(e:go j=.v u (.ce cl a []::K) l H)(h:iZ (ag m) cl (a++[u]) H=.ok v i)(q:Jd X m<|.v v K l i):Jd X m j:=
 bv e (bf (by show(iZ (ag m) cl (a++[u]) H).i _=_;rw[h];rfl) q)
theorem vC(b:H[a]? =O (.af<|fj ks))(k:Int)(x:List Nat)(p:Int):ag (m+1) .aK [.aa k,.ah x,.ae a,.aa p] H=.ok (T.nd k x ks 0 p).v (H.set a .i):=
 cR J J (lP J (vB<|yl b)<|aL J J)
theorem GC(ks:List<|Option T)(k:Int)(x:List Nat)(p:Int):ag (m+1) .aK [.aa k,.ah x,.af (fj ks),.aa p] H=.ok (T.nd k x ks 0 p).v H:=
 cR J J (lP J (vB J)<|aL J J)
theorem rO(k:Int)(x:List Nat)(p:Int):ag (m+1) .c6 [.aa k,.ah x,.aa p] H=.ok (c6 k x p).v (H++[.i]):=
 cR J J (lP J (vB<|(yl cD).trans (by rw[iA];rfl))<|aL J J)
theorem QY(b:H[a]? =O (.af<|fj ks))(k:Int)(x:List Nat)(f p:Int):ag (m+1) .i [.aa k,.ah x,.ae a,.aa f,.aa p] H=.ok (T.nd k x ks f p).v (H.set a .i):=
 cR J J (lP J (vB<|yl b)<|aL J J)
theorem qq(b:H[a]? =O (.af<|fj ks))(p:Int):ag (m+1) 70 [.ae a,.aa p] H=.ok (T.nd 71 [] ks 0 p).v (H.set a .i):=
 cR J J (lP J (vB<|yl b)<|aL J J)
theorem gY{k f p:Int}(ks:List<|Option T)(e:go j=.ao .i [.aa k,.ah x,.ae H.length,.aa f,.aa p] K l (H++[.af (fj ks)]))(q:Jd X (m+1)<|.v (T.nd k x ks f p).v K l<|H++[.i]):Jd X (m+1) j:=
 bn e (QY cD k x f p) (by rw[iA];exact q)
theorem qr{k p:Int}(ks:List<|Option T)(e:go j=.ao .aK [.aa k,.ah x,.ae H.length,.aa p] K l (H++[.af (fj ks)]))(q:Jd X (m+1)<|.v (T.nd k x ks 0 p).v K l<|H++[.i]):Jd X (m+1) j:=
 bn e (vC cD k x p) (by rw[iA];exact q)
end
section
variable{u q:Type}{A:ft u}{p:PR u}{F:PR q}{M:q->Sg->PR u}{B:Fg}{s:Sg}{H i:Hp}{m:Nat}{j:Cf}{K:List Kf}{l:Lc}{G:q->V->Hp->Prop}
theorem tH{x:Int}(h:Sx A B s H)(q:s.ns.length<1000->∃i,d4 (ag m) j=.q i/\NS A.c (s.ns++[x]) i/\bT A.c H i):Jd (OX A<|b8 x s) m j:=by
 unfold b8 Jd;split
 ·rename_i a
  refine dn λb=>cF (q a) λi e n y=>b ?_;rw[e];exact .d8 n<|h.ex.q y
 ·exact eK.j
theorem tI{c:Cf}(q:Jd (λr=>r=.q i) m c):d4 (ag m) c=.q i:=q
theorem mB{f:Sg->PR u}(e:go j=.v (.ae A.c.ap) (.dK .iV [.c (.ah x)]::K) l H)(h:Sx A B s H)(q:s.i.is 5 x=I->∀i,Sx A B s.j i->bT A.c H i->Jd (OX A<|f s.j) (m+4) (.v .none K l i)):Jd (OX A<|c7 x s f) (m+4) j:=by
 unfold c7
 cases z:s.i.is 5 x with
 |true=>
  exact dn λa=>cF (Gv (m:=m) h.ps z) λi b p y=>a<|dM e h.ps J J b<|q z i (h.go p y) y
 |false=>
  exact tH h λd=>dn λa=>cF (Gw (m:=m) h.ps z d) λi b n y=>a<|df i (tI<|mA e h.ps J J b J) n y
theorem BL{f:List Nat->Sg->PR u}(e:go j=.v (.ae A.c.ap) (.dK .vf []::K) l H)(h:Sx A B s H)(q:s.i.aq=1->∀i,Sx A B s.j i->bT A.c H i->Jd (OX A<|f s.i.aP s.j) (m+4) (.v (.ah s.i.aP) K l i)):Jd (OX A<|hU s f) (m+4) j:=by
 unfold hU
 by_cases z:s.i.aq=1
 ·refine dn λb=>cF (QM (m:=m) h.ps z) λi a p y=>b ?_;rw[aN z];exact dM e h.ps J J a<|q z i (h.go p y) y
 ·rw[a9 z];exact tH h λd=>cF (QN (m:=m) h.ps z d) λi a n y=>df i (tI<|mA e h.ps J J a J) n y
theorem QZ{f:Sg->PR u}(e:go j=.v (.ae A.c.ap) (.dK .x5 []::K) l H)(h:Sx A B s H)(q:∀b i,Sx A B b i->bT A.c H i->Jd (OX A<|f b) (m+4) (.v .none K l i)):Jd (OX A<|qn s f) (m+4) j:=by
 unfold qn cL
 cases z:s.i.is 5 [59] with
 |true=>
  exact cF (QO (m:=m) h.ps z) λi a p y=>dM e h.ps J J a<|q _ i (h.go p y) y
 |false=>
  show Jd (OX A<|if s.rG=I then f s else b8 1005 s) _ _
  cases w:s.rG with
  |true=>exact dM e h.ps J J (QP h.ps z w)<|q _ H h .refl
  |false=>
   exact tH h λd=>cF (QQ (m:=m) h.ps z w d) λi a n y=>df i (tI<|mA e h.ps J J a J) n y
theorem Q0{x a:Int}{f:Sg->PR u}(e:go j=.v (.i b) (.bQ [.ex (.aO (.q (.l 0) .dU) .gx d)] k r::K) l H)(v:k=[])(h:Sx A B s H)(w:l[0]? =O (O<|.ae A.c.ap))(z:cu (ag<|m+1) d l H=.ok [.aa x,.aa a,.u t] H)
  (q:∀o i,Sx A B o i->bT A.c H i->Jd (OX A<|f o) (m+1) (.s r K l i)):Jd (OX A<|lK b x s f) (m+1) j:=by
 refine dn λF=>?_;subst v;refine F<|kF e (λG=>?_) λG=>bf J<|q s H h .refl;split
 ·rename_i hs
  exact kE 3 J<|gL (k7 w)<|Gs J h.ps z hs λi p y=>bf J<|q _ i (h.go p y) y
 ·exact eK.j
end
section
variable{u q:Type}{A:ft u}{p:PR u}{F:Fg}{c:PA}{j:List aj}{g:Fg}{s:Sg}{H i:Hp}{m:Nat}{B:Cf}{K:List Kf}{l:Lc}{X:R (Fl×Lc)->Prop}
theorem Q4{P:PR u}(e:go B=.v (.ae A.c.ap) (.dK .A8 []::K) l H)(h:Sx A F s H)(q:s.i.i=I->∀i,Sx A F s.j i->bT A.c H i->Jd (OX A P) (m+6) (.v (.ah s.i.aP) K l i)):Jd (OX A<|if s.i.i=I then P else if s.i.is 5 [91]=I then .j else b8 1003 s) (m+6) B:=by
 cases z:s.i.i with
 |true=>
  exact dn λa=>cF (tE (m:=m+3) h.ps) λi b p y=>a<|dM e h.ps J J (cR J J<|bn J (cR J J<|dR J h.ps<|bn J (BJ s.i)<|cy J z<|dM J h.ps J J b<|aL J J)<|aL J J)<|q z i (h.go p y) y
 |false=>
  cases w:s.i.is 5 [91] with
  |true=>exact eK.j
  |false=>
   exact tH h λd=>dn λa=>cF (tG (m:=m+1) h.ps (x:=1003) (D J) [] d) λi b n y=>a<|df i (tI<|mA e h.ps J J (nA J J<|vA J (nA J J<|dR J h.ps<|bn J (BJ s.i)<|bh J z<|jB J h.ps<|cy J (by rw[w];rfl)<|mA J h.ps J J b J) J) J) n y
theorem Q5(h:PS c j g s H)(q:s.i.aq=1∨s.i.aq=2):∃i,ag (m+5) 404 [.ae c.ap] H=.ok (.ah s.i.aP) i/\PS c j g s.j i/\bT c H i:=by
 refine dn λa=>cF (tE (m:=m+2) h) λi b p y=>a<|df i (cR J J<|bn J (cR J J<|dR J h<|fE J (c8<|dR J h<|aL J J)<|bh J ?_ (dM J h J J b<|aL J J))<|aL J J) p y
 rcases q with q|q<;>rw[dH q]
 ·rfl
 ·exact mW _
theorem Q6(h:PS c j g s H)(q:¬(s.i.aq=1∨s.i.aq=2))(a:s.ns.length<1000):∃i,ag (m+5) 404 [.ae c.ap] H=.q i/\NS c (s.ns++[1003]) i/\bT c H i:=by
 refine dn λb=>cF (tG (m:=m) h (x:=1003) (D J) [] a) λi d n y=>b<|df i (nA J J<|vA J (nA J J<|dR J h<|fE J (c8<|dR J h<|aL J J)<|cy J ?_ (mA J h J J d J)) J) n y;rw[dO λz=>q<|.inl z,dO λz=>q (.inr z)];rfl
noncomputable def rP(t:aj):List Nat:=if t.aq=5∨t.aq=2 then t.aP else if t.aq=1 then uY else if t.aq=3 then[35,110,117,109] else if t.aq=4 then[35,115,116,114] else if t.aq=6∨t.aq=7 then[35,116,112,108] else[]
theorem GD{a b:Prop}[Decidable a][Decidable b]:(decide a||decide b)=I↔a∨b:=by rw[uK,decide_eq_true_eq,decide_eq_true_eq]
theorem vD{P:Prop}[Decidable P](e:go B=.v (.i b) (.bQ a d r::K) l H)(hb:b=I↔P)(f:P->Jd X m (.s a (.j r::K) l H))(h:¬P->Jd X m (.s d (.j r::K) l H)):Jd X m B:=ek e (λz=>f<|hb.mp z) λz=>h λw=>qc.mp z<|hb.mpr w
theorem Q7(t:aj):ag (m+1) 565 [t.v] H=.ok (.ah<|rP t) H:=by
 unfold rP;refine cR J J<|dQ J J<|vD J GD (λq=>aL J (by rw[aN q];rfl)) λq=>?_;rw[a9 q];refine vD J decide_eq_true_iff (λq=>aL J (by rw[aN q];rfl)) λq=>?_;rw[a9 q];refine vD J decide_eq_true_iff (λq=>aL J (by rw[aN q];rfl)) λq=>?_;rw[a9 q];refine vD J decide_eq_true_iff (λq=>aL J (by rw[aN q];rfl)) λq=>?_;rw[a9 q];refine dQ J J<|vD J GD (λq=>aL J (by rw[aN q];rfl)) λq=>aL J (by rw[a9 q];rfl)
theorem GF{f:Sg->PR u}(e:go B=.ao 572 [.ae A.c.ap] K l H)(h:Sx A F s H)(q:∀i,Sx A F s.j i->bT A.c H i->Jd (OX A<|f s.j) (m+5) (.v .none K l i)):Jd (OX A<|tu s f) (m+5) B:=by
 unfold tu
 cases w:s.q rj with
 |true=>exact eK.j
 |false=>
  unfold c7;have w:s.i.is 5 rj=false:=w
  cases z:s.i.is 5 [62] with
  |true=>
   exact dn λa=>cF (Gv (m:=m) h.ps z) λi b p y=>a<|bn e (cR J J<|dR J h.ps<|bn J (i7 s.i 5 rj H)<|cy J (by rw[w];rfl)<|dM J h.ps J J b<|aL J J)<|q i (h.go p y) y
  |false=>
   exact tH h λd=>dn λa=>cF (Gw (m:=m) h.ps z d) λi b n y=>a<|df i (tI<|vA e (nA J J<|dR J h.ps<|bn J (i7 s.i 5 rj H)<|cy J (by rw[w];rfl)<|mA J h.ps J J b J) J) n y
theorem ym(h:(x++y).length<=bg):fQ .i (.ah x) (.ah y) H=.ok (.ah<|x++y) H:=aN h
noncomputable def Q8:E:=.aO (.l 0) .y [.c (.ah [46])]
noncomputable def Q9:List S:=[.i 2 (.bI .i (.bI .i (.l 2)<|.c<|.ah [46])<|.aO (.l 0) .A7 []),.db 3 .i (.c<|.aa 1)]
noncomputable def Ra:List S:=[.bQ (.b9 .gt (.l 3)<|.c<|.aa 1) [.ex (.aO (.q (.l 0) .dU) .gx [.c (.aa 9002),.l 1,.u [.c (.ah aeX)]])] [],.am (.l 2)]
theorem fS{i:Nat}{u v w:V}(e:go B=.v u (.db i o w r::K) l H)(h:iY o w u H=.ok v H)(q:Jd X m<|.s r K (l.set i<|O v) H):Jd X m B:=
 bv e (bf (by show(iY o w u H).i _=_;rw[h];rfl) q)
theorem Rb{B:ft<|List Nat}(t:∀a H,B.Rv a (.ah a) H):∀(k n:Nat) (s:Sg) (H:Hp) (a:List Nat) (x:Int),k<=n->x+k<=2->a.length<=1000->Sx B B.g s H->Jd (OX B<|mv k a s) (m+5) (.lp n Q8 Q9 Ra [] [O (.ae B.c.ap),O v1,O (.ah a),O (.aa x)] H):=by
 intro k
 induction k with
 |zero=>
  intro b b b b b b b b b;exact eK.j
 |succ k u=>
  intro n s H a x v G w h
  induction n using fW with
  |zero=>exact ax ‹_+1<=0› (kQ _)
  |succ n=>
  rw[Qt];refine i5<|dn λe=>cF (rN (m:=m+2) (f:=355) J h.ps [46]) λi f E F=>e ?_
  cases z:s.i.is 5 [46] with
  |false=>
   rw[z] at f;cases F z;rw[a9 (qc.mp z)];exact dM J h.ps J J f (gA J bc λb=>bh J (dO<|by lia)<|eC J (t _ _) h)
  |true=>
   rw[z] at f;obtain⟨p,y⟩:=E z;have d:=h.go p y;rw[aN (z)];refine dM J h.ps J J f<|gA J (λb=>?_) c5;have o:(a++[46]).length<=1001:=by rw[bx];exact gs w
   refine ck J (ym<|aE o<|D J) ?_
   by_cases q:s.j.i.aq=1∨s.j.i.aq=2
   ·rw[aN q];refine dn λe=>cF (Q5 (m:=m) d.ps q) λH2 e2 p r=>e<|dM J d.ps J J e2 ?_;split
    ·rename_i j
     exact ck J (ym<|aE j<|D J)<|fS J J<|bv J<|u n _ _ _ _ (jT v) (by lia) j<|d.go p r
    ·exact eK.j
   ·rw[a9 q];exact tH d λj=>dn λe=>cF (Q6 (m:=m) d.ps q j) λH2 e2 n2 r=>e<|df H2 (tI<|mA J d.ps J J e2 J) n2 r
theorem Rc(h:PS c j g s H):dD c j g H (λ(a:List Nat) v _=>v=.ah a) (ag (m+6) 736 [.ae c.ap] H) (hU s λa s=>if a.length<=1000 then mv 2 a s else .j):=by
 refine eM (A:=⟨c,j,g,H,λa v b=>v=.ah a⟩) J J<|dR J h<|BL J ⟨h,.refl⟩ λb H1 d f=>?_;split
 ·rename_i e
  exact bv J<|Rb (λb b=>J) 2 hT _ _ _ _ (D J) (D J) e d
 ·exact eK.j
end
section
variable{F q:Type}{A:ft F}{p:PR F}{g':Fg}{c:PA}{j:List aj}{g:Fg}{s:Sg}{H u:Hp}{m n:Nat}{B:Cf}{K:List Kf}{l:Lc}{X:R (Fl×Lc)->Prop}{part:bY}
theorem eN{n m:Nat}(k:Nat)(h:n<=m):n<=m+k:=Nat.le_add_right_of_le h
theorem yn(x w:List Nat):(x==w)=decide (x=w):=by rw[Af,beq_iff_eq,decide_eq_true_eq]
theorem GG(x:List Nat):vn (.ah x) (.u [.ah s7,.ah FS,.ah xS,.ah xP,.ah kS,.ah qe,.ah FT,.ah xQ])=O (o8.contains x):=by
 have f:∀a:List (List Nat),rC (.ah x) (a.map V.ah)=O (a.contains x):=λa=>by
  induction a with
  |nil=>rfl
  |cons w r d=>
   show acY (O<|decide (w=x)) (λb=>(rC (.ah x)<|r.map V.ah).map (b||·))=_;rw[d,nB,Ag,yn];rfl
 exact f o8
theorem GH(a:List Nat):rH.contains a=(decide (a=xV)||decide (a=AY)):=by
 rw[Ag,Ag,List.contains_nil,yn,yn,oj]
theorem Re(h:PS c j g s H)(a:¬(s.i.aq=1/\rH.contains s.i.aP=I))(h2:(s.i.is 1 OC||s.i.is 1 OD)=C):ag (m+3) 729 [.ae c.ap] H=.ok .none H:=by
 refine dn λb=>?_;obtain⟨d,h4⟩:=kl.mp h2;refine b ?_;have e:(s.i.is 1 xV||s.i.is 1 AY)=false:=by
  rw[GH] at a;rw[<-Bool.and_or_distrib_left]
  cases q:decide (s.i.aq=1) with
  |false=>rfl
  |true=>exact qc.mpr λz=>a ⟨D q,z⟩
 refine cR J J<|pg J h<|tF J h<|dQ J (c8<|tF J h<|aL J J)<|bh J e<|tF J h<|eg J (λz=>ax (d.symm.trans z) bc) λf=>bh J J<|tF J h<|eg J (λz=>ax (h4.symm.trans z) bc) λf=>bh J J<|aL J J
noncomputable def dX(c:PA)(j:List aj)(n:Nat)(part:bY)(d:Int):Prop:=∀(m:Nat),n<=m->∀(k:Nat) (g:Fg) (s:Sg) (H:Hp),g.bS=d->PS c j g s H->dD c j g H RT (ag m 453 [.ae c.ap,.aa k] H) (part k s)
theorem mD{k:Nat}{a:T->Sg->PR F}(b:dX A.c A.dW n part g'.bS)(hm:n<=m)(e:go B=.v (.ae A.c.ap) (.dK .be [.c (.aa k)]::K) l H)(h:Sx A g' s H)(q:∀t s u,Sx A g' s u->bT A.c H u->Jd (OX A<|a t s) m (.v t.v K l u)):Jd (OX A<|(part k s).bd a) m B:=
 QH e h J J (b m hm k g' s H J h.ps) λt s v u d f y=>by rw[d];exact q t s u f y
theorem BM(p:PR F):(p.bd λa s=>.ok a s)=p:=by cases p<;>rfl
theorem PS.i(h:PS c j g s H)(e:∀k,fd (Gm c g k) a=O v):kC (.ae c.ap) a H=.ok v H:=let⟨k,hp⟩:=h.j2;gf hp<|e k
theorem tJ(e:go B=.v (.ae A.c.ap) (.tz (.i b) .hQ r::K) l H)(h:Sx A g' s H)(q:∀u,Sx A {g' with nc:=b} s u->bT A.c H u->Jd (OX A p) m (.s r K l u)):Jd (OX A p) m B:=by
 obtain⟨a,d⟩:=h;generalize hc:A.c=c at*;generalize f:A.dW=j at*
 induction a with
 |mk i r t k ns H P e1 hp ht hd hr R=>
  subst hc f;exact rM e hp<|q _ ⟨.u P e1 hp ht hd hr R,d.q<|.u⟩<|.u
theorem GI(e:go B=.v (.ae A.c.ap) (.tz (.i b) .lD r::K) l H)(h:Sx A g' s H)(q:∀u,Sx A {g' with ai:=b} s u->bT A.c H u->Jd (OX A p) m (.s r K l u)):Jd (OX A p) m B:=by
 obtain⟨a,d⟩:=h;generalize hc:A.c=c at*;generalize f:A.dW=j at*
 induction a with
 |mk i r t k ns H P e1 hp ht hd hr R=>
  subst hc f;exact rM e hp<|q _ ⟨.u P e1 hp ht hd hr R,d.q<|.u⟩<|.u
theorem yo(a:dX c j n part g.bS)(hm:n<=m)(h:PS c j g s H):dD c j g H RT (ag (m+1) 642 [.ae c.ap,.i false] H) (part 1 s):=by
 refine eM (A:=⟨c,j,g,H,RT⟩) rfl rfl<|cX rfl (h.i λe=>rfl)<|tJ rfl ⟨h,.refl⟩ λH1 b f=>?_;rw[<-BM (part 1 s)];exact mD (g':={g with nc:=false}) a hm rfl b λt s H2 h2 i=>tJ rfl h2 λk d o=>eC rfl rfl d
theorem GJ{k:Nat}{f:Fn}(hb:iX f=(1,1,[.bQ (.cB<|.aO (.l 0) .y [.c (.ah [58])]) [.am (.c .none)] [],.am (.aO (.l 0) .be [.c (.aa k)])]))(b:dX c j n part g.bS)(hm:n<=m)(h:PS c j g s H):dD c j g H (λo v a=>v=ov o) (ag (m+4) f [.ae c.ap] H) (gI part k s):=by
 refine eM (A:=⟨c,j,g,H,λo v a=>v=ov o⟩) hb J<|ph J ⟨h,.refl⟩ (λa H1 d e=>bh J J ?_) λa=>cy J J<|eC J J ⟨h,.refl⟩;exact mD b (eN 3 hm) J d λt s H2 h2 i=>eC J J h2
theorem GK(a:dX c j n part g.bS)(hm:n<=m)(h:PS c j g s H):dD c j g H (λo v b=>v=ov o) (ag (m+4) .gI [.ae c.ap] H) (gI part 1 s):=GJ J a hm h
theorem Rf(a:dX c j n part g.bS)(hm:n<=m)(h:PS c j g s H):dD c j g H (λo v b=>v=ov o) (ag (m+4) 656 [.ae c.ap] H) (gI part 11 s):=GJ J a hm h
theorem Rg(a:dX c j n part g.bS)(hm:n<=m)(h:PS c j g s H):dD c j g H RT (ag (m+5) 698 [.aQ .tg [],.ae c.ap,.none] H) (Bt part s):=
 eM (A:=⟨c,j,g,H,RT⟩) J J (mz J h λH1 b d=>mD a (eN 4 hm) J ⟨b,d⟩ λt s H2 h2 f=>mB J h2 λi k e o=>qr [O t] J (eC J J<|e.j _))
theorem Rh(b:dX c j n part g.bS)(hm:n<=m)(h:PS c j g s H):dD c j g H RT (ag (m+2) 764 [.aQ .ti [],.ae c.ap,.none] H) (Gg part s):=
 eM (A:=⟨c,j,g,H,RT⟩) rfl rfl (cX rfl (h.i λd=>rfl)<|eg rfl bc λd=>bh rfl rfl<|dR rfl h (mD b (eN 1 hm) rfl ⟨h,.refl⟩ λt s H2 h2 e=>by
  obtain⟨k,a,ks,f,p⟩:=t;exact bn rfl (GC ks 88 [] _)<|eC rfl rfl h2))
end
section
variable{F i:Type}{A:ft F}{p:PR F}{u:Fg}{c:PA}{B:List aj}{g:Fg}{s:Sg}{H j:Hp}{m n:Nat}{G:Cf}{K:List Kf}{l:Lc}{X:R (Fl×Lc)->Prop}{part:bY}
theorem vG(a:PS c B g s H)(x:bT c H j):i4 c H j.length:=⟨x.bK,a.kD.ap,a.kD.tl,a.kD.dl,a.kD.rl⟩
theorem Sx.y(h:Sx A u s H)(o:i4 A.c A.H a):Sx A u s (H.set a b):=⟨o.ps h.ps,h.ex.y o.By⟩
theorem PS.q(h:PS c B g s H):s.ts.length<4000000:=by
 induction h with
 |mk i r t a ns H P e hp ht hd hr R=>
  have:=P.Qz;rw[e,bx] at this;exact jq (hG ..) this
theorem GL{a i:Nat}{B:List V}{R:List S}{item:Sg->PR T}{cont:List T->Sg->PR F}(N:∀K H,go (.e w K l H)=.ao f B K l H)(P:∀s H,Sx A u s H->dD A.c A.dW u H RT (ag (m+3) f B H) (item s))(o:i4 A.c A.H a)(Q:l[0]? =O (O<|.ae A.c.ap))(r:l[i]? =O (O<|.ae a))
  (W:∀ts G j,Sx A u G j->j[a]? =O (.af<|ts.map T.v)->Jd (OX A<|cont ts G) (m+3) (.s R K l j)):∀(k n:Nat) (s:Sg) (H:Hp) (b:List T),k<=n->b.length+k<=bg->Sx A u s H->H[a]? =O (.af<|b.map T.v)->
  Jd (OX A<|(jy x item k b s).bd cont) (m+3) (.lp n (.aO (.l 0) .y [.c (.ah x)]) [.ex (.aO (.l i) .q [w])] R K l H):=by
 intro k
 induction k with
 |zero=>
  intro d d d d d d d d;exact eK.j
 |succ k Y=>
  intro n s H b Z hb h e
  induction n using fW with
  |zero=>exact ax ‹_+1<=0› (kQ _)
  |succ n=>
  rw[Qs];refine i5<|kE 1 J<|gL (k7 Q) ?_;refine dn λkk=>cF (rN (m:=m) (f:=355) J h.ps x) λj q p1 p2=>kk ?_
  cases z:s.i.is 5 x with
  |false=>
   rw[z] at q;cases p2 z;rw[a9 (qc.mp z)];exact dM J h.ps J J q (gA J bc λd=>W b s H h e)
  |true=>
   rw[z] at q;obtain⟨p,y⟩:=p1 z;have L:=h.go p y;rw[aN (z),yj];refine dM J h.ps J J q<|gA J (λd=>kE 2 J<|gL (k7 r)<|f1 J (o.at y e) ?_) c5;refine fG (N _ _) L.ex (P _ _ L) λt s2 v H2 hv h2 M=>?_;rw[hv];refine i6 J (o.at M (o.at y e)) (by rw[c3];exact L1 hb)<|bv J<|Y n s2 _ (b++[t]) (jT Z) (by rw[bx];simp only[gS,lj];exact L1 hb) (h2.y o) ?_;rw[dz];exact fo<|o.at M (o.at y e)
end
section
variable{c:PA}{i:List aj}{g:Fg}{s:Sg}{H j:Hp}{m n:Nat}{part:bY}
noncomputable def GN(x:List Nat)(k:Int)(f:Fn):List S:=[.bQ (.cB<|.aO (.l 0) .fZ [.c (.ah x)]) [.am (.l 1)] [],.i 2 (.af [.l 1]),.gJ (.aO (.l 0) .y [.c (.ah x)]) [.ex (.aO (.l 2) .q [.ao f [.l 0]])],.am (.ao .aK [.c (.aa k),.c (.ah []),.l 2,.q (.l 1) .aJ])]
noncomputable def Ri(x:List Nat)(k:Int)(item:Sg->PR T)(s:Sg):PR T:=cL 5 x s λa s=>(item s).bd λt s=>
 if s.q x then(jy x item (s.ts.length+1) [t] s).bd λl s=>.ok (aK k [] l t.aJ) s else .ok t s
theorem GO{F f:Fn}{k:Int}{item:Sg->PR T}(hb:iX F=(1,3,.ex (.aO (.l 0) .y [.c (.ah x)]):: .i 1 (.ao f [.l 0])::GN x k f))(w:∀s H,PS c i g s H->dD c i g H RT (ag (m+3) f [.ae c.ap] H) (item s))(h:PS c i g s H):
  dD c i g H RT (ag (m+4) F [.ae c.ap] H) (Ri x k item s):=by
 let A:ft T:=⟨c,i,g,H,RT⟩
 have rest:∀p a H1,go p=.ao f [.ae c.ap] [.i 1 (GN x k f)] [O (.ae c.ap),U,U] H1->Sx A g a H1->Jd (OX A<|(item a).bd λt s=>if s.q x then(jy x item (s.ts.length+1) [t] s).bd λl s=>.ok (aK k [] l t.aJ) s else .ok t s) (m+3) p:=by
  intro p a H1 e b;refine fG e b.ex (w a H1 b.ps) λt r v H2 z h2 d=>?_;obtain rfl:v=t.v:=z;obtain⟨B,E,u,G,K⟩:=t;refine jB J h2.ps<|QJ J (λq=>?_) λq=>eC J J h2;have y:=h2.ps.q;have o:=vG h h2.ex;refine bv J<|GL (λd d=>J) (λs H h=>w s H h.ps) o J J (λts N j L M=>?_) (r.ts.length+1) hT r _ [.nd B E u G K] ?_ ?_ (h2.j _) cD
  ·exact(bn J (vC (by rw[pj];exact M) k [] _)<|eC J J<|L.y o)
  ·exact aE y<|D J
  ·show 1+(r.ts.length+1)<=bg;unfold bg;exact L1 y
 exact eM hb J<|ph J ⟨h,.refl⟩ (λd H1 b P=>rest _ _ _ J b) λd=>rest _ _ _ J ⟨h,.refl⟩
theorem Rj(a:∀s H,PS c i g s H->dD c i g H RT (ag (m+3) 670 [.ae c.ap] H) (jZ part s))(h:PS c i g s H):dD c i g H RT (ag (m+4) 663 [.ae c.ap] H) (rI part s):=GO J a h
theorem Rk(a:∀s H,PS c i g s H->dD c i g H RT (ag (m+3) 677 [.ae c.ap] H) (my part s))(h:PS c i g s H):dD c i g H RT (ag (m+4) 670 [.ae c.ap] H) (jZ part s):=GO J a h
end
section
variable{c:PA}{i:List aj}{g:Fg}{s:Sg}{H j:Hp}{m n:Nat}{part:bY}
theorem Rl(b:∀s H,PS c i g s H->dD c i g H RT (ag (m+3) 684 [.ae c.ap] H) (my part s))(h:PS c i g s H):dD c i g H RT (ag (m+4) 677 [.ae c.ap] H) (my part s):=by
 refine eM (A:=⟨c,i,g,H,RT⟩) J J<|dR J h<|eg J (λa=>eg J (λq=>?_) λa=>?_) λa=>?_
 ·refine cX J (h.i λa=>J)<|bh J ?_ (k8 J (λa a=>J) .refl<|b s H h);have q:(decide ([107,101,121,111,102]=s.i.aP)||(decide (fN=s.i.aP)||(decide ([105,110,102,101,114]=s.i.aP)||C)))=true:=q;rw[oj,uK,uK,decide_eq_true_eq,decide_eq_true_eq,decide_eq_true_eq] at q
  rcases q with q|q|q<;>rw[<-q]<;>rfl
 ·exact bh J J<|k8 J (λa a=>J) .refl<|b s H h
 ·exact bh J J<|k8 J (λa a=>J) .refl<|b s H h
theorem Rm{B:Hp}(d:dX c i n part g.bS)(hm:n<=m)(h:PS c i g s H):dD c i g H (λ(ts:List T) v j=>∃a,v=.ae a/\j[a]? =O (.af<|ts.map T.v)/\i4 c H a) (ag (m+6) 750 [.ae c.ap] H) (vr part s):=by
 refine eM (A:=⟨c,i,g,H,λ(ts:List T) v j=>∃a,v=.ae a/\j[a]? =O (.af<|ts.map T.v)/\i4 c H a⟩) J J<|mB J ⟨h,.refl⟩ λe H1 f w=>fG J f.ex (yo d (eN 4 hm) f.ps) λt b v H2 l h2 x=>?_;obtain rfl:v=t.v:=l;have k:=h2.ps.q;have o:=vG h h2.ex;refine bv J<|GL (λe e=>J) (λs H h=>yo d (eN 4 hm) h.ps) o J J (λts y j p q=>?_) (b.ts.length+1) hT b _ [t] ?_ ?_ (h2.j _) cD
 ·exact GF J p λz r u=>eC J (df _ J (o.at u q) o) r
 ·exact aE k<|D J
 ·show 1+(b.ts.length+1)<=bg;unfold bg;exact L1 k
theorem Rn(k:dX c i n part g.bS)(hm:n<=m)(h:PS c i g s H):dD c i g H RT (ag (m+8) 717 [.aQ .y [],.ae c.ap,.none] H) (Bs part s):=by
 refine eM (A:=⟨c,i,g,H,RT⟩) J J<|dR J h ?_;refine QK J (cS<|GG s.i.aP) (λe=>?_) λe=>?_
 ·exact mz J h λH1 b f=>bn J (rO 80 _ _)<|eC J J ⟨b.j _,f.q .j⟩
 ·split
  ·exact eK.j
  ·rename_i l
   split
   ·exact eK.j
   ·rename_i o
    refine bn J (Re h l<|qc.mpr o)<|fG J .refl (Rc h) λa q v H1 d b f=>?_;obtain rfl:v=.ah a:=d;refine jB J (b.ps.j _)<|fE J (c8<|dR J (b.ps.j _)<|aL J J)<|kF J (λe=>?_) λe=>?_
    ·refine fG J (b.j _).ex (Rm (B:=H) k (eN 1 hm) (b.j _).ps) λts r v H2 d h2 t=>cF d ?_;clear d;rintro u rfl p j;exact bn J (vC (by rw[pj];exact p) 81 _ _)<|eC J J ⟨j.ps h2.ps,h2.ex.y<|aE (b.j _).ex.bK j.By⟩
    ·exact qr [] J<|eC J J<|b.j _
end
section
variable{c:PA}{i:List aj}{g j:Fg}{s:Sg}{H q:Hp}{m n:Nat}{part:bY}{A:ft T}{X:R (Fl×Lc)->Prop}
theorem yq{t:aj}(h:rP t=x):ag (m+1) 565 [t.v] H=.ok (.ah x) H:=h▸Q7 t
theorem BN{t:aj}(h:t.aq=5∨t.aq=2):rP t=t.aP:=aN h
theorem yr{t:aj}(h:t.aq=0/\x=[]∨t.aq=1/\x=uY∨t.aq=3/\x=[35,110,117,109]∨t.aq=4/\x=[35,115,116,114]):rP t=x:=by
 unfold rP
 rcases h with⟨h,rfl⟩|⟨h,rfl⟩|⟨h,rfl⟩|⟨h,rfl⟩<;>rw[h]<;>rfl
noncomputable def GP:List S:=[.bQ (.b9 .q (.l 2)<|.q (.l 0) .fY) [.ex (.aO (.l 0) .b8 [.c (.aa 1110),.u []])] [],.i 3 (.aO (.y (.q (.l 0) .fY)<|.l 2) .fC [.l 0,.c .none])]
noncomputable def GQ:E:=.bN (.aO (.l 0) .fZ [.c (.ah [91])])<|.cB<|.q (.aO (.l 0) .i []) .m3
noncomputable def GR:List S:=[.ex (.aO (.l 0) .j []),.db 4 .i (.c<|.aa 1),.ex (.ao 509 [.l 0,.l 4]),.bQ (.aO (.l 0) .y [.c (.ah [93])]) [.i 3 (.ao .aK [.c (.aa 85),.c (.ah []),.af [.l 3],.q (.l 3) .aJ])] [.i 5 (.aO (.l 0) .be [.c (.aa 1)]),.ex (.aO (.l 0) .iV [.c (.ah [93])]),.i 3 (.ao .aK [.c (.aa 90),.c (.ah []),.af [.l 3,.l 5],.q (.l 3) .aJ])]]
noncomputable def BO:List S:=[.cP (.l 0) .hQ (.l 1),.am (.l 3)]
noncomputable def BP:List S:=.i 4 (.c<|.aa 0):: .gJ GQ GR::BO
theorem Ro{l:T->Sg->PR T}(y:dX A.c A.dW n part j.bS)(hm:n<=m)(h:Sx A j s H){v1:V}(q:∀t s H2 x,Sx A j s H2->Jd (OX A<|l t s) (m+8) (.v t.v [.i 3 BP] [O (.ae A.c.ap),O v1,O (.ah x),U,U,U] H2)):
  Jd (OX A<|(fC part s).bd l) (m+8) (.ao 565 [s.i.v] [.i 2 (GP++BP)] [O (.ae A.c.ap),O v1,U,U,U,U] H):=by
 have b:∀x,rP s.i=x->vn (.ah x) i3=O C->Jd (OX A<|(b8 1110 s:PR T).bd l) (m+8) (.ao 565 [s.i.v] [.i 2 (GP++BP)] [O (.ae A.c.ap),O v1,U,U,U,U] H):=λx e hs=>by
  have B:(b8 1110 s:PR T).bd l=b8 1110 s:=by unfold b8;split<;>rfl
  rw[B];exact bn J (yq e)<|cX J (h.ps.i λd=>J)<|cy J (bJ (λo=> !Option.getD o C) hs)<|yi J h (D J) J
 unfold fC
 by_cases z:s.i.aq=1
 ·rw[aN z];exact bn J (yq<|yr<|.inr<|.inl ⟨z,J⟩)<|cX J (h.ps.i λd=>J)<|bh J J<|cX J (h.ps.i λd=>J)<|b5 J J (fG J h.ex (Rn y hm h.ps) λt f v H2 i h2 d=>by
   rw[i];exact q t f H2 _ h2)
 ·rw[a9 z]
  by_cases k:s.i.aq=5∨s.i.aq=2
  ·rw[aN k]
   by_cases p:s.i.aP=[40]
   ·rw[aN p];exact bn J (yq<|(BN k).trans p)<|cX J (h.ps.i λd=>J)<|bh J J<|cX J (h.ps.i λd=>J)<|b5 J J (fG J h.ex (Rg y (eN 3 hm) h.ps) λt f v H2 i h2 d=>by
     rw[i];exact q t f H2 _ h2)
   ·rw[a9 p]
    by_cases r:s.i.aP=[123]
    ·rw[aN r];exact bn J (yq<|(BN k).trans r)<|cX J (h.ps.i λd=>J)<|bh J J<|cX J (h.ps.i λd=>J)<|b5 J J (fG J h.ex (Rh y (eN 6 hm) h.ps) λt f v H2 i h2 d=>by
      rw[i];exact q t f H2 _ h2)
    ·rw[a9 r]
     by_cases u:s.i.aP=uY∨s.i.aP=xO
     ·rw[aN u];exact eK.j
     ·rw[a9 u];refine b _ (BN k) ?_;have n:∀{a:List Nat},s.i.aP≠a->decide (a=s.i.aP)=false:=λw=>dO w.symm;show O (Option.isSome<|if decide (_=s.i.aP)=I then _ else if decide (_=s.i.aP)=I then _ else if decide (_=s.i.aP)=I then _ else if decide (_=s.i.aP)=I then _ else U)=_;rw[n p,n r,n λw=>u<|.inl w,n λw=>u (.inr w)];rfl
  ·rw[a9 k];split
   ·rename_i h0
    rcases h0 with h0|h0|h0
    ·exact b _ (yr<|.inl ⟨h0,rfl⟩) rfl
    ·exact b _ (yr<|.inr<|.inr<|.inl ⟨h0,rfl⟩) rfl
    ·exact b _ (yr<|.inr<|.inr<|.inr ⟨h0,J⟩) J
   ·exact eK.j
theorem GS{t:T}{x:Int}(d:A.Rv=RT)(h:Sx A {A.g with nc:=C} s H):Jd (OX A<|.ok t s) m (.s BO [] [O (.ae A.c.ap),O (.i A.g.nc),O (.ah a),O t.v,O (.aa x),b] H):=
 tJ J h λH1 e f=>eC J (by rw[d];rfl) e
theorem Rp{x:Int}(a:x<=60):ag (m+1) 509 [v,.aa x] H=.ok .none H:=cR J J<|bh J (dO<|ra.mpr a)<|aL J J
theorem Rq(o:A.Rv=RT)(B:dX A.c A.dW n part A.g.bS)(hm:n<=m):∀(k f:Nat) (s:Sg) (H:Hp) (t:T) (x:Int) (d:Option V),k<=f->x+k<=60->Sx A {A.g with nc:=C} s H->
  Jd (OX A<|mw part k t s) (m+8) (.lp (f+1) GQ GR BO [] [O (.ae A.c.ap),O (.i A.g.nc),O (.ah e),O t.v,O (.aa x),d] H):=by
 intro k
 induction k with
 |zero=>
  intro f s H t x d l E h;rw[Qu];refine i5<|jB J h.ps<|fE J (c8<|dR J h.ps<|aL J J) ?_;split
  ·exact eK.j
  ·rename_i q;exact gA J (λz=>ax z q) λa=>GS o h
 |succ k p=>
  intro f s H t x d l E h
  induction f using fW with
  |zero=>exact ax ‹_+1<=0› (kQ _)
  |succ f=>
  rw[Qv];refine i5<|jB J h.ps<|fE J (c8<|dR J h.ps<|aL J J) ?_;split
  ·rename_i q
   refine gA J (λa=>mz J h.ps λH1 F G=>fS J J<|bn J (Rp<|by lia) ?_) λz=>ax q (by rw[z];nofun);have r:=h.go F G;obtain⟨u,v,b,w,y⟩:=t;refine ph J r (λa H2 h2 a=>cy J J ?_) λa=>bh J J ?_
   ·refine qr [O (.nd u v b w y)] J<|bv J<|p f _ _ (aK 85 [] [_] _) (x+1) d (jT l) (by lia)<|h2.j _
   ·refine mD (g':={A.g with nc:=C}) B (eN 8 hm) J r λi L H2 h2 a=>mB J h2 λa M K a=>qr [O (.nd u v b w y),O i] J<|bv J<|p f _ _ (aK 90 [] [_,i] _) (x+1) (O i.v) (jT l) (by lia)<|K.j _
  ·rename_i q;exact gA J (λz=>ax z q) λa=>GS o h
theorem Rt(a:dX c i n part g.bS)(hm:n<=m)(h:PS c i g s H):dD c i g H RT (ag (m+9) 684 [.ae c.ap] H) (my part s):=by
 refine eM (A:=⟨c,i,g,H,RT⟩) J J<|cX J (h.i λd=>J)<|tJ J ⟨h,.refl⟩ λH1 b d=>dR J b.ps ?_;exact bv J<|Ro a hm b λt e H2 x h2=>bv J<|Rq J a hm 60 _ _ _ _ 0 U (hG ..) (D J) h2
end
section
variable{j:Type}{A:ft j}{p:PR j}{c:PA}{i:List aj}{g y:Fg}{s:Sg}{H u:Hp}{m n:Nat}{q:Cf}{K:List Kf}{l:Lc}{part:bY}
theorem GU{pf:Int->Sg->PR j}{x f:Int}{s h:Sg}(e:go q=.v (.i b) (.bQ a d r::K) l H)(i:b=I->Jd (OX A<|pf x s) m (.s a (.j r::K) l H))(k:b=C->Jd (OX A<|pf f h) m (.s d (.j r::K) l H)):Jd (OX A<|pf (if b=I then x else f)<|if b=I then s else h) m q:=by
 refine bv e ?_;clear e
 cases b
 ·exact k J
 ·exact i J
theorem j3{a b:Type}{c:Prop}[Decidable c](p q:PR a)(f:a->Sg->PR b):(if c then p else q).bd f=if c then p.bd f else q.bd f:=by split<;>rfl
theorem BQ{a b:Type}(n:Int)(s:Sg)(f:a->Sg->PR b):(b8 n s:PR a).bd f=b8 n s:=by rw[j3];rfl
theorem Rw{d:Type}(s:Sg)(b:List Nat->Bool)(x:Int)(f:List Nat->Sg->PR d):(hU s λa s=>lK (b a) x s<|f a)=(hU s λa s=>lK (b a) x s λs=>.ok a s).bd f:=by
 rw[j3,BQ];rw[j3,j3];rfl
theorem Ry(h:PS c i g s H):dD c i g H (λ(a:List Nat) v _=>v=.ah a) (ag (m+5) 743 [.ae c.ap] H) (hU s λa s=>lK (o8.contains a||rH.contains a) 2368 s λs=>.ok a s):=by
 refine eM (A:=⟨c,i,g,H,λ(a:List Nat) v _=>v=.ah a⟩) J J<|dR J h<|BL J ⟨h,.refl⟩ λb H1 d b=>dQ J (c8<|dQ J J<|aL J J) ?_;rw[<-cS (GG s.i.aP),GH];exact Q0 J J d J J λf u e b=>eC J J e
noncomputable def BR(part:bY)(a:List Nat)(d p:Int)(bound:Option T)(s:Sg):PR T:=cL 5 [61] s λb s=>if b then(part 1 s).bd λg s=>.ok (T.nd 100 a [bound,O g] d p) s else PR.ok (T.nd 100 a [bound,U] d p) s
noncomputable def BS(part:bY)(d:Int)(s:Sg):PR T:=
 let p:=s.i.aJ
 hU s λa s=>
 lK (o8.contains a||rH.contains a) 2368 s λs=>
 cL 2 iS s λb s=>if b then(part 1 s).bd λt s=>BR part a d p (O t) s else BR part a d p U s
noncomputable def Rz(part:bY)(a:Int)(s:Sg):PR T:=BS part (if s.y fc&&decide ((s.u 1).aq=1) then a+536870912 else a)<|if s.y fc&&decide ((s.u 1).aq=1) then s.j else s
noncomputable def GV:List S:=[.bQ (.aO (.l 0) .y [.c (.ah [61])]) [.i 5 (.ao 642 [.l 0,.c (.i C)])] [],.am (.ao .i [.c (.aa 100),.l 3,.af [.l 4,.l 5],.l 1,.l 2])]
theorem GW{A:ft T}(e:A.Rv=RT)(j:dX A.c A.dW n part A.g.bS)(hm:n<=m){b p:Int}(h:Sx A A.g s H):Jd (OX A<|BR part a b p o s) (m+5) (.s GV [] [O (.ae A.c.ap),O (.aa b),O (.aa p),O (.ah a),O (ov o),O .none] H):=
 ph J h (λd H1 f d=>cy J J<|fG J f.ex (yo j (eN 4 hm) f.ps) λi q v H2 k h2 d=>by
  rw[k];exact gY [o,O i] J<|eC J (by rw[e];rfl)<|h2.j _) λd=>bh J J<|gY [o,U] J<|eC J (by rw[e];rfl)<|h.j _
noncomputable def GY:List S:=[.i 2 (.q (.aO (.l 0) .i []) .aJ),.i 3 (.ao 743 [.l 0]),.i 4 (.c .none),.i 5 (.c .none),.bQ (.aO (.l 0) .te [.c (.ah iS)]) [.i 4 (.ao 642 [.l 0,.c (.i C)])] []]++GV
theorem GZ{A:ft T}(i:A.Rv=RT)(e:dX A.c A.dW n part A.g.bS)(hm:n<=m){b:Int}(h:Sx A A.g s H):Jd (OX A<|BS part b s) (m+5) (.s GY [] [O (.ae A.c.ap),O (.aa b),U,U,U,U] H):=by
 unfold BS;rw[Rw s (λa=>o8.contains a||rH.contains a)];refine dR J h.ps<|fG J h.ex (Ry h.ps) λa o v H1 f j d=>?_;obtain rfl:v=.ah a:=f;refine BI J j (λd H2 h2 d=>cy J J<|fG J h2.ex (yo e (eN 4 hm) h2.ps) λt q v r f k d=>?_) λd=>bh J J<|bf J<|GW i e hm j;obtain rfl:v=t.v:=f;exact bf J<|GW i e hm k
noncomputable def RA:List S:=.bQ (.bN (.aO (.l 0) .mq [.c (.ah fc)])<|.b9 .eq (.q (.aO (.l 0) .u [.c (.aa 1)]) .aq)<|.c<|.aa 1) [.ex (.aO (.l 0) .j []),.db 1 .i (.c<|.aa 536870912)] []::GY
theorem G0{A:ft T}(b:A.Rv=RT)(d:dX A.c A.dW n part A.g.bS)(hm:n<=m){a:Int}(h:Sx A A.g s H):Jd (OX A<|Rz part a s) (m+5) (.s RA [] [O (.ae A.c.ap),O (.aa a),U,U,U,U] H):=
 tF J h.ps (fE J (c8<|pg J h.ps<|aL J J)<|GU J (λe=>mz J h.ps λH1 f i=>fS J J<|bf J<|GZ b d hm<|h.go f i) λe=>bf J<|GZ b d hm h)
theorem G1(b:dX c i n part g.bS)(hm:n<=m)(h:PS c i g s H):dD c i g H RT (ag (m+6) 946 [.ae c.ap] H) (pa part s):=by
 refine eM (A:=⟨c,i,g,H,RT⟩) J J<|yg J h<|kF J (λa=>yi J ⟨h,.refl⟩ (D J) J) λa=>BI J ⟨h,.refl⟩ (λa H1 d a=>cy J J ?_) λa=>bh J J ?_
 ·exact bf J<|G0 J b hm d
 ·exact bf J<|G0 J b hm ⟨h,.refl⟩
end
section
variable{B:Type}{A:ft B}{p:PR B}{c:PA}{i:List aj}{g F:Fg}{s:Sg}{H j:Hp}{m n:Nat}{u:Cf}{K:List Kf}{l:Lc}{part:bY}{X:R (Fl×Lc)->Prop}
theorem RB{n:Nat}(e:go u=.v (.i d) (.vt n t b r::K) l H)(f:d=I->Jd (OX A p) m (.s b (.lN n t b r::K) l H))(h:d=C->Jd (OX A a) m (.s r K l H)):Jd (OX A<|if d=I then p else a) m u:=by
 refine bv e ?_;clear e
 cases d
 ·exact h J
 ·exact f J
noncomputable def RC:E:=.bN (.aO (.l 0) .y [.c (.ah [44])])<|.bN (.cB<|.aO (.l 0) .fZ [.c (.ah [62])])<|.cB<|.aO (.l 0) .fZ [.c (.ah rj)]
noncomputable def RD:List S:=[.ex (.aO (.l 2) .q [.ao 946 [.l 0]])]
noncomputable def G2:List S:=[.ex (.ao 572 [.l 0]),.am (.ao 70 [.l 2,.l 1])]
theorem RE{cont:List T->Sg->PR B}(z:dX A.c A.dW n part F.bS)(hm:n<=m)(o:i4 A.c A.H a)
  (w:∀ts x j,Sx A F x j->j[a]? =O (.af<|ts.map T.v)->Jd (OX A<|cont ts x) (m+6) (.s G2 [] [O (.ae A.c.ap),O v1,O (.ae a)] j)):∀(k f:Nat) (s:Sg) (H:Hp) (d:List T),k<=f->d.length+k<=bg->Sx A F s H->H[a]? =O (.af<|d.map T.v)->
  Jd (OX A<|(lL part k d s).bd cont) (m+6) (.lp f RC RD G2 [] [O (.ae A.c.ap),O v1,O (.ae a)] H):=by
 intro k
 induction k with
 |zero=>
  intro e e e e e e e e;exact eK.j
 |succ k E=>
  intro f s H d G hb h i
  induction f using fW with
  |zero=>exact ax ‹_+1<=0› (kQ _)
  |succ f=>
  rw[show∀{u:Bool->Sg->PR (List T)},(cL 5 [44] s u).bd cont=cL 5 [44] s λb s=>(u b s).bd cont fromλ{u}=>j3 ..];refine i5<|ph J h (λe H1 q r=>eg J (λe=>jB J q.ps<|fE J (c8<|jB J q.ps<|aL J J) ?_) c5) λe=>eg J bc λe=>gA J bc λe=>w d s H h i;rw[j3,yj];refine RB J (λe=>f1 J (o.at r i)<|fG J q.ex (G1 z hm q.ps) λt L v H2 M h2 y=>?_) λe=>w d _ H1 q<|o.at r i;obtain rfl:v=t.v:=M;refine i6 J (o.at y (o.at r i)) (by rw[c3];exact L1 hb)<|bv J<|E f L _ (d++[t]) (jT G) (by rw[bx];simp only[gS,lj];exact L1 hb) (h2.y o) ?_;rw[dz];exact fo<|o.at y (o.at r i)
theorem G3(d:dX c i n part g.bS)(hm:n<=m)(h:PS c i g s H):dD c i g H (λo v a=>v=ov o) (ag (m+7) 939 [.ae c.ap] H) (kZ part s):=by
 unfold kZ;refine eM (A:=⟨c,i,g,H,λo v a=>v=ov o⟩) J J<|dR J h<|ph J ⟨h,.refl⟩ (λa H1 e x=>bh J J<|fG J e.ex (G1 d hm e.ps) λt b v H2 k h2 y=>?_) λa=>cy J J<|eC J J ⟨h,.refl⟩;obtain rfl:v=t.v:=k;have f:=h2.ps.q;have o:=vG h h2.ex;refine bv J<|RE d hm o (λts z j q r=>?_) (b.ts.length+1) hT b _ [t] ?_ ?_ (h2.j _) cD
 ·exact GF J q λB u w=>bn J (qq (ks:=ts.map O) (by rw[pj];exact o.at w r) _)<|eC J J<|u.y o
 ·exact aE f<|D J
 ·show 1+(b.ts.length+1)<=bg;unfold bg;exact L1 f
theorem G4(h:PS c i g s H)(a:s.i.u=I):∃j,ag (m+3) 981 [.ae c.ap] H=.ok (c6 8 s.i.aP s.i.aJ).v j/\PS c i g s.j j/\bT c H j:=dn λb=>cF (tE (m:=m+1) h) λj d p y=>b<|df _ (cR J J<|dR J h<|bn J (BK s.i)<|cy J a<|dM J h J J d<|bn J (rO 8 _ _)<|aL J J) (p.j [.i])<|y.q .j
theorem G5{pf:Int->Sg->PR B}{y b:Int}(e:go u=.v (.ae A.c.ap) (.dK .y [.c (.ah x)]::K) l H)(h:Sx A F s H)
  (d:s.i.is 5 x=I->∀j,Sx A F s.j j->bT A.c H j->Jd (OX A<|pf y s.j) (m+3) (.v (.i I) K l j))(f:s.i.is 5 x=C->Jd (OX A<|pf b s) (m+3) (.v (.i C) K l H)):Jd (OX A<|pf (if s.i.is 5 x=I then y else b)<|if s.i.is 5 x=I then s.j else s) (m+3) u:=by
 refine dn λi=>cF (rN (m:=m) (f:=355) J h.ps x) λj a k o=>i ?_
 cases q:s.i.is 5 x with
 |true=>rw[q] at a;obtain⟨p,y⟩:=k q;exact dM e h.ps J J a<|d q j (h.go p y) y
 |false=>rw[q] at a;cases o q;exact dM e h.ps J J a<|f q
theorem yt{z:Int}(e:go u=.v (.aa z) (.cB::K) l H)(q:Jd X m<|.v (.i<|!(z !=0)) K l H):Jd X m u:=bv e<|bf J q
theorem rQ{z:Int}(e:go u=.v (.aa z) (.bQ a b r::K) l H)(q:Jd X m<|.v (.i<|z !=0) (.bQ a b r::K) l H):Jd X m u:=bv e<|bf J q
noncomputable def RF:List S:=[.i 5 (.ao .gI [.l 0]),.i 6 (.c .none),.bQ (.bN (.l 1)<|.bN (.cB<|.bI .u (.l 2)<|.bI .i (.c<|.aa 8192)<|.c<|.aa 4096)<|.aO (.l 0) .y [.c (.ah [61])]) [.i 6 (.aO (.l 0) .be [.c (.aa 2)])] [],.am (.ao .i [.c (.aa 28),.c (.ah []),.af [.l 4,.l 5,.l 6],.l 2,.l 3])]
noncomputable def yu(part:bY)(x:List Nat)(a p f:Int)(s:Sg):PR T:=(gI part 1 s).bd λk s=>.ok (.nd 28 [] [O (c6 8 x a),k,U] f p) s
theorem BU{A:ft T}(b:A.Rv=RT)(d:dX A.c A.dW n part A.g.bS)(hm:n<=m){a p f:Int}(h:Sx A A.g s H):Jd (OX A<|yu part x a p f s) (m+4) (.s RF [] [O (.ae A.c.ap),O (.i C),O (.aa f),O (.aa p),O (c6 8 x a).v,U,U] H):=
 fG J h.ex (GK d hm h.ps) λk j v H2 e h2 i=>by
  obtain rfl:v=ov k:=e;exact eg J bc λi=>bh J J<|gY [O (c6 8 x a),k,U] J<|eC J (by rw[b];rfl)<|h2.j _
theorem RG(e:dX c i n part g.bS)(hm:n<=m)(h:PS c i g s H):dD c i g H RT (ag (m+5) 988 [.ae c.ap,.i C] H) (pc part s):=by
 unfold pc;refine eM (A:=⟨c,i,g,H,RT⟩) J J<|bh J J<|dR J h<|ph J ⟨h,.refl⟩ (λa H1 k a=>cy J J<|fS J J ?_) λa=>bh J J ?_
 ·dsimp only
  split
  ·rename_i f
   exact dn λj=>cF (G4 (m:=m+1) k.ps f) λH2 e2 b d=>j<|bn J e2<|ck (v:=.aa 8192) J J<|yt J<|eg J bc λa=>bh J J<|bf J<|BU J e hm<|k.go b d
  ·exact eK.j
 ·dsimp only
  split
  ·rename_i f
   refine dn λj=>cF (G4 (m:=m+1) h f) λH2 e2 b d=>j<|bn J e2<|ck (v:=.aa 0) J J<|yt J<|eg J (λa=>?_) c5;exact G5 (pf:=yu part s.i.aP s.i.aJ s.i.aJ) J ⟨b,d⟩ (λa q o a=>cy J J<|fS J J<|bf J<|BU J e hm o) λa=>bh J J<|bf J<|BU J e hm ⟨b,d⟩
  ·exact eK.j
end
section
variable{i:Type}{A:ft i}{p:PR i}{c:PA}{u:List aj}{g q:Fg}{s:Sg}{H j:Hp}{m n:Nat}{y:Cf}{K:List Kf}{l:Lc}{part:bY}{X:R (Fl×Lc)->Prop}
inductive po:T->Prop where
 |mk (x:List Nat) (p0:Int) (k:Option T) (f p:Int):f=0∨f=4096∨f=8192->po (.nd 28 [] [some (c6 8 x p0),k,none] f p)
theorem qs{y:Fl}(q:Jd (λr=>r=.ok (y,b) j) m<|.s r [] l H):aZ (ag m) r l H=.ok (y,b) j:=by
 have q:(aZ (ag m) r l H).i (dp (ag m) [])=.ok (y,b) j:=q;generalize aZ (ag m) r l H=r at q
 induction r using R.casesOn with
 |ok a H=>cases q;rfl
 |q H=>cases q
 |j=>cases q
noncomputable def tK:List S:=[.i 4 (.y (.l 1)<|.l 3),.bQ (.bN (.b9 .gt (.l 3)<|.c<|.aa 0)<|.bN (.b9 .eq (.q (.y (.q (.l 4) .bO)<|.c<|.aa 0) .aq)<|.c<|.aa 8)<|.b9 .eq (.q (.y (.q (.l 4) .bO)<|.c<|.aa 0) .a_)<|.c<|.ah eV) [.ex (.aO (.q (.l 0) .dU) .gx [.c (.aa 2680),.q (.l 4) .aJ,.u []])] [],.bQ (.bI .u (.q (.l 4) .cj)<|.c<|.aa 4096) [.i 2 (.c<|.i I)] [.bQ (.bN (.l 2)<|.bN (.cB<|.bI .u (.q (.l 4) .cj)<|.c<|.aa 8192)<|.b9 .j (.y (.q (.l 4) .bO)<|.c<|.aa 2)<|.c .none) [.ex (.aO (.q (.l 0) .dU) .gx [.c (.aa 1016),.q (.l 4) .aJ,.u []])] []]]
noncomputable def tL(i:Nat)(t:T):List Int:=if 0<i/\k4 t then[2680] else[]
noncomputable def tM(seen:Bool)(t:T):List Int:=if t.cj=4096 then[] else if seen&& !rJ t then[1016] else[]
theorem RH(i:Nat)(seen:Bool)(t:T)(r:List T):gW i seen (t::r)=tL i t++tM seen t++gW (i+1) (if t.cj=4096 then I else seen) r:=by
 show tL i t++(if t.cj=4096 then gW (i+1) I r else(if(seen&& !rJ t)=I then[1016] else[])++gW (i+1) seen r)=_;unfold tM;split
 ·rw[cM]
 ·rw[b6]
noncomputable abbrev yv(c:PA)(a:Nat)(seen:Bool)(i:Nat)(v:V):Lc:=[O (.ae c.ap),O (.ae a),O (.i seen),O (.aa i),O v]
theorem RI{a i:Nat}{seen:Bool}{ts:List T}{t:T}(h:PS c u g s H)(Y:H[a]? =O (.af<|ts.map T.v))(ht:ts[i]? =O t)(hp:po t)(v:(s.ns++(tL i t++tM seen t)).length<1000):
  ∃j,aZ (ag<|m+1) tK [O (.ae c.ap),O (.ae a),O (.i seen),O (.aa i),l4] H=.ok (.aU,yv c a (if t.cj=4096 then I else seen) i t.v) j/\PS c u g ⟨s.ts,s.ns++(tL i t++tM seen t)⟩ j/\bT c H j:=by
 obtain⟨x,b,k,f,p,Z⟩:=hp;have y:∀d H1,PS c u g d H1->bT c H H1->(d.ns++tM seen (.nd 28 [] [O (c6 8 x b),k,U] f p)).length<1000->∃j,Jd (λr=>r=.ok (.aU,yv c a (if f=4096 then I else seen) i (T.nd 28 [] [O (c6 8 x b),k,U] f p).v) j) (m+1) (.s (tK.drop 2) [] (yv c a seen i (T.nd 28 [] [O (c6 8 x b),k,U] f p).v) H1)/\PS c u g ⟨d.ts,d.ns++tM seen (.nd 28 [] [O (c6 8 x b),k,U] f p)⟩ j/\bT c H j:=by
  intro d H1 G L B;have nil:∀{n:List Int},n=[]->PS c u g ⟨d.ts,d.ns++n⟩ H1:=λe=>by rw[e,cM];exact G
  rcases Z with rfl|rfl|rfl
  ·induction seen using xx with
   |false=>exact df H1 (ck (v:=.aa 0) rfl rfl<|rQ rfl<|bh rfl rfl<|eg rfl bc λE=>bh rfl rfl<|aL rfl rfl) (nil rfl) L
   |true=>
    exact dn λo=>cF (yh (m:=m) G 1016 p []<|jq (by rw[bx];exact d7 ..) B) λH2 e2 M N=>o<|df H2 (ck (v:=.aa 0) J J<|rQ J<|bh J J<|eg J (λE=>ck J J<|yt J<|eg J (λE=>b5 J J<|cy J J<|cX J (vz G)<|vw J G.y J<|bn J e2<|aL J J) c5) c5) M<|L.q N
  ·exact df H1 (ck J J<|rQ J<|cy J J<|aL J J) (nil J) L
  ·refine df H1 (ck J J<|rQ J<|bh J J ?_) (nil<|by cases seen<;>rfl) L;clear B
   induction seen using xx with
   |false=>exact eg J bc λE=>bh J J<|aL J J
   |true=>exact eg J (λE=>ck J J<|yt J<|eg J bc λE=>bh J J<|aL J J) c5
 have F:∀X,(Jd X (m+1)<|.v (.i<|decide (0<(i:Int))&&(I&&decide (x=eV))) [.bQ [.ex (.aO (.q (.l 0) .dU) .gx [.c (.aa 2680),.q (.l 4) .aJ,.u []])] [] (tK.drop 2)] (yv c a seen i (T.nd 28 [] [O (c6 8 x b),k,U] f p).v) H)->Jd X (m+1) (.s tK [] [O (.ae c.ap),O (.ae a),O (.i seen),O (.aa i),l4] H):=λX q=>
  b5 J (hX Y (by rw[qb,ht];rfl)) (fE J (c8<|b5 J J<|fE J (c8<|b5 J J<|aL J J)<|aL J J) q)
 by_cases q:0<i/\x=eV
 ·have e1:tL i (.nd 28 [] [O (c6 8 x b),k,U] f p)=[2680]:=aN ⟨q.1,dH q.2⟩;have e2:(decide (0<(i:Int))&&(I&&decide (x=eV)))=true:=by rw[dH (show 0<(i:Int) by lia),dH q.2];rfl
  rw[e1] at v⊢;refine dn λo=>cF (yh (m:=m) h 2680 p []<|jq (by rw[bx];exact d7 ..) v) λH2 e3 M N=>o ?_;rw[<-b6] at v⊢;exact dn λo=>cF (y _ H2 M N v) λP Q S W=>o<|df P (qs<|F _<|cy J e2<|cX J (vz h)<|vw J h.y J<|bn J e3<|bf J Q) S W
 ·have e1:tL i (.nd 28 [] [O (c6 8 x b),k,U] f p)=[]:=a9 λz=>q ⟨z.1,D z.2⟩;have e2:(decide (0<(i:Int))&&(I&&decide (x=eV)))=false:=by
   cases z:decide (0<(i:Int)) with
   |false=>rfl
   |true=>rw[dO λw=>q ⟨by have:=D z;lia,w⟩];rfl
  rw[e1] at v⊢;exact dn λo=>cF (y _ H h .refl v) λP Q S W=>o<|df P (qs<|F _<|bh J e2<|bf J Q) S W
theorem RJ{ts:List T}(o:i4 c B a)(f:∀t∈ts,po t):∀(rest pre:List T) (seen:Bool) (s:Sg) (H:Hp) (k b:Option V),ts=pre++rest->PS c u g s H->H[a]? =O (.af<|ts.map T.v)->(s.ns++gW pre.length seen rest).length<1000->
  ∃j q,dm (λv l H=>aZ (ag<|m+1) tK (l.set 3<|O v) H) ((ll pre.length rest.length).map λ(i:Nat)=>V.aa (i:Int)) [O (.ae c.ap),O (.ae a),O (.i seen),k,b] H=.ok (.aU,O (.ae c.ap)::O (.ae a)::q) j/\PS c u g ⟨s.ts,s.ns++gW pre.length seen rest⟩ j/\bT c H j:=by
 intro r
 induction r with
 |nil=>
  intro pre seen s H k b e h w d;exact cK H _ J (by rw[show gW pre.length seen []=[] from J,cM];exact h) .refl
 |cons t r y=>
  intro pre seen s H k b e h w d;rw[RH,<-b6] at d⊢;have ht:ts[pre.length]? =O t:=by rw[e,qY (bF _),p9];rfl
  refine dn λz=>cF (RI (m:=m) (l4:=b) h w ht (f t<|mi ht)<|jq (by rw[bx (as:=s.ns++_)];exact d7 ..) d) λH1 e1 E x=>?_;have:=y (pre++[t]) _ _ H1 (O<|.aa pre.length) (O t.v) (e.trans<|kP ..) E (o.at x w) (by rw[bx (as:=pre)];exact d);rw[bx] at this;refine cU this λH2 q e2 F G=>z<|cK H2 q ?_ F<|x.q G;show(match aZ (ag<|m+1) tK [O (.ae c.ap),O (.ae a),O (.i seen),O (.aa pre.length),b] H with|.ok (.aU,l) H=>_|.ok (.q,l) H=>_|.ok (.u,l) H=>_|.ok (.am v,l) H=>_|_=>_)=_;rw[e1];exact e2
theorem vH{i n:Nat}(e:go y=.s (.jw i x b::r) K l H)(a:az (ag m) x l H=.ok (.aa n) H)(d:n<=bg)(f:dm (λv l H=>aZ (ag m) b (l.set i<|O v) H) ((kj n).map λ(i:Nat)=>V.aa (i:Int)) l H=.ok (.aU,l') j)(q:Jd X m<|.s r K l' j):Jd X m y:=
 bv e (bf (c':=.s r K l' j) (by
  have e1:f0 (ag m) (.jw i x b) l H=.ok (.aU,l') j:=by
   show R.i (az (ag m) x l H) _=_;rw[a,jz];exact(aN ⟨qa n,sN.mpr d⟩).trans f
  show R.i (R.i (f0 (ag m) (.jw i x b) l H) _) _=_;rw[e1];rfl) q)
theorem RK{ts:List T}(o:i4 c B a)(b:∀t∈ts,po t)(h:PS c u g s H)(f:H[a]? =O (.af<|ts.map T.v))(hb:ts.length<=bg)(i:(s.ns++gW 0 C ts).length<1000):
  ∃j,ag (m+2) 960 [.ae c.ap,.ae a] H=.ok .none j/\PS c u g ⟨s.ts,s.ns++gW 0 C ts⟩ j/\bT c H j:=by
 refine dn λk=>cU (RJ (m:=m) o b ts [] C s H U U J h f i) λj q e p y=>k<|df j (cR J J<|vH J (c8<|fF J ?_ (aL J J)) hb (by rw[xy];exact e)<|aL J J) p y;show cG ((match H[a]? with|some (.af d)=>O d|_=>U).map λ(d:List V)=>V.aa d.length) H=_;rw[f];show R.ok (V.aa ((ts.map T.v).length:Nat)) H=_;rw[c3]
end
section
variable{q:Type}{A:ft q}{p:PR q}{c:PA}{i:List aj}{g g':Fg}{s:Sg}{H j:Hp}{m n:Nat}{u:Cf}{K:List Kf}{l:Lc}{part:bY}{X:R (Fl×Lc)->Prop}
theorem RM{part:bY}{s i:Sg}(h:pc part s=.ok t i):po t:=by
 have a:∀{x o f p d},f=0∨f=4096∨f=8192->yu part x o p f d=.ok t i->po t:=λ{x o f p d} r e=>by
  unfold yu at e
  cases q:gI part 1 d with
  |ok k u=>rw[q] at e;cases e;exact .mk _ _ _ _ _ r
  |d8 _=>rw[q] at e;cases e
  |j=>rw[q] at e;cases e
 unfold pc cL at h
 by_cases b:s.i.is 5 hN=I
 ·rw[aN b] at h
  dsimp only at h
  split at h
  ·exact a (.inr<|.inr J) h
  ·cases h
 ·rw[a9 b] at h
  dsimp only at h
  split at h
  ·cases q:s.j.q [63] with
   |true=>rw[q] at h;exact a (.inr<|.inl J) h
   |false=>rw[q] at h;exact a (.inl J) h
  ·cases h
noncomputable def G6:E:=.cB<|.aO (.l 0) .fZ [.c (.ah [41])]
noncomputable def G7:List S:=[.ex (.aO (.l 5) .q [.ao 988 [.l 0,.l 1]]),.bQ (.cB<|.aO (.l 0) .y [.c (.ah [44])]) [.u] [],.bQ (.bI .u (.q (.y (.l 5)<|.qi 1) .cj)<|.c<|.aa 8192) [.ex (.aO (.q (.l 0) .dU) .gx [.c (.aa 1014),.q (.y (.l 5)<|.qi 1) .aJ,.u []])] []]
noncomputable def BV:List S:=[.ex (.aO (.l 0) .iV [.c (.ah [41])]),.cP (.l 0) .lD (.l 3),.cP (.l 0) .hQ (.l 4),.ex (.ao 960 [.l 0,.l 5]),.am (.ao 70 [.l 5,.l 2])]
theorem G8{t:T}(h:H[a]? =O (.af<|(b++[t]).map T.v)):f9 (.ae a) (.aa<|-(1:Nat)) H=.ok t.v H:=by
 have e:fR (-1) (b.length+1)=O b.length:=by
  unfold fR;rw[a9 (D J),aN (by lia)];exact bJ O<|by lia
 show cG ((match H[a]? with|some (.af d)=>O d|_=>U).bind λd=>(fR (-1) d.length).bind λj=>d[j]?) H=_;rw[h];show cG ((fR (-1) ((b++[t]).map T.v).length).bind λj=>((b++[t]).map T.v)[j]?) H=_;rw[c3,bx,List.length_singleton,e];show cG (((b++[t]).map T.v)[b.length]?) H=_;rw[dz,qY (by rw[c3];exact bF _),c3,p9];rfl
theorem RN{cont:List T->Sg->PR q}(hP:dX A.c A.dW n part g'.bS)(hm:n<=m)(o:i4 A.c A.H a)
  (S:∀ts W j,ts.length<=bg->(∀t∈ts,po t)->Sx A g' W j->j[a]? =O (.af<|ts.map T.v)->Jd (OX A<|cont ts W) (m+5) (.s BV [] [O (.ae A.c.ap),O (.i C),O v2,O v3,O v4,O (.ae a)] j)):∀(k f:Nat) (s:Sg) (H:Hp) (d:List T),k<=f->d.length+k<=bg->(∀t∈d,po t)->Sx A g' s H->H[a]? =O (.af<|d.map T.v)->
  Jd (OX A<|(rK part k d s).bd cont) (m+5) (.lp f G6 G7 BV [] [O (.ae A.c.ap),O (.i C),O v2,O v3,O v4,O (.ae a)] H):=by
 intro k
 induction k with
 |zero=>
  intro e e e e e e e e e;exact eK.j
 |succ k ih=>
  intro f s H d hk hb F h G
  induction f using fW with
  |zero=>exact ax ‹_+1<=0› (kQ _)
  |succ f=>
  rw[j3];refine i5<|jB J h.ps ?_
  cases z:s.i.is 5 [41] with
  |true=>rw[aN (z)];exact gA J bc λe=>S d s H (L1 hb) F h G
  |false=>
   rw[a9 (qc.mp<|z),yj];refine gA J (λe=>f1 J G<|Gu J h.ex (RG hP hm h.ps) λt E v H2 ht hv h2 Y=>?_) c5;obtain rfl:v=t.v:=hv;have hp:=RM ht;have i:∀u∈d++[t],po u:=λu N=>(eT.mp N).elim (F u) λN=>iv.mp N▸hp;have r:(d++[t]).length=d.length+1:=by rw[bx];rfl
   have w:(H2.set a<|.af<|(d++[t]).map T.v)[a]? =O (.af<|(d++[t]).map T.v):=fo<|o.at Y G;rw[show∀P:Bool->Sg->PR (List T),(cL 5 [44] E P).bd cont=cL 5 [44] E λb s=>(P b s).bd cont fromλP=>j3 ..];refine i6 J (o.at Y G) (by rw[c3];exact L1 hb) ?_;rw[show d.map T.v++[t.v]=(d++[t]).map T.v by rw[dz];rfl];refine ph J (h2.y o) (λe Q h4 Z=>bh J J ?_) λe=>cy J J<|bf J<|S _ E _ (L2 hb<|b7 r) i (h2.y o) w;have y:=o.at Z w;clear Z ht w;obtain⟨x,p0,kk,ff,pp,hf⟩:=hp;refine b5 J (G8 y) ?_;have nx:∀L B,Sx A g' L B->bT A.c Q B->Jd (OX A<|(rK part k (d++[.nd 28 [] [O (c6 8 x p0),kk,U] ff pp]) L).bd cont) (m+5) (.s [] [.lN f G6 G7 BV] [O (.ae A.c.ap),O (.i C),O v2,O v3,O v4,O (.ae a)] B):=λL B h5 M=>
    bv J (ih f L B _ (jT hk) (L2 hb<|b7 r) i h5<|o.at M y)
   clear i r
   rcases hf with rfl|rfl|rfl
   ·exact ck (v:=.aa 0) rfl rfl<|rQ rfl<|bh rfl rfl<|bf rfl<|nx _ Q h4 .refl
   ·exact ck (v:=.aa 0) J J<|rQ J<|bh J J<|bf J<|nx _ Q h4 .refl
   ·refine ck J J<|rQ J<|cy J J ?_;show Jd (OX A<|PR.bd (if E.j.ns.length<1000 then rK part k _ ⟨E.j.ts,E.j.ns++[1014]⟩ else .j) cont) _ _;split
    ·rename_i hl
     refine Gs J h4.ps (tD J<|tD (c8<|b5 J (G8 y)<|aL J J) J) hl λB p5 M=>bf J<|nx _ B (h4.go p5 M) M
    ·exact eK.j
theorem G9(t:dX c i n part g.bS)(hm:n<=m)(h:PS c i g s H):dD c i g H RT (ag (m+6) 953 [.ae c.ap,.i C] H) (pd part s):=by
 unfold pd;refine eM (A:=⟨c,i,g,H,RT⟩) J J<|dR J h<|mB J ⟨h,.refl⟩ λa H1 d a=>cX J (d.ps.i λa=>J)<|cX J (d.ps.i λa=>J)<|GI J d λH2 h2 a=>tJ J h2 λM e a=>?_;have k:=e.ps.q;have o:=vG h e.ex;refine bv J<|RN (g':={g with ai:=I,nc:=C}) t hm o (λts N j hlen f u v=>?_) (s.j.ts.length+1) hT _ _ [] ?_ ?_ (λa z=>ax z eU) (e.j _) cD
 ·refine mB J u λa P h4 w=>GI J h4 λQ x y=>tJ J x λS q B=>?_;have b:=o.at B (o.at y (o.at w v));split
  ·rename_i E
   exact dn λF=>cF (RK (m:=m+3) o f q.ps b hlen E) λT G L r=>F<|bn J G<|bn J (qq (by rw[pj];exact o.at r b) _)<|eC J J<|(q.go L r).y o
  ·exact eK.j
 ·exact aE k<|D J
 ·show 0+(s.j.ts.length+1)<=bg;unfold bg;exact L1 k
end
section
variable{j:Type}{A:ft j}{p:PR j}{c:PA}{i:List aj}{g q:Fg}{s:Sg}{H y:Hp}{m n:Nat}{u:Cf}{K:List Kf}{l:Lc}{part:bY}{X:R (Fl×Lc)->Prop}
theorem BW(b:dX c i n part g.bS)(hm:n<=m)(h:PS c i g s H)(name:List Nat)(fl p:Int):dD c i g H RT (ag (m+8) 866 [.ae c.ap,.ah name,.aa fl,.aa p] H) (gc part name fl p s):=
 eM (A:=⟨c,i,g,H,RT⟩) J J (fG J .refl (G3 b hm h) λd k v H1 a e f=>by
  obtain rfl:v=ov d:=a;refine fG J e.ex (G9 b (eN 1 hm) e.ps) λps o v H2 a h2 f=>?_;obtain rfl:v=ps.v:=a;refine fG J h2.ex (Rf b (eN 3 hm) h2.ps) λr q v t a j f=>?_;obtain rfl:v=ov r:=a;exact gY [d,O ps,r,U] J<|eC J J<|j.j _)
theorem RO(d:dX c i n part g.bS)(hm:n<=m)(h:PS c i g s H)(fl p:Int):dD c i g H RT (ag (m+6) 880 [.ae c.ap,.aa fl,.aa p] H)
  (c7 [91] s λs=>hU s λa s=>c7 [58] s λs=>(part 1 s).bd λk s=>c7 [93] s λs=>c7 [58] s λs=>(part 1 s).bd λv s=>.ok (.nd 63 a [O k,O v] fl p) s):=
 eM (A:=⟨c,i,g,H,RT⟩) J J (mB J ⟨h,.refl⟩ λb H1 e b=>BL J e λb H2 h2 b=>mB J h2 λb r f b=>mD d (eN 5 hm) J f λk t u h4 b=>mB J h4 λb w j b=>mB J j λb x o b=>mD d (eN 5 hm) J o λv y z q b=>gY [O k,O v] J<|eC J J<|q.j _)
noncomputable def RP:List S:=[.bQ (.bN (.ao 838 [.aO (.l 0) .i []])<|.b9 .lt (.l 1)<|.c<|.aa 131072) [.am (.ao 866 [.l 0,.l 3,.bI .i (.l 1) (.c<|.aa 32),.l 2])] [],.am (.ao .i [.c (.aa 99),.l 3,.af [.ao .gI [.l 0]],.l 1,.l 2])]
noncomputable def Ha(part:bY)(a:List Nat)(p flags:Int)(s:Sg):PR T:=
 if s.i.q&&decide (flags<131072) then gc part a (flags+32) p s else(gI part 1 s).bd λk s=>.ok (.nd 99 a [k] flags p) s
theorem Hb{A:ft T}(d:A.Rv=RT)(e:dX A.c A.dW n part A.g.bS)(hm:n<=m){p fl:Int}(h:Sx A A.g s H):Jd (OX A<|Ha part a p fl s) (m+9) (.s RP [] [O (.ae A.c.ap),O (.aa fl),O (.aa p),O (.ah a)] H):=by
 refine dR J h.ps<|bn J (GA s.i)<|fE J J<|kF J (λb=>?_) λb=>?_
 ·exact k8 J (λb b=>J) h.ex (by rw[d];exact BW e (eN 1 hm) h.ps a (fl+32) p)
 ·refine fG J h.ex (GK e (eN 5 hm) h.ps) λk i v H2 f h2 b=>?_;obtain rfl:v=ov k:=f;exact gY [k] J<|eC J (by rw[d];rfl)<|h2.j _
theorem RQ(b:dX c i n part g.bS)(hm:n<=m)(h:PS c i g s H)(fl:Int):dD c i g H RT (ag (m+10) 859 [.ae c.ap,.aa fl] H) (tv part fl s):=
 eM (A:=⟨c,i,g,H,RT⟩) J J (dR J h<|Q4 J ⟨h,.refl⟩ λa H1 d a=>G5 (pf:=Ha part s.i.aP s.i.aJ) J d (λa H2 h2 a=>cy J J<|fS J J<|bf J<|Hb J b hm h2) λa=>bh J J<|bf J<|Hb J b hm d)
noncomputable def Hc:List S:=[.bQ (.ao 873 [.l 0]) [.am (.ao 880 [.l 0,.l 2,.l 1])] [],.bQ (.or (.ao 852 [.l 0,.c (.ah f6)])<|.ao 852 [.l 0,.c (.ah gv)]) [.ex (.aO (.l 0) .b8 [.c (.aa 9002),.u [.c (.ah aeY)]])] [],.am (.ao 859 [.l 0,.l 2])]
noncomputable def Hd(part:bY)(p flags:Int)(s:Sg):PR T:=
 if s.q [91]&&(decide ((s.u 1).aq=1)&&(s.u 2).is 5 [58]) then
  c7 [91] s λs=>hU s λa s=>c7 [58] s λs=>(part 1 s).bd λk s=>c7 [93] s λs=>c7 [58] s λs=>(part 1 s).bd λv s=>.ok (.nd 63 a [O k,O v] flags p) s
 else if(s.y f6||s.y gv)&&(s.u 1).j then b8 9002 s
 else tv part flags s
theorem He{A:ft T}(b:A.Rv=RT)(d:dX A.c A.dW n part A.g.bS)(hm:n<=m){p fl:Int}(h:Sx A A.g s H):Jd (OX A<|Hd part p fl s) (m+10) (.s Hc [] [O (.ae A.c.ap),O (.aa p),O (.aa fl)] H):=by
 unfold Hd;rw[Bool.and_or_distrib_right];exact bn J (QU h.ps)<|kF J (λa=>k8 J (λa a=>J) h.ex (by rw[b];exact RO d (eN 4 hm) h.ps fl p)) λa=>bn J (GB h.ps _)<|dQ J (c8<|bn J (GB h.ps _)<|aL J J)<|kF J (λa=>yi J h (D J) J) λa=>k8 J (λa a=>J) h.ex (by rw[b];exact RQ d hm h.ps fl)
theorem RR(b:dX c i n part g.bS)(hm:n<=m)(h:PS c i g s H):dD c i g H RT (ag (m+11) 831 [.ae c.ap] H) (lM part s):=
 eM J J (dR J h<|jB J h<|dQ J (c8<|jB J h<|aL J J)<|kF J (λa=>k8 J (λa a=>J) .refl<|BW b (eN 2 hm) h [] 512 _) λa=>yg J h (fE J (c8<|pg J h<|bn J (GA _)<|aL J J)<|kF J (λa=>mz J h λH1 d e=>k8 J (λa a=>J) e<|BW b (eN 2 hm) d [] 1024 _) λa=>bn J (QT h _) (GU J (λa=>mz J h λH1 d e=>bf J<|He J b hm ⟨d,e⟩) λa=>bf (c':=.s Hc [] _ H) J<|He (A:=⟨c,i,g,H,RT⟩) J b hm ⟨h,.refl⟩)))
end
section
variable{u:Type}{A:ft u}{p:PR u}{c:PA}{i:List aj}{g q:Fg}{s:Sg}{H j:Hp}{m n:Nat}{F:Cf}{K:List Kf}{l:Lc}{part:bY}{X:R (Fl×Lc)->Prop}
theorem Hf{B:ft T}{k:Nat}(a:B.Rv=RT)(b:dX B.c B.dW n part B.g.bS)(hm:n<=m)(e:go F=.v (.ae B.c.ap) (.dK .be [.c (.aa k)]::K) l H)(d:∀v H,go (.v v K l H)=.fl (.am v) [] l H)(h:Sx B B.g s H):Jd (OX B<|part k s) m F:=by
 rw[<-BM (part k s)];exact mD b hm e h λt s j f y=>eC (d _ _) (by rw[a];rfl) f
theorem RU(d:dX c i n part g.bS)(hm:n<=m)(h:PS c i g s H):dD c i g H RT (ag (m+6) 932 [.ae c.ap] H) (am part s):=by
 refine eM (A:=⟨c,i,g,H,RT⟩) J J<|dR J h<|pg J h<|dQ J (c8<|bn J (BK s.i)<|aL J J)<|kF J (λa=>Hf J d (eN 5 hm) J (λa a=>J) ⟨h,.refl⟩) λa=>bn J (i7 (s.u 1) 1 _ H)<|kF J (λa=>?_) λa=>?_
 ·exact mz J h λH1 j e=>mz J j λH2 b f=>mD d (eN 5 hm) J ⟨b,e.q f⟩ λk r q o a=>qr [O k] J<|eC J J<|o.j _
 ·refine tF J h<|dQ J (c8<|bn J (BK _)<|aL J J)<|kF J (λa=>Hf J d (eN 5 hm) J (λa a=>J) ⟨h,.refl⟩) λa=>mz J h λH1 j e=>mz J j λH2 b f=>QI J ⟨b,e.q f⟩ (λa q o a=>cy J J ?_) λa=>bh J J ?_
  ·exact mD d (eN 5 hm) J o λk t u h4 a=>gY [O k] J<|eC J J<|h4.j _
  ·show Jd (OX _<|if(s.j.j.q [38]||s.j.j.q [124])=I then b8 1228 s.j.j else .ok _ s.j.j) _ _;have h2:Sx (⟨c,i,g,H,RT⟩:ft T) g s.j.j H2:=⟨b,e.q f⟩;exact jB J b<|dQ J (c8<|jB J b<|aL J J)<|kF J (λa=>yi J h2 (D J) J) λa=>gY [U] J<|eC J J<|h2.j _
noncomputable def RV:List S:=[.i 5 (.ao 939 [.l 1]),.i 6 (.ao 953 [.l 1,.c (.i C)]),.ex (.aO (.l 1) .iV [.c (.ah fB)]),.i 7 (.aO (.l 1) .be [.c (.aa 11)]),.am (.ao .i [.c (.aa 27),.c (.ah []),.af [.l 5,.l 6,.l 7,.c .none],.l 4,.l 3])]
theorem Hh{A:ft T}(i:A.Rv=RT)(d:dX A.c A.dW n part A.g.bS)(hm:n<=m){j:V}{p fl:Int}(h:Sx A A.g s H):Jd (OX A<|(kZ part s).bd λa s=>(pd part s).bd λps s=>c7 fB s λs=>(part 11 s).bd λr s=>.ok (.nd 27 [] [a,O ps,O r,U] fl p) s) (m+7) (.s RV [] [O j,O (.ae A.c.ap),O .none,O (.aa p),O (.aa fl),U,U,U] H):=
 fG J h.ex (G3 d hm h.ps) λa o v H1 e f b=>by
  obtain rfl:v=ov a:=e;refine fG J f.ex (G9 d (eN 1 hm) f.ps) λps q v H2 e h2 b=>?_;obtain rfl:v=ps.v:=e;exact mB J h2 λb t k b=>mD d (eN 7 hm) J k λr u w h4 b=>gY [a,O ps,O r,U] J<|eC J (by rw[i];rfl)<|h4.j _
theorem RW(a:dX c i n part g.bS)(hm:n<=m)(h:PS c i g s H):dD c i g H RT (ag (m+8) 894 [.aQ .tj [],.ae c.ap,.none] H) (rL part s):=by
 unfold rL;exact eM (A:=⟨c,i,g,H,RT⟩) J J<|dR J h<|BI J ⟨h,.refl⟩ (λb H1 d b=>cy J J<|bf J<|Hh J a hm d) λb=>bh J J<|bf J<|Hh J a hm ⟨h,.refl⟩
noncomputable def Hi:E:=.cB<|.aO (.l 0) .fZ [.c (.ah [125])]
noncomputable def Hj:List S:=[.ex (.aO (.l 2) .q [.ao 831 [.l 0]]),.bQ (.cB<|.aO (.l 0) .y [.c (.ah [44])]) [.ex (.aO (.l 0) .x5 [])] []]
noncomputable def BY:List S:=[.ex (.aO (.l 0) .j []),.am (.ao 70 [.l 2,.l 1])]
theorem RX{a b:Type}(s:Sg)(pf:Sg->PR a)(f:a->Sg->PR b):(qn s pf).bd f=qn s λs=>(pf s).bd f:=by
 unfold qn cL;rw[j3];rw[j3,j3,j3,j3,BQ,BQ]
theorem RY{cont:List T->Sg->PR u}(M:dX A.c A.dW n part q.bS)(hm:n<=m)(o:i4 A.c A.H a)
  (N:∀ts F j,Sx A q F j->j[a]? =O (.af<|ts.map T.v)->Jd (OX A<|cont ts F) (m+11) (.s BY [] [O (.ae A.c.ap),O v1,O (.ae a)] j)):∀(k f:Nat) (s:Sg) (H:Hp) (d:List T),k<=f->d.length+k<=bg->Sx A q s H->H[a]? =O (.af<|d.map T.v)->
  Jd (OX A<|(nk part k d s).bd cont) (m+11) (.lp f Hi Hj BY [] [O (.ae A.c.ap),O v1,O (.ae a)] H):=by
 intro k
 induction k with
 |zero=>
  intro e e e e e e e e;exact eK.j
 |succ k P=>
  intro f s H d Q hb h w
  induction f using fW with
  |zero=>exact ax ‹_+1<=0› (kQ _)
  |succ f=>
  rw[j3];refine i5<|jB J h.ps ?_
  cases z:s.i.is 5 [125] with
  |true=>rw[aN (show s.q [125]=I from z)];exact gA J bc λe=>N d s H h w
  |false=>
   rw[a9 (qc.mp<|z),yj];refine gA J (λe=>f1 J w<|fG J h.ex (RR M hm h.ps) λt G v H2 S h2 L=>?_) c5;obtain rfl:v=t.v:=S;have x:(H2.set a<|.af<|(d++[t]).map T.v)[a]? =O (.af<|(d++[t]).map T.v):=fo<|o.at L w;have nx:∀r i,Sx A q r i->bT A.c (H2.set a<|.af<|(d++[t]).map T.v) i->Jd (OX A<|(nk part k (d++[t]) r).bd cont) (m+11) (.s [] [.lN f Hi Hj BY] [O (.ae A.c.ap),O v1,O (.ae a)] i):=λr i y B=>
    bv J (P f r i _ (jT Q) (by rw[bx];simp only[gS,lj];exact L1 hb) y<|o.at B x)
   rw[show∀E:Bool->Sg->PR (List T),(cL 5 [44] G E).bd cont=cL 5 [44] G λb s=>(E b s).bd cont fromλE=>j3 ..];refine i6 J (o.at L w) (by rw[c3];exact L1 hb) ?_;rw[show d.map T.v++[t.v]=(d++[t]).map T.v by rw[dz];rfl];refine ph J (h2.y o) (λe W h4 Y=>bh J J<|bf J<|nx _ W h4 Y) λe=>cy J J ?_;rw[RX];exact QZ J (h2.y o) λr i y B=>bf J<|nx _ i y B
theorem Hk(f:dX c i n part g.bS)(hm:n<=m)(h:PS c i g s H):dD c i g H RT (ag (m+12) 824 [.ae c.ap] H) (gK part s):=by
 unfold gK;refine eM (A:=⟨c,i,g,H,RT⟩) J J<|dR J h<|mB J ⟨h,.refl⟩ λk H1 a k=>?_;have b:=a.ps.q;have o:=vG h a.ex;refine bv J<|RY f hm o (λts t j d q=>?_) (s.j.ts.length+1) hT _ _ [] ?_ ?_ (a.j _) cD
 ·exact mz J d.ps λu r e=>bn J (qq (by rw[pj];exact o.at e q) _)<|eC J J<|(d.go r e).y o
 ·exact aE b<|D J
 ·show 0+(s.j.ts.length+1)<=bg;unfold bg;exact L1 b
theorem RZ(b:dX c i n part g.bS)(hm:n<=m)(h:PS c i g s H):dD c i g H RT (ag (m+13) 628 [.ae c.ap] H) (j0 part s):=
 eM (A:=⟨c,i,g,H,RT⟩) J J (cX J (h.i λa=>J)<|eg J (λa=>bn J (QX h)<|kF J (λa=>cX J (h.i λa=>J)<|b5 J J<|k8 J (λa a=>J) .refl<|RW b (eN 4 hm) h) λa=>k8 J (λa a=>J) .refl (Rj (λs H h=>Rk (λs H h=>Rl (λs H h=>Rt b hm h) h) h) h)) c5)
theorem R0(h:PS c i g s H)(t:T):∃b,ag (m+3) 635 [.ae c.ap,t.v] H=.ok (.i b) H:=by
 obtain⟨k,a,ks,f,p⟩:=t
 cases q:decide (k=27)||s.i.cC with
 |true=>exact⟨C,cR J J<|dQ J (c8<|dR J h<|aL J J)<|cy J q<|aL J J⟩
 |false=>exact⟨_,cR J J<|dQ J (c8<|dR J h<|aL J J)<|bh J q<|yg J h<|aL J J⟩
theorem R1(f:dX c i n part g.bS)(hm:n<=m)(h:PS c i g s H):dD c i g H RT (ag (m+14) 621 [.ae c.ap] H) (j0 part s):=by
 rw[<-BM (j0 part s)];refine eM (A:=⟨c,i,g,H,RT⟩) J J<|fG J .refl (RZ f hm h) λt k v H1 j a d=>?_;obtain rfl:v=t.v:=j;obtain⟨b,e⟩:=R0 a.ps t;refine cX J (a.ps.i λd=>J)<|dQ J (c8<|bn J e<|dQ J (c8<|cX J (a.ps.i λd=>J)<|aL J J)<|aL J J)<|cy J ?_ (eC J J a);rw[uL,uL]
end
noncomputable def rR:Option T->Nat
 |none=>1
 |some t=>sz t
noncomputable def yw:Option T->Nat
 |none=>0
 |some t=>ht t
theorem Hl(t:T):1<=sz t:=by cases t;exact hG ..
theorem Hm:∀o:Option T,1<=rR o
 |none=>bF _
 |some t=>Hl t
theorem R2(o:Option T)(r:List<|Option T):fm (o::r)=rR o+fm r:=by cases o;exact km ..;rfl
theorem R3(o:Option T)(r:List<|Option T):fk (o::r)=max (yw o) (fk r):=by cases o;exact(EQ _).symm;rfl
theorem Hn:∀{ks:List<|Option T},o∈ks->yw o<=fk ks
 |p::r,h=>by
  rw[R3]
  rcases d2.mp h with rfl|h
  ·exact Na ..
  ·exact aE (Hn h)<|acZ ..
noncomputable def tN(e:Option T×Nat):V:=.u [ov e.1,.aa (e.2:Int)]
noncomputable def k9:List (Option T×Nat)->Nat
 |[]=>0
 |e::a=>rR e.1+k9 a
theorem BZ:∀a b:List (Option T×Nat),k9 (a++b)=k9 a+k9 b
 |[],b=>(c9 _).symm
 |e::a,b=>by show rR e.1+k9 (a++b)=_;rw[BZ a b,<-kn];rfl
theorem Ho(a:Nat):∀ks:List (Option T),k9 (ks.map λo=>(o,a))=fm ks
 |[]=>rfl
 |o::r=>by rw[R2,<-Ho a r];rfl
theorem Hr:∀a:List (Option T×Nat),a.length<=k9 a
 |[]=>bF _
 |e::a=>by rw[gS,km];exact gq (Hm e.1)<|Hr a
section
variable{m:Nat}{y:Cf}{K:List Kf}{l:Lc}{H F:Hp}{X:R (Fl×Lc)->Prop}{u v:V}
theorem R4(e:go y=.v (.ae a) (.vt n t b r::K) l H)(h:H[a]? =O (.af c))(d:c≠[]->Jd X m (.s b (.lN n t b r::K) l H))(f:c=[]->Jd X m (.s r K l H)):Jd X m y:=by
 refine bv e ?_;have ht:dC (.ae a) H=O (!c.isEmpty):=by show(match H[a]? with|some (.af c)=>O (!c.isEmpty)|_=>U)=_;rw[h]
 induction c using aW with
 |nil=>exact bf (by show R.i (cG (dC (.ae a) H) H) _=_;rw[ht];rfl)<|f J
 |cons x c=>exact bf (by show R.i (cG (dC (.ae a) H) H) _=_;rw[ht];rfl)<|d ju
theorem vJ(e:go y=.v v (.iW is r::K) l H)(hs:hR v H=O a)(h:lJ is a l=O b)(q:Jd X m<|.s r K b H):Jd X m y:=
 bv e (bf (by
  show R.i (match hR v H with|some a=>(match lJ is a l with|some l=>aZ (ag m) r l H|.none=>.j)|.none=>.j) _=_;rw[hs];dsimp only;rw[h];rfl) q)
theorem yx(e:go y=.v (.ae a) (.dK .hO []::K) l H)(h:H[a]? =O (.af<|b++[u]))(q:Jd X m<|.v u K l<|H.set a<|.af b):Jd X m y:=
 bv e (bf (by
  have hp:hS (.ae a) .hO [] H=.ok u (H.set a<|.af b):=by
   show(match H[a]? with|some (.af b)=>(match b.getLast? with|some u=>R.ok u (H.set a<|.af b.dropLast)|.none=>.j)|_=>.j)=_;rw[h];dsimp only;rw[List.getLast?_concat,ac0]
  show R.i (match(match H[a]? with|some (.aQ c _)=>O c|_=>.none) with
   |some c=>_
   |.none=>if(match H[a]? with|some (.af _)=>I|_=>C)=I then hS (.ae a) .hO [] H else .j) _=_
  rw[h];rw[aN J,hp];rfl) q)
theorem R5{i:Nat}(e:go y=.s (.y i x b::r) K l H)(d:az (ag m) x l H=.ok (.af c) H)(f:dm (λv l H=>aZ (ag m) b (l.set i<|O v) H) c l H=.ok (.aU,a) F)(q:Jd X m<|.s r K a F):Jd X m y:=
 bv e (bf (by
  have e1:f0 (ag m) (.y i x b) l H=.ok (.aU,a) F:=by
   show R.i (az (ag m) x l H) _=_;rw[d];exact f
  show R.i (R.i (f0 (ag m) (.y i x b) l H) _) _=_;rw[e1];rfl) q)
noncomputable def yy:List S:=[.ex (.aO (.l 2) .q [.u [.l 3,.bI .i (.l 5) (.c<|.aa 1)]])]
noncomputable def R6:List S:=[.iW [4,5] (.aO (.l 2) .hO []),.bQ (.b9 .j (.l 4)<|.c .none) [.q] [],.bQ (.b9 .gt (.l 5)<|.c<|.aa 160) [.ex (.aO (.q (.l 0) .dU) .gx [.c (.aa 9001),.q (.l 4) .aJ,.u []]),.j] [],.y 3 (.q (.l 4) .bO) yy]
variable{j q B:V}{i:Hp}
theorem R7{lv:Nat}:∀(ks:List<|Option T) (a:List<|Option T×Nat) (c:Option V),a.length+ks.length<=bg->
  ∃b,dm (λv l H=>aZ (ag m) yy (l.set 3<|O v) H) (fj ks) [O j,O q,O (.ae i.length),c,O B,O (.aa lv)] (i++[.af (a.map tN)])=.ok (.aU,[O j,O q,O (.ae i.length),b,O B,O (.aa lv)]) (i++[.af ((a++ks.map λo=>(o,lv+1)).map tN)]):=by
 intro ks
 induction ks with
 |nil=>
  intro a c h;exact⟨c,by rw[List.map_nil,cM];rfl⟩
 |cons o ks g=>
  intro a c d;rw[gS] at d;have f:aZ (ag m) yy [O j,O q,O (.ae i.length),O (ov o),O B,O (.aa lv)] (i++[.af (a.map tN)])=.ok (.aU,[O j,O q,O (.ae i.length),O (ov o),O B,O (.aa lv)]) (i++[.af ((a++[(o,lv+1)]).map tN)]):=
   qs (f1 J cD<|i6 J cD (by rw[c3];exact L1 d) (by rw[iA];exact aL J (by rw[dz];rfl)))
  obtain⟨b,e⟩:=g (a++[(o,lv+1)]) (O<|ov o) (by rw[bx];simp only[gS,lj];exact L1 d);refine⟨b,?_⟩;show(match aZ (ag m) yy [O j,O q,O (.ae i.length),O (ov o),O B,O (.aa lv)] (i++[.af (a.map tN)]) with|.ok (.aU,l) H=>_|.ok (.q,l) H=>_|.ok (.u,l) H=>_|.ok (.am v,l) H=>_|_=>_)=_;rw[f];refine e.trans ?_;rw[b6];rfl
theorem R8(F:∀l o,X<|.ok (.aU,l)<|i++[o]):∀(k:Nat) (d:List<|Option T×Nat) (g y z:Option V),k9 d<k->k9 d<=bg->(∀e∈d,e.2+yw e.1<=161)->Jd X m (.lp k (.l 2) R6 [] [] [O j,O q,O (.ae i.length),g,y,z]<|i++[.af (d.map tN)]):=by
 intro k
 induction k with
 |zero=>exactλ_ _ _ _ b=>absurd b<|Nb _
 |succ k A=>
  intro d g y z b hb p;refine i5<|R4 J cD (λh=>?_) λh=>aL J<|F _ _
  rcases Nc d with rfl|⟨a,⟨o,f⟩,rfl⟩
  ·exact absurd rfl h
  ·rw[Ah] at*;have r:=p (o,f)<|dj _<|iv.mpr rfl;rw[BZ] at b hb;have hpos:=Hm o;have b:k9 a+rR o<k+1:=b;have hb:k9 a+rR o<=bg:=hb;refine yx J (by rw[dz];exact cD)<|vJ J J J ?_;rw[iA]
   induction o using gD with
   |none=>exact cy J J<|bv J<|A a g (O .none) (O<|.aa f) (L2 hpos b) (L1 hb) λe he=>p e<|fh _ he
   |some t=>
    obtain⟨kd,B,ks,E,q0⟩:=t;have c:rR (O<|.nd kd B ks E q0)=fm ks+1:=J;have s:yw (O<|.nd kd B ks E q0)=fk ks+1:=J;have w:k9 (a++ks.map λo=>(o,f+1))=k9 a+fm ks:=by rw[BZ,Ho]
    have hlen:=Hr<|a++ks.map λo=>(o,f+1);rw[bx,c3] at hlen;obtain⟨x,G⟩:=R7 (lv:=f) ks a g<|L4 hb (b7 c.symm) (b7 w) hlen;refine bh J J<|bh (b:=decide (160<(f:Int))) J (decide_eq_false<|by lia)<|R5 J J G<|bv J<|A _ x _ _ (L3 b (b7 c.symm)<|b7 w) (L3 hb (b7 c.symm)<|b7 w) λe he=>?_
    rcases eT.mp he with he|he
    ·exact p e<|fh _ he
    ·refine aB (eh.mp he) ?_;rintro o L rfl;exact L3 r (b7 s.symm)<|Hn L
theorem R9{t:T}(a:ht t<=150)(hsz:sz t<=4000000)(H:Hp)(j:V):∃o,ag (m+1) 516 [j,t.v] H=.ok .none (H++[o]):=by
 have q:Jd (λr=>∃o,r.i ef=.ok .none (H++[o])) m (.s Gd [] [O j,O t.v,U,U,U,U] H):=
  bv J (R8 (λl o=>⟨o,J⟩) hT [(O t,1)] U U U (by show sz t+0<hT;unfold hT;exact L1 hsz) (by show sz t+0<=bg;unfold bg;exact L1 hsz) λe b=>by rw[iv.mp b];show 1+ht t<=161;exact L1 a)
 rw[qp m J J];exact q
end
section
variable{c:PA}{i:List aj}{g:Fg}{s:Sg}{H:Hp}{m n:Nat}
noncomputable def Hs:List S:=[.bQ (.b9 .eq (.q (.l 0) .bS)<|.c<|.aa 1) [.ex (.ao 516 [.l 0,.l 2])] [],.ex (.aO (.l 0) .up []),.am (.l 2)]
theorem B0{A:ft T}{t:T}(l:A.Rv=RT)(h:Sx A {A.g with bS:=A.g.bS+1} s H):Jd (OX A<|if ht t<=150/\sz t<=4000000 then .ok t s else .j) (m+1) (.v t.v [.i 2 Hs] [O (.ae A.c.ap),O (.aa k),j] H):=by
 split
 ·rename_i f
  have a:∀H1,Sx A {A.g with bS:=A.g.bS+1} s H1->Jd (OX A<|.ok t s) (m+1) (.s (Hs.drop 1) [] [O (.ae A.c.ap),O (.aa k),O t.v] H1):=λH1 b=>by
   refine dn λd=>cF (QS (m:=m) b.ps) λH2 e2 p q=>d<|dM J b.ps J J e2<|eC J (by rw[l];rfl) ⟨?_,b.ex.q q⟩;rw[show A.g={bS:=A.g.bS+1-1,nc:=A.g.nc,ai:=A.g.ai} by rw[Int.add_sub_cancel]];exact p
  refine cX J (h.ps.i λi=>J)<|ek J (λi=>?_) λi=>bf J<|a H h;refine dn λd=>?_;obtain⟨o,e⟩:=R9 f.1 f.2 H<|.ae A.c.ap;exact d<|bn J e<|bf J<|a _<|h.j _
 ·exact eK.j
theorem Sb:∀(f:Nat) (d:Int),0<=d->d+f<=40->dX c i (20*f) (be f) d:=by
 intro f
 induction f with
 |zero=>
  intro a a a;exactλm a k g s H a a=>eK.j
 |succ f j=>
  intro d u hd;intro m hm k g s H hg h;refine dn λr=>?_;subst hg;obtain⟨o,rfl,b⟩:∃o,m=o+20/\20*f<=o:=aD (m-20) (by lia)<|by lia
  have j:=j (g.bS+1) (by lia)<|by lia
  refine cF (QR (m:=o+18) h<|by lia) λH1 e1 e p=>r ?_;unfold Mine.be;split
  ·exact eM (A:=⟨c,i,g,H,RT⟩) J J<|cX J (h.i λa=>J)<|bh J J<|dM J h J J e1<|bh J J<|cX J (e.i λa=>J)<|b5 J J (fG J p (eM (A:=⟨c,i,{g with bS:=g.bS+1},H1,RT⟩) J J<|k8 J (λa a=>J) .refl<|R1 j (eN 4 b) e) λt q v H2 l h2 a=>by
    rw[l];exact B0 J h2)
  ·exact eM (A:=⟨c,i,g,H,RT⟩) J J<|cX J (h.i λa=>J)<|bh J J<|dM J h J J e1<|bh J J<|cX J (e.i λa=>J)<|b5 J J (fG J p (eM (A:=⟨c,i,{g with bS:=g.bS+1},H1,RT⟩) J J<|k8 J (λa a=>J) .refl<|Hk j (eN 6 b) e) λt q v H2 l h2 a=>by
    rw[l];exact B0 J h2)
  ·exact eM (A:=⟨c,i,g,H,RT⟩) J J<|cX J (h.i λa=>J)<|bh J J<|dM J h J J e1<|bh J J<|cX J (e.i λa=>J)<|b5 J J (fG J p (eM (A:=⟨c,i,{g with bS:=g.bS+1},H1,RT⟩) J J<|k8 J (λa a=>J) .refl<|RU j (eN 12 b) e) λt q v H2 l h2 a=>by
    rw[l];exact B0 J h2)
  ·exact eK.j
theorem Ht(a:f<=16)(hm:20*f<=m)(hd:g.bS=0)(h:PS c i g s H):dD c i g H RT (ag (m+12) 824 [.ae c.ap] H) (gK (Mine.be f) s):=
 Hk (Sb f g.bS (by lia)<|by lia) hm h
end
noncomputable def nD:List E->Option (List V)
 |[]=>O []
 |.c v::r=>(nD r).map (v::·)
 |_=>U
noncomputable def vK(v:V)(a b d:Cf):Cf:=match v with
 |.i true=>a
 |.i false=>b
 |_=>d
noncomputable def yz(r:R V)(K:List Kf)(l:Lc)(d:Cf):Cf:=match r with
 |.ok w H=>.v w K l H
 |_=>d
noncomputable def Sc(o:f7)(x y:V)(H:Hp):R V:=match x,y with
 |.aa i,.aa j=>fQ o (.aa i) (.aa j) H
 |_,_=>.j
noncomputable def Hu(v:V)(f:Kf)(K:List Kf)(l:Lc)(H:Hp):Cf:=match f with
 |.bQ a b r=>vK v (.s a (.j r::K) l H) (.s b (.j r::K) l H)<|.v v (.bQ a b r::K) l H
 |.bz a b=>vK v (.e a K l H) (.e b K l H)<|.v v (.bz a b::K) l H
 |.bN b=>vK v (.e b K l H) (.v (.i C) K l H)<|.v v (.bN b::K) l H
 |.or b=>vK v (.v (.i I) K l H) (.e b K l H)<|.v v (.or b::K) l H
 |.bi b c []=>yz (ga b (c++[v]) H) K l<|.v v (.bi b c []::K) l H
 |.tw u=>yz (f9 u v H) K l<|.v v (.tw u::K) l H
 |.nq o x=>yz (Sc o x v H) K l<|.v v (.nq o x::K) l H
 |f=>Bw v f K l H
noncomputable def B3(c:Cf):Cf:=match c with
 |.v v (f::K) l H=>Hu v f K l H
 |.v v [] l H=>.v v [] l H
 |.e (.dct ks d) K l H=>match nD ks,nD d with
  |some a,O b=>.v (.dct<|a.zip b) K l H
  |_,_=>.e (.dct ks d) K l H
 |.e e K l H=>tA e K l H
 |.s [] K l H=>.fl .aU K l H
 |.s (s::r) K l H=>Bx s r K l H
 |.fl y K l H=>Gh y K l H
 |.ao f d K l H=>.ao f d K l H
 |.lp n t b r K l H=>.lp n t b r K l H
noncomputable def vL:Nat->Cf->Cf
 |0,c=>c
 |n+1,c=>vL n<|B3 c
section
variable{run:fi}
theorem B4{r r':R V}{K:List Kf}(h:d4 run d=r'.i (ap run K l))(e:∀w H,r=.ok w H->r'=.ok w H):d4 run (yz r K l d)=d4 run d:=by
 induction r using R.casesOn with
 |ok w H=>rw[h,e w H J];rfl
 |q H=>rfl
 |j=>rfl
theorem yA(c:v=.i I->d4 run d=d4 run a)(h2:v=.i C->d4 run d=d4 run b):d4 run (vK v a b d)=d4 run d:=by
 induction v using V.casesOn with
 |i x=>cases x;exact(h2 J).symm;exact(c J).symm
 |_=>rfl
theorem Se(v:V)(f:Kf)(K:List Kf)(l:Lc)(H:Hp):d4 run (Hu v f K l H)=d4 run (.v v (f::K) l H):=by
 have d:=Gj (run:=run) v f K l H
 induction f using Kf.casesOn with
 |bQ a b r=>exact yA (λh=>by rw[h];rfl) λh=>by rw[h];rfl
 |bz a b=>exact yA (λh=>by rw[h];rfl) λh=>by rw[h];rfl
 |bN b=>exact yA (λh=>by rw[h];rfl) λh=>by rw[h];rfl
 |or b=>exact yA (λh=>by rw[h];rfl) λh=>by rw[h];rfl
 |bi b k g=>induction g using aW with
  |nil=>exact B4 J λc c h=>h
  |cons e g=>exact d
 |tw u=>exact B4 J λc c h=>h
 |nq o x=>
  refine B4 J λw m h=>?_
  induction x using V.casesOn with
  |aa i=>induction v using V.casesOn with
   |aa j=>exact h
   |_=>cases h
  |_=>cases h
 |_=>exact d
theorem Hv:∀{b:List E} {a:List V},nD b=O a->cu run b l H=.ok a H:=by
 intro r
 induction r with
 |nil=>
  intro a;intro h
  cases h;rfl
 |cons e r d=>
  intro a;intro h
  induction e using E.casesOn with
  |c v=>
   have h:(nD r).map (v::·)=O a:=h
   cases q:nD r with
   |none=>rw[q] at h;exact ba h
   |some f=>
    rw[q] at h;cases h;show R.i (cu run r l H) _=_;rw[d q];rfl
  |_=>exact ba h
theorem Sf(c:Cf):d4 run (B3 c)=d4 run c:=by
 induction c using Cf.casesOn with
 |v v K l H=>induction K using aW with|nil=>rfl|cons f K=>exact Se v f K l H
 |s r K l H=>induction r using aW with|nil=>rfl|cons s r=>exact Gk s r K l H
 |fl y K l H=>exact Gl<|.fl y K l H
 |e e K l H=>
  have g:=Gi (run:=run) e K l H
  cases e with
  |dct ks d=>
   show d4 run (match nD ks,nD d with|some a,O b=>.v (.dct<|a.zip b) K l H|_,_=>.e (.dct ks d) K l H)=_
   cases h:nD ks with
   |none=>rfl
   |some a=>cases h2:nD d with
    |none=>rfl
    |some b=>
     show _=R.i (R.i (cu run ks l H) λks H=>R.i (cu run d l H) λd H=>R.ok (V.dct<|ks.zip d) H) (ap run K l);rw[Hv h];show _=R.i (R.i (cu run d l H) λd H=>R.ok (V.dct<|a.zip d) H) (ap run K l);rw[Hv h2];rfl
  |_=>exact g
 |_=>rfl
theorem Si:∀(n:Nat) (c:Cf),d4 run (vL n c)=d4 run c:=by
 intro n
 induction n with
 |zero=>
  intro b;exact J
 |succ n a=>
  intro c;exact(a<|B3 c).trans<|Sf c
end
theorem cp(n:Nat){X:R (Fl×Lc)->Prop}(e:vL n c=a)(h:Jd X m a):Jd X m c:=by
 unfold Jd at h⊢;rw[<-Si n c];rw[<-e] at h;exact h
noncomputable def Po{B:Type}(p:PR B)(Q:B->Sg->Prop):Prop:=match p with
 |.ok a s=>Q a s
 |_=>True
section
variable{B F:Type}{Q:B->Sg->Prop}{G:F->Sg->Prop}{s:Sg}{k:Int}{x:List Nat}
theorem Po.bd{p:PR B}{q:B->Sg->PR F}(h:Po p Q)(b:∀a s,Q a s->Po (q a s) G):Po (p.bd q) G:=by
 induction p using PR.casesOn with
 |ok a s=>exact b a s h
 |d8 ns=>exact dr
 |j=>exact dr
theorem Po.au{p:PR B}{b:B->Sg->Prop}(h:Po p Q)(e:∀a s,Q a s->b a s):Po p b:=by
 induction p using PR.casesOn with
 |ok a s=>exact e a s h
 |d8 ns=>exact dr
 |j=>exact dr
theorem Po.cL{f:Bool->Sg->PR B}(b:s.i.is k x=I->Po (f I s.j) Q)(h2:Po (f C s) Q):Po (cL k x s f) Q:=by
 unfold Mine.cL;split
 ·exact b<|by assumption
 ·exact h2
theorem Po.c7{f:Sg->PR B}(b:s.i.is 5 x=I->Po (f s.j) Q):Po (c7 x s f) Q:=by
 unfold Mine.c7 b8;split
 ·exact b<|by assumption
 ·split<;>exact dr
theorem Po.hU{f:List Nat->Sg->PR B}(b:s.i.aq=1->Po (f s.i.aP s.j) Q):Po (hU s f) Q:=by
 unfold Mine.hU b8;split
 ·exact b<|by assumption
 ·split<;>exact dr
theorem Po.b8{n:Int}:Po (b8 n s:PR B) Q:=by
 unfold Mine.b8;split<;>exact dr
theorem Po.lK{n:Int}{f:Sg->PR B}(h:∀ns,Po (f ⟨s.ts,ns⟩) Q):Po (lK b n s f) Q:=by
 unfold Mine.lK;split
 ·split
  ·exact h _
  ·exact dr
 ·exact h s.ns
theorem Po.bz{c:Prop}[Decidable c]{p q:PR B}(b:c->Po p Q)(h2:¬c->Po q Q):Po (if c then p else q) Q:=by
 split
 ·exact b<|by assumption
 ·exact h2<|by assumption
end
noncomputable def rT(t:aj):Bool:=decide (t.aP=[40])&&(decide (t.aq=5)||decide (t.aq=2))
noncomputable def qt(t:aj):Bool:=t.is 5 [91]
noncomputable def cl(ts:List aj):Nat:=ts.countP rT
noncomputable def cb(ts:List aj):Nat:=ts.countP qt
structure Le(s u:Sg):Prop where
 l:cl u.ts<=cl s.ts
 b:cb u.ts<=cb s.ts
 n:u.ts.length<=s.ts.length
theorem yB(t:aj)(r:List aj):cl (t::r)=cl r+if rT t then 1 else 0:=Ai
theorem rU(t:aj)(r:List aj):cb (t::r)=cb r+if qt t then 1 else 0:=Ai
section
variable{s u:Sg}{k:Int}{x:List Nat}
theorem Le.refl:Le s s:=⟨bF _,bF _,bF _⟩
theorem Le.q{y:Sg}(a:Le s u)(b:Le u y):Le s y:=⟨aE b.l a.l,aE b.b a.b,aE b.n a.n⟩
structure Sj(s:Sg):Prop where
 n:s.j.ts.length+1=s.ts.length
 l:cl s.j.ts+(if rT s.i then 1 else 0)=cl s.ts
 b:cb s.j.ts+(if qt s.i then 1 else 0)=cb s.ts
theorem yC(h:s.i.aq≠0):Sj s:=by
 obtain⟨ts,ns⟩:=s
 induction ts using aW with
 |nil=>exact ax J h
 |cons t r=>
  have e:Sg.j ⟨t::r,ns⟩=⟨r,ns⟩:=a9 h;exact⟨bJ (λs:Sg=>s.ts.length+1) e,va e (yB t r).symm,va e (rU t r).symm⟩
theorem pq{t:aj}(h:t.is k x=I):t.aq=k/\t.aP=x:=⟨D (ec.mp h).1,D (ec.mp h).2⟩
theorem eO:Le s s.j:=by
 by_cases h:s.i.aq=0
 ·rw[show s.j=s from aN h];exact .refl
 ·have:=yC h;exact⟨Nd<|b7 this.l,Nd<|b7 this.b,Nd<|b7 this.n⟩
theorem Le.bz{c:Prop}[Decidable c]:Le s (if c then s.j else s):=iteInduction (λb=>eO) λb=>.refl
theorem Po.i{B:Type}{Q:B->Sg->Prop}{F:Bool->Sg->PR B}(go:∀b e,Le s e->Po (F b e) Q):Po (Mine.cL k x s F) Q:=Po.cL (λg=>go _ _ eO) (go _ _ .refl)
theorem ne{j k:Int}{b:Prop}(h:j=k)(e:(j==k)=C):b:=by
 rw[h,beq_self_eq_true] at e;exact c5 e
theorem qu(h:s.i.is k x=I)(b:(k==0)=C):s.i.aq≠0:=λe=>by
 rw[(pq h).1.symm.trans e] at b;exact c5 b
theorem Hw(h:s.i.aq=1):s.i.aq≠0:=λe=>ne (h.symm.trans e) J
end
mutual
noncomputable def pn:T->Nat
 |.nd k _ ks _ _=>mE ks+if k=27∨k=98 then 1 else 0
noncomputable def mE:List (Option T)->Nat
 |[]=>0
 |none::r=>mE r
 |some t::r=>pn t+mE r
end
noncomputable def nE(t:T):Prop:=t.aq≠27/\t.aq≠83
noncomputable def la(t:T):Prop:=t.aq≠27/\t.aq≠83/\t.aq≠84
noncomputable def yD(k:Int):Nat:=if k=27 then 1 else if k=83 then 2 else if k=84 then 3 else if k=85 then 4 else if k=98 then 5 else 0
theorem rV{k:Int}{a:List Nat}{ks:List<|Option T}{f p:Int}(h:(yD k==0||Nat.ble 4 (yD k))=I):la (.nd k a ks f p):=⟨λe=>by rw[show k=27 from e] at h;exact bc h,λe=>by rw[show k=83 from e] at h;exact bc h,λe=>by rw[show k=84 from e] at h;exact bc h⟩
theorem Sl{t:T}(h:la t):nE t:=⟨h.1,h.2.1⟩
noncomputable def B5(k:Int)(ks:List<|Option T):Prop:=(k=83->∀o∈ks,∀t,o=O t->nE t)/\(k=84∨k=85->∀o∈ks,∀t,o=O t->la t)/\(k=98->∃t,ks=[O t])
mutual
noncomputable def tP:T->Prop
 |.nd k _ ks _ _=>nF ks/\B5 k ks
noncomputable def nF:List (Option T)->Prop
 |[]=>True
 |none::r=>nF r
 |some t::r=>tP t/\nF r
end
structure In(h:Nat)(s:Sg)(t:T)(u:Sg):Prop where
 l:pn t+cl u.ts<=cl s.ts
 b:ht t+cb u.ts<=h+cb s.ts
 n:sz t+1+5*u.ts.length<=5*s.ts.length
 m:cb u.ts<=cb s.ts
 p:tP t
structure Ik(h d c:Nat)(s:Sg)(ks:List (Option T))(u:Sg):Prop where
 l:mE ks+(d+cl u.ts)<=cl s.ts
 b:fk ks+cb u.ts<=h+cb s.ts
 n:fm ks+(c+5*u.ts.length)<=9+5*s.ts.length
 m:cb u.ts<=cb s.ts
 p:nF ks
theorem eJ{B:Type}{M:List (Option T)->B}{op:B->B->B}(as:∀a b c,op (op a b) c=op a (op b c))(hc:∀o r,M (o::r)=op (M [o]) (M r))(z:∀a,a=op (M []) a)(o:Option T)(ks:List<|Option T):M (ks++[o])=op (M ks) (M [o]):=by
 induction ks with
 |nil=>exact z _
 |cons q r e=>exact(hc q _).trans<|(bJ (op<|M [q]) e).trans<|(as ..).symm.trans<|bJ (λx=>op x<|M [o]) (hc q r).symm
theorem B6(o:Option T)(r:List<|Option T):mE (o::r)=mE [o]+mE r:=o.casesOn (c9 _).symm λt=>J
theorem Hx(o:Option T)(r:List<|Option T):fm (o::r)=fm [o]+fm r:=o.casesOn (km _ 1) λt=>J
theorem Hy(o:Option T)(r:List<|Option T):fk (o::r)=max (fk [o]) (fk r):=o.casesOn (EQ _).symm λt=>bJ (max · _) (Ng _).symm
theorem B7(o:Option T)(r:List<|Option T):nF (o::r)↔nF [o]/\nF r:=o.casesOn ⟨λh=>⟨bk,h⟩,λh=>h.2⟩ λt=>⟨λh=>⟨⟨h.1,bk⟩,h.2⟩,λh=>⟨h.1.1,h.2⟩⟩
section
variable{h d c:Nat}{s u y:Sg}{ks:List (Option T)}{t:T}{k f p:Int}{a:List Nat}
theorem In.au{b:Nat}(a:In h s t u)(e:h<=b):In b s t u:=⟨a.l,aE a.b (sO e _),a.n,a.m,a.p⟩
theorem In.i(e:Le s u)(a:In h u t y):In h s t y:=⟨aE a.l e.l,aE a.b (jo e.b _),aE a.n (ac1 _ e.n),aE a.m e.b,a.p⟩
theorem Ik.nil:Ik h 0 9 s [] s:=⟨b7<|(c9 _).trans<|c9 _,sO (dG h) _,b7<|c9 _,bF _,bk⟩
theorem Ik.le(a:Ik h d c s ks u)(e:Le u y):Ik h d c s ks y:=⟨aE (jo (jo e.l _) _) a.l,aE (jo e.b _) a.b,aE (jo (jo (ac1 _ e.n) _) _) a.n,aE e.b a.m,a.p⟩
theorem Ik.j(a:Ik h d c s ks u){b:Nat}(e:Nat.ble b c=true):Ik h d b s ks u:=⟨a.l,a.b,aE (jo (sO (Nat.le_of_ble_eq_true e) _) _) a.n,a.m,a.p⟩
theorem Ik.B8(e:u.i.aq≠0)(n:fm ks+(c+5*u.ts.length)<=9+5*s.ts.length):fm ks+(c+5+5*u.j.ts.length)<=9+5*s.ts.length:=by
 rw[<-(yC e).n] at n;exact L1 n
theorem Ik.i(a:Ik h d c s ks u)(e:u.i.aq≠0):Ik h d (c+5) s ks u.j:=
 have b:=a.le eO
 ⟨b.l,b.b,B8 e a.n,b.m,b.p⟩
theorem Ik.lp(a:Ik h d c s ks u)(e:u.i.aq≠0)(q:rT u.i=I):Ik h (d+1) (c+5) s ks u.j:=
 have b:=a.le eO
 ⟨by have l:=a.l;rw[<-(yC e).l,q] at l;exact L1<|show _+(_+(_+1))<=_ from l,b.b,B8 e a.n,b.m,b.p⟩
theorem Ik.br(a:Ik (h+1) d c s ks u)(q:u.i.is 5 [91]=I):Ik h d (c+5) s ks u.j:=
 have b:=a.le eO
 ⟨b.l,by have l:=a.b;rw[<-(yC<|qu q J).b,show qt u.i=I from q] at l;exact L1<|show _+(_+1)<=_ from l,B8 (qu q J) a.n,b.m,b.p⟩
theorem Ik.sm(a:Ik h d c s ks u)(b:In h u t y):Ik h d (c+1) s (ks++[O t]) y:=by
 refine⟨?_,?_,?_,aE b.m a.m,?_⟩
 ·rw[eJ kn B6 (λa=>(c9 a).symm)];exact L2 a.l b.l (by show(_+(_+0))+_+_<=_;simp+arith only)
 ·rw[eJ ac2 Hy (λa=>(EQ a).symm)];refine(Nat.le_total (fk ks)<|fk [.some t]).elim (λe=>?_) λe=>?_
  ·rw[Nat.max_eq_right e,show fk [.some t]=_ from Ng _];exact L2 b.b a.m
  ·rw[Nat.max_eq_left e];exact L2 a.b b.m
 ·rw[eJ kn Hx (λa=>(c9 a).symm)];exact L2 a.n b.n (by show(_+(_+0))+_+_<=_;simp+arith only)
 ·rw[eJ (λa b c=>propext and_assoc) (λo r=>propext<|B7 o r) (λa=>(true_and a).symm)];exact⟨a.p,b.p,bk⟩
theorem Ik.nn(a:Ik h d (c+1) s ks u):Ik h d c s (ks++[U]) u:=by
 refine⟨?_,?_,?_,a.m,?_⟩
 ·rw[eJ kn B6 (λa=>(c9 a).symm)];exact a.l
 ·rw[eJ ac2 Hy (λa=>(EQ a).symm)];exact va (Ng _) a.b
 ·rw[eJ kn Hx (λa=>(c9 a).symm)];exact L1 a.n (by show(_+(0+1))+_+_<=_;simp+arith only)
 ·rw[eJ (λa b c=>propext and_assoc) (λo r=>propext<|B7 o r) (λa=>(true_and a).symm)];exact⟨a.p,bk⟩
theorem Ik.eJ{l:List T}(a:Ik h d c s (l.map ac3) u)(b:In h u t y):Ik h d c s ((l++[t]).map ac3) y:=by
 rw[dz]
 exact(a.sm b).j (Nh.mpr (et c))
theorem Ik.nd(a:Ik h d (c+11) s ks u)(x:List Nat)(f p:Int)(hd:(if k=27∨k=98 then 1 else 0)<=d)(b:B5 k ks):In (h+1) s (.nd k x ks f p) u:=
 ⟨L2 hd a.l (by show _+_+_+_<=_;simp+arith only),L1 a.b (by show _+1+_+_<=_;simp+arith only),L1 a.n (by show _+1+1+_+_<=_;simp+arith only),a.m,a.p,b⟩
theorem B9(h:(yD k).ble 1=I):B5 k ks:=⟨λe=>by rw[e] at h;exact bc h,λe=>e.elim (λe=>by rw[e] at h;exact bc h) λe=>by rw[e] at h;exact bc h,λe=>by rw[e] at h;exact bc h⟩
theorem Ik.gZ(a:Ik h d (c+11) s ks u)(x:List Nat)(f p:Int)(b:yD k=0):In (h+1) s (.nd k x ks f p) u:=
 a.nd x f p (va (a9 λe=>e.elim (λe=>by rw[e] at b;exact ac4 b) λe=>by rw[e] at b;exact ac4 b)<|dG _) (B9<|va b J)
end
theorem Po.ff{a:Type}{p q:PR a}{Q:a->Sg->Prop}(h:Po q Q):Po (if C=I then p else q) Q:=h
noncomputable def PI(part:bY)(h:Nat):Prop:=∀k s,Po (part k s) (In h s)
noncomputable def nG(Q:T->Prop)(ks:List<|Option T):Prop:=∀o∈ks,∀t,o=O t->Q t
section
variable{part:bY}{h i d c:Nat}{s eP j:Sg}{Q:T->Prop}{ks:List (Option T)}{t:T}{l:List T}
theorem nG.eJ(a:nG Q<|l.map O)(q:Q t):nG Q ((l++[t]).map O):=by
 rw[dz];intro o b u e;refine(eT.mp b).elim (λb=>a o b u e) λb=>?_;rw[<-cS ((iv.mp b).symm.trans e)];exact q
theorem nG.nil:nG Q []:=λo h=>ax h eU
theorem HA{item:Sg->PR T}(i:∀s,Po (item s) λt j=>In h s t j/\Q t)(n:Nat):∀(b:List T) (s:Sg),Ik h d c eP (b.map O) s->nG Q (b.map O)->Po (jy x item n b s) λts j=>Ik h d c eP (ts.map O) j/\nG Q (ts.map O):=by
 induction n with
 |zero=>exactλe e e e=>dr
 |succ n k=>exactλb s f g=>Po.bz (λhs=>(i s.j).bd λt m a=>k _ m ((f.le eO).eJ a.1)<|g.eJ a.2) λhs=>⟨f,g⟩
theorem HB{item:Sg->PR T}(e:∀s,Po (item s) λt j=>In h s t j/\Q t)(n:Nat)(b:In h s t j)(q:Q t)(hs:j.q x=I):Po (jy x item n [t] j) λts j=>Ik h 0 (4+11) s (ts.map O) j/\nG Q (ts.map O):=by
 induction n using fW with
 |zero=>exact dr
 |succ n=>exact Po.bz (λhs=>(e j.j).bd λt f a=>HA e _ _ f (((Ik.nil.sm b).i<|qu hs J).eJ a.1)<|((nG.nil).eJ (l:=[]) q).eJ a.2) λg=>ax hs g
theorem HC{a:Type}{f:Sg->PR a}{R:a->Sg->Prop}(e:Po (f s.j) R):Po (tu s f) R:=Po.bz (λb=>dr) λb=>Po.c7 λb=>e
theorem Sn(e:PI part h)(a:Ik h d c eP [] s):Po (vr part s) λl j=>Ik h d c eP (l.map O) j:=
 Po.c7 λb=>(e 1 s.j).bd λt f ht=>(HA (λs=>(e 1 s).au λa j q=>⟨q,dr⟩) _ _ f ((a.le eO).eJ (l:=[]) ht) λb b b b=>dr).bd λl i g=>HC<|g.1.le eO
theorem So(n:Nat):∀(a:List Nat) (s:Sg),Po (mv n a s) λb j=>Le s j:=by
 induction n with
 |zero=>exactλb b=>dr
 |succ n f=>exactλa s=>Po.bz (λb=>Po.bz (λb=>Po.bz (λb=>(f _ _).au λb j e=>(eO.q eO).q e) λb=>dr) λb=>Po.b8) λb=>Le.refl
theorem Sp(e:PI part h)(f:s.i.aq=1):Po (Bs part s) λt j=>In (h+1) s t j/\la t:=
 have K:=Ik.nil.i (Hw f)
 Po.bz (λb=>⟨K.gZ _ _ _ J,rV J⟩) λb=>Po.bz (λb=>dr) λb=>Po.bz (λb=>dr) λb=>
 Po.bd (Po.hU λb=>Po.bz (λb=>So 2 _ _) λb=>dr) λa i e1=>
 Po.bz (λb=>(Sn e<|K.le e1).bd λl k g=>⟨g.gZ _ _ _ J,rV J⟩) λb=>⟨(K.le e1).gZ _ _ _ J,rV J⟩
theorem Sr(b:PI part h)(e:s.i.aq≠0)(f:rT s.i=I):Po (Bt part s) λt j=>In (h+1) s t j/\la t:=
 (b 1 s.j).bd λt g a=>Po.c7 λq=>⟨Ik.nd (((Ik.nil.lp e f).sm a).le eO) _ _ _ (bF 1) ⟨λe=>ne e J,λe=>e.elim (λe=>ne e J) λe=>ne e J,λe=>⟨t,J⟩⟩,rV J⟩
theorem In.bO(a:In h s t j):Ik h 0 11 s t.bO j:=by
 obtain⟨k,x,ks,f,p⟩:=t;show Ik h 0 11 s ks j;exact⟨L1 a.l (by show _+_<=_+(_+_+_);simp+arith only),L1 a.b (by show _<=_+(_+1+_);simp+arith only),L1 a.n (by show _<=_+(_+1+1+_);simp+arith only),a.m,a.p.1⟩
theorem Ss(g:PI part h)(s:Sg):Po (fC part s) λt j=>In (h+1) s t j/\la t:=
 Po.bz (λf=>Sp g f) λb=>Po.bz (λf=>Po.bz (λi=>Sr g (λe=>f.elim (λh=>ne (h.symm.trans e) J) λh=>ne (h.symm.trans e) J)<|ec.mpr ⟨dH i,jr.mpr<|f.imp dH dH⟩) λb=>Po.bz (λb=>(g 9 s).bd λm k a=>⟨a.bO.gZ _ _ _ J,rV J⟩) λb=>Po.bz (λb=>dr) λb=>Po.b8) λb=>Po.bz (λb=>Po.b8) λb=>dr
theorem Su(m:PI part h)(n:Nat):∀(t:T) (s:Sg),In (h+1) eP t s->la t->Po (mw part n t s) λt j=>In (h+1) eP t j/\la t:=by
 induction n with
 |zero=>exactλt s a f=>Po.bz (λg=>dr) λg=>⟨a,f⟩
 |succ n k=>
  refineλt s a f=>Po.bz (λhb=>?_) λg=>⟨a,f⟩;have K:=(Ik.nil.sm a).br (ec.mp hb).1;exact Po.cL (λq=>k _ _ ((K.le eO).nd _ _ _ (bF 0) ⟨λe=>ne e J,λe=>nG.nil.eJ (l:=[]) f,λe=>ne e J⟩)<|rV J)
   ((m 1 s.j).bd λi o b=>Po.c7 λq=>k _ _ (((K.sm b).le eO).gZ _ _ _ J)<|rV J)
theorem HD(b:PI part h)(s:Sg):Po (my part s) λt j=>In (h+1) s t j/\la t:=(Ss b s).bd λt e a=>Su b 60 t e a.1 a.2
theorem HE(f:PI part h)(s:Sg):Po (jZ part s) λt j=>In (h+2) s t j/\nE t:=
 Po.i λg i e=>(HD f i).bd λt k a=>Po.bz (λhs=>(HB (HD f) _ (a.1.i e) a.2 hs).bd λl m b=>⟨b.1.nd _ _ _ (bF 0) ⟨λe=>ne e J,λe=>b.2,λe=>ne e J⟩,λe=>ne e J,λe=>ne e J⟩) λg=>⟨(a.1.i e).au<|et _,Sl a.2⟩
theorem Sv(f:PI part h)(s:Sg):Po (rI part s) (In (h+3) s):=
 Po.i λg i e=>(HE f i).bd λt j a=>Po.bz (λhs=>(HB (HE f) _ (a.1.i e) a.2 hs).bd λl k b=>b.1.nd _ _ _ (bF 0) ⟨λe=>b.2,λe=>e.elim (λe=>ne e J) λe=>ne e J,λe=>ne e J⟩) λg=>(a.1.i e).au<|et _
theorem Ca(e:PI part h)(f:h<=i)(k:Nat)(a:Ik i d (c+1) eP ks s):Po (gI part k s) λo j=>Ik i d c eP (ks++[o]) j:=
 Po.cL (λg=>(e k s.j).bd λt m b=>((a.le eO).sm<|b.au f).j<|Nh.mpr<|d7 c 2) a.nn
theorem Ik.ns(a:Ik h d c eP ks s)(ns:List Int):Ik h d c eP ks ⟨s.ts,ns⟩:=⟨a.l,a.b,a.n,a.m,a.p⟩
theorem HG(m:PI part h)(s:Sg):Po (pa part s) (In (h+1) s):=by
 refine Po.bz (λk=>Po.b8) λk=>?_;have i:∀o j a f p,Ik h 0 13 s [o] j->Po (cL 5 [61] j λb s=>if b then(part 1 s).bd λg s=>.ok (T.nd 100 a [o,O g] f p) s else PR.ok (T.nd 100 a [o,U] f p) s) (In (h+1) s):=λo j a f p K=>
  Po.cL (λk=>(m 1 j.j).bd λg r b=>((K.le eO).sm b).gZ _ _ _ J) ((K.nn).gZ _ _ _ J)
 exact Po.i λb u e=>Po.hU λq=>Po.lK λns=>
  have K:=((Ik.nil.le<|e.q .bz).i<|Hw q).ns ns
  Po.cL (λk=>(m 1 _).bd λt j b=>i (O t) j _ _ _<|((K.le eO).sm b).j J) (i U _ _ _ _<|K.nn)
theorem Sw(k:PI part h)(n:Nat):∀(f:List T) (s:Sg),Ik (h+1) d c eP (f.map O) s->Po (lL part n f s) λl j=>Ik (h+1) d c eP (l.map O) j:=by
 induction n with
 |zero=>exactλg g g=>dr
 |succ n m=>
  exactλf s i=>Po.i λb o e=>Po.bz (λg=>(HG k o).bd λt p a=>m _ _<|(i.le e).eJ a) λg=>i.le e
theorem HH(e:PI part h)(a:Ik (h+2) d (c+1) eP ks s):Po (kZ part s) λo j=>Ik (h+2) d c eP (ks++[o]) j:=by
 delta kZ;exact Po.cL (λq=>(HG e s.j).bd λt f b=>(Sw e _ _ _<|(Ik.nil.i<|qu q J).eJ (l:=[]) b).bd λl g b=>HC<|(a.sm<|(b.le eO).gZ _ _ _ J).j<|Nh.mpr<|d7 c 2) a.nn
theorem Ik.c6(e:Le s j)(f:j.i.aq≠0)(g:1<=h)(x:List Nat)(p:Int):Ik h 0 13 s [O (c6 8 x p)] j.j:=by
 have a:=(Ik.nil (h:=h)).le e;have b:=a.i f;exact⟨L1 b.l (by show 0+0+0+_+_<=_+(0+_);simp+arith only),L2 g b.m (by show 1+_+_<=_;simp+arith only),L1 b.n (by show(0+1+0)+_+_<=_+(0+_);simp+arith only),b.m,⟨⟨bk,B9 J⟩,bk⟩⟩
theorem HI{t:aj}(a:t.u=I):t.aq≠0:=λe=>
 (jr.mp a).elim (λh=>ne ((D h).symm.trans e) J) λh=>ne ((pq h).1.symm.trans e) J
theorem Sy(g:PI part h)(i:1<=h)(s:Sg):Po (pc part s) (In (h+1) s):=by
 delta pc;exact Po.i λb f e=>Po.bz (λj=>(Ca g (bF h) 1<|(Ik.c6 e (HI j) i f.i.aP f.i.aJ).le .bz).bd λk m a=>(a.nn).gZ _ _ _ J) λo=>dr
theorem Sz(g:PI part h)(i:1<=h)(n:Nat):∀(b:List T) (s:Sg),Ik (h+1) d c eP (b.map O) s->Po (rK part n b s) λl j=>Ik (h+1) d c eP (l.map O) j:=by
 induction n with
 |zero=>exactλe e e=>dr
 |succ n k=>exactλb s f=>Po.bz (λe=>f) λe=>(Sy g i s).bd λt m a=>Po.cL (λe=>Po.lK λns=>k _ _<|((f.eJ a).le eO).ns ns)<|f.eJ a
theorem HJ(e:PI part h)(f:1<=h)(a:Ik (h+2) d c eP ks s):Po (pd part s) λt j=>Ik (h+2) (d+1) (c+5+1) eP (ks++[O t]) j:=by
 delta pd;exact Po.c7 λq=>(Sz e f _ _ _<|Ik.nil).bd λl k b=>Po.c7 λg=>Po.bz (λi=>((a.lp (qu q J)<|ec.mpr ⟨dH (pq q).2,jr.mpr<|.inl<|dH (pq q).1⟩).sm<|(b.i<|qu g J).gZ _ _ _ J).ns _) λi=>dr
theorem Ik.gc(K:Ik (h+2) 1 (c+12) s [o,O a,r] j)(x:List Nat)(f p:Int):In (h+3) s (.nd 27 x [o,O a,r,U] f p) j:=
 (K.nn).nd _ _ _ (bF 1)<|B9 J
theorem Cb(e:PI part h)(f:1<=h)(a:List Nat)(fl p:Int)(s:Sg):Po (gc part a fl p s) (In (h+3) s):=
 (HH e Ik.nil).bd λg i A=>(HJ e f A).bd λps j B=>(Ca e (d7 h 2) 11 B).bd λr k b=>Ik.gc b _ _ _
theorem HL(f:PI part h)(i:1<=h)(s:Sg):Po (j0 part s) (In (h+3) s):=
 Po.bz (λg=>by
  delta rL;exact Po.i λb j e=>(HH f<|Ik.nil.le e).bd λm j A=>(HJ f i A).bd λps k B=>Po.c7 λg=>(f 11 k.j).bd λr o a=>Ik.gc ((B.le eO).sm<|a.au<|d7 h 2) _ _ _) λg=>Sv f s
theorem HM(e:PI part h)(s:Sg):Po (am part s) (In (h+1) s):=by
 have base:=(e 1 s).au λt j a=>a.au<|et h;refine Po.bz (λb=>base) λf=>?_;have K:Ik h 0 14 s [] s.j:=Ik.nil.i<|HI (by simp at f;exact f.2);have K:=K.le eO;exact Po.bz (λb=>(e 1 s.j.j).bd λk g a=>(K.sm a).gZ _ _ _ rfl) λb=>Po.bz (λb=>base) λb=>Po.cL (λb=>(e 1 s.j.j.j).bd λk g a=>((K.le eO).sm a).gZ _ _ _ rfl)<|Po.ff<|Po.bz (λb=>Po.b8) λb=>(K.nn).gZ _ _ _ rfl
theorem SA{t:aj}(h:t.i=I):t.aq≠0:=λe=>by
 unfold aj.i at h;rw[e] at h;exact bc h
theorem SD(e:PI part h)(f:1<=h)(fl:Int)(s:Sg):Po (tv part fl s) (In (h+3) s):=by
 refine Po.bz (λg=>?_) λb=>Po.bz (λb=>dr) λb=>Po.b8;exact Po.bz (λb=>(Cb e f _ _ _ _).au λt j a=>a.i<|eO.q .bz) λb=>(Ca e (d7 h 2) 1<|(Ik.nil.i<|SA g).le .bz).bd λk i a=>a.gZ _ _ _ J
theorem SE(f:PI part h)(g:1<=h)(s:Sg):Po (lM part s) (In (h+3) s):=by
 delta lM
 dsimp only
 refine Po.bz (λb=>Cb f g _ _ _ _) λb=>Po.bz (λb=>(Cb f g _ _ _ _).au λt j a=>a.i eO) λb=>?_;have e:Le s (if(s.y fN&&((s.u 1).j&& !(s.u 1).cC))=I then s.j else s):=.bz;revert e;generalize(if(s.y fN&&((s.u 1).j&& !(s.u 1).cC))=I then s.j else s)=i;intro e;exact Po.bz (λb=>Po.c7 λq=>Po.hU λb=>Po.c7 λb=>(f 1 _).bd λk m A=>Po.c7 λb=>Po.c7 λb=>(f 1 _).bd λv o B=>((((((((Ik.nil.le e).i<|qu q J).le eO).le eO).sm A).le eO).le eO).sm B|>.gZ _ _ _ J).au<|d7 _ 2) λb=>Po.bz (λb=>Po.b8) λb=>(SD f g _ _).au λt j a=>a.i e
theorem SF(i:PI part h)(k:1<=h)(n:Nat):∀(e:List T) (s:Sg),Ik (h+3) d c eP (e.map some) s->Po (nk part n e s) λl j=>Ik (h+3) d c eP (l.map some) j:=by
 induction n with
 |zero=>exactλb b b=>dr
 |succ n g=>exactλe s f=>Po.bz (λb=>f) λb=>(SE i k s).bd λt m a=>Po.cL (λb=>g _ _<|(f.eJ a).le eO)<|Po.ff<|Po.cL (λb=>g _ _<|(f.eJ a).le eO)<|Po.ff<|Po.bz (λb=>g _ _<|f.eJ a) λb=>Po.b8
theorem Cc(b:PI part h)(e:1<=h)(s:Sg):Po (gK part s) (In (h+4) s):=by
 delta gK;exact Po.c7 λq=>(SF b e _ _ _<|Ik.nil.i<|qu q J).bd λl f a=>(a.le eO).gZ _ _ _ J
end
theorem yE(f:Nat):PI (be f) (4*f+1):=by
 induction f with
 |zero=>exactλb b=>dr
 |succ f e=>
  intro k s;have g:∀p:PR T,Po p (In (4*f+1+4) s)->Po (p.bd λt s=>if ht t<=150/\sz t<=4000000 then .ok t s else .j) (In (4*(f+1)+1) s):=λp hp=>
   hp.bd λt j a=>Po.bz (λb=>a.au<|by simp+arith only) λb=>dr
  apply g;split
  ·exact(HL e (hG ..) s).au λt j a=>a.au<|et _
  ·exact Cc e (hG ..) s
  ·exact(HM e s).au λt j a=>a.au<|d7 _ 3
  ·exact dr
structure W where
 k:Int
 x:List Nat
 w:List Nat
 l:Bool
 o:Bool
noncomputable def sg(x:List Nat):W:=⟨5,x,x,C,C⟩
noncomputable def nm(x:List Nat):W:=⟨1,x,x,C,C⟩
noncomputable def wd(x:List Nat):W:=⟨2,x,x,C,C⟩
noncomputable def nu(x:List Nat):W:=⟨3,x,x,C,C⟩
noncomputable def st(x w:List Nat):W:=⟨4,x,w,C,C⟩
noncomputable def sp:W:=⟨9,[32],[32],C,C⟩
noncomputable def pt:W:=⟨5,[40],[40],C,I⟩
noncomputable def tk:List W->List aj->List Int->Prop
 |[],u,os=>u=[]/\os=[]
 |w::d,u,os=>if w.k=9 then tk d u os else∃n p e g c,u=⟨w.k,w.x,n,p,e,w.l⟩::g/\os=(if w.o then p::c else c)/\tk d g c
theorem pu{w:W}(q:w.k=9):tk (w::c)=tk c:=by funext u os;exact aN q
theorem mF{w:W}{u:List aj}{os:List Int}(q:¬w.k=9):tk (w::d) u os=∃n p e g c,u=⟨w.k,w.x,n,p,e,w.l⟩::g/\os=(if w.o then p::c else c)/\tk d g c:=a9 q
theorem yF{w:W}{u:List aj}{os:List Int}{n p e:Int}(q:¬w.k=9)(h:tk c u os):tk (w::c) (⟨w.k,w.x,n,p,e,w.l⟩::u) (if w.o then p::os else os):=by
 rw[mF q];exact u8 n p e u os J J h
@[elab_as_elim] theorem tQ{w:W}{u:List aj}{os:List Int}{F:List aj->List Int->Prop}(h:tk (w::g) u os)(j:w.k=9->tk g u os->F u os)(l:∀n p e d c,¬w.k=9->tk g d c->F (⟨w.k,w.x,n,p,e,w.l⟩::d) (if w.o then p::c else c)):F u os:=by
 by_cases q:w.k=9
 ·rw[pu q] at h;exact j q h
 ·rw[mF q] at h;clear j;refine lB h ?_;clear h;rintro n p e d c rfl rfl h;exact l n p e d c q h
inductive SG(a b:List W)(u:List aj)(os:List Int):Prop
 |mk (u1 u2:List aj) (o1 o2:List Int) (e1:u=u1++u2) (e2:os=o1++o2) (h1:tk a u1 o1) (h2:tk b u2 o2)
theorem vM{a b:List W}{u:List aj}{os:List Int}(h:tk (a++b) u os):SG a b u os:=by
 induction a generalizing u os with
 |nil=>exact⟨[],u,[],os,J,J,⟨J,J⟩,h⟩
 |cons w a j=>
  replace h:tk (w::(a++b)) u os:=h;refine tQ h (λq h=>?_) λn p e z o q h=>?_
  ·obtain⟨l,c,o1,d,e1,e2,g,h2⟩:=j h;exact⟨l,c,o1,d,e1,e2,by rw[pu q];exact g,h2⟩
  ·obtain⟨l,c,o1,d,rfl,rfl,g,h2⟩:=j h;exact⟨_,c,_,d,J,by cases w.o<;>rfl,yF q g,h2⟩
theorem SH{u:List aj}{os:List Int}(h:tk (sp::c) u os):tk c u os:=h
theorem Ce{x:List Nat}{u:List aj}{os:List Int}(h:tk (sg x::d) u os):∃n p e c,u=⟨5,x,n,p,e,C⟩::c/\tk d c os:=
 tQ h (λq g=>ax q (by show¬(5:Int)=9;decide)) λn p e c g g h=>OH n p e c J h
theorem mG{u:List aj}{os:List Int}(h:tk [] u os):u=[]/\os=[]:=h
structure Pc where
 n:Int
 p:Int
 e:Int
noncomputable def W.t(w:W)(q:Pc):aj:=⟨w.k,w.x,q.n,q.p,q.e,w.l⟩
noncomputable def eD(ts:List aj):Prop:=ts.length<=490000/\cb ts<=49
noncomputable abbrev Px:={f:List aj->List aj//∀r,r.length<=(f r).length/\cb r<=cb (f r)}
noncomputable def Nl:Px:=⟨λr=>r,λr=>⟨bF _,bF _⟩⟩
theorem SI(t:aj)(r:List aj):cb r<=cb (t::r):=by rw[rU];exact d7 ..
noncomputable def Cn(t:aj)(u:Px):Px:=⟨λr=>t::u.1 r,λr=>⟨f4 (u.2 r).1,aE (u.2 r).2<|SI ..⟩⟩
noncomputable def Ap(u v:Px):Px:=⟨λr=>u.1<|v.1 r,λr=>⟨aE (v.2 r).1 (u.2 _).1,aE (v.2 r).2 (u.2 _).2⟩⟩
section
variable(G:Nat->Pc)
noncomputable def bU:List W->Nat->Px
 |[],_=>Nl
 |w::c,i=>cond (decide (w.k=9)) (bU c<|i+1)<|Cn (w.t<|G i)<|bU c<|i+1
noncomputable def cq:List W->Nat->List Int
 |[],_=>[]
 |w::c,i=>cond (decide (w.k=9)) (cq c<|i+1)<|cond w.o ((G i).p::cq c (i+1))<|cq c<|i+1
end
section
variable{G:Nat->Pc}{a b:List W}{i:Nat}{u v:Px}{t:aj}
theorem xA:bU G (a++b) i=Ap (bU G a i) (bU G b<|i+a.length):=by
 induction a generalizing i with
 |nil=>rfl
 |cons w a c=>
  have e:i+1+a.length=i+(a.length+1):=ac5 ..;show cond _ (bU G (a++b)<|i+1) (Cn _<|bU G (a++b)<|i+1)=Ap (cond _ (bU G a<|i+1)<|Cn _<|bU G a<|i+1) (bU G b<|i+(a.length+1));rw[c,e]
  cases decide (w.k=9)<;>rfl
theorem oA:cq G (a++b) i=cq G a i++cq G b (i+a.length):=by
 induction a generalizing i with
 |nil=>rfl
 |cons w a c=>
  have e:i+1+a.length=i+(a.length+1):=ac5 ..;show cond _ (cq G (a++b)<|i+1) (cond _ (_::cq G (a++b) (i+1))<|cq G (a++b)<|i+1)=cond _ (cq G a<|i+1) (cond _ (_::cq G a (i+1))<|cq G a<|i+1)++cq G b (i+(a.length+1));rw[c,e]
  cases decide (w.k=9)<;>cases w.o<;>rfl
theorem xC(h:u=v):Cn t u=Cn t v:=h▸J
theorem xR(h:u=v):Ap w u=Ap w v:=h▸J
theorem pz{r:List aj}(h:eD<|u.1 r):eD r:=⟨aE (u.2 r).1 h.1,aE (u.2 r).2 h.2⟩
theorem lA(u:Px){r:List aj}(h:eD<|u.1<|t::r):eD r:=pz (u:=Ap u<|Cn t Nl) h
theorem eD.tl{r:List aj}(h:eD<|t::r):eD r:=pz (u:=Cn t Nl) h
end
noncomputable def Rs{B:Type}(b:Bool)(p:PR B)(Q:B->Sg->Prop):Prop:=match p with
 |.ok a s=>Q a s
 |.d8 _=>b=I
 |.j=>False
noncomputable def vO:List (List Nat):=[[41],[93],[62],[44],[59],[125],[61]]
noncomputable def SJ(x:aj):Bool:=cond x.cC (!decide (x.aq=5)||decide (x.aP=[91]))<|decide (x.aq=5)&&vO.contains x.aP
noncomputable def Fk(x:aj):Prop:=SJ x=I
noncomputable def Fy(y:List Nat)(x:aj):Prop:=Fk x/\(x.cC=I->y≠f6/\y≠gv/\(y=dP->x.aP≠eW))
noncomputable def Cl(x:aj):Prop:=Fk x/\x.cC=C
noncomputable def rW(t:List Nat):Bool:=decide (t=fB)||decide (t=[91])
noncomputable def Sk(s:Sg):Prop:=∃x r,s=⟨x::r,[]⟩/\(x.cC=C/\x.aq=5)/\rW x.aP=I
noncomputable def jC{B:Type}(b:Bool)(Q:B->Prop)(x:aj)(r:List aj)(t:B)(s:Sg):Prop:=(Q t/\s=⟨x::r,[]⟩)∨(b=I/\Sk s)
noncomputable def Rx{B:Type}(b:Bool)(p:Sg->PR B)(F:aj->Prop)(u:Px)(Q:B->Prop):Prop:=∀x r,F x->eD (u.1<|x::r)->Rs b (p ⟨u.1<|x::r,[]⟩) λt s=>Q t/\s=⟨x::r,[]⟩
noncomputable def Rd{B:Type}(b:Bool)(p:Sg->PR B)(F:aj->Prop)(u:Px)(Q:B->Prop):Prop:=∀x r,F x->eD (u.1<|x::r)->Rs b (p ⟨u.1<|x::r,[]⟩) (jC b Q x r)
section
variable{B N X:Type}{b:Bool}{Q:B->Prop}{R:B->Sg->Prop}{M:N->Sg->Prop}{s:Sg}{k:Int}{x:List Nat}{p p':PR B}{f:B->Sg->PR N}{F Y:aj->Prop}{t:aj}{r:List aj}{u:Px}{m:Sg->PR B}
theorem Rs.bd(h:Rs b p R)(g:∀a s,R a s->Rs b (f a s) M):Rs b (p.bd f) M:=by
 induction p using PR.casesOn with
 |ok a s=>exact g a s h
 |d8 ns=>exact h
 |j=>exact h
theorem Rs.au{c:B->Sg->Prop}(h:Rs b p R)(g:∀a s,R a s->c a s):Rs b p c:=by
 induction p using PR.casesOn with
 |ok a s=>exact g a s h
 |d8 ns=>exact h
 |j=>exact h
theorem yG(p:PR B)(f:B->Sg->PR N)(g:N->Sg->PR X):(p.bd f).bd g=p.bd λa s=>(f a s).bd g:=by cases p<;>rfl
theorem Rs.L{M:X->Sg->Prop}(h:Rs b (p.bd λa s=>(f a s).bd g) M):Rs b ((p.bd f).bd g) M:=by rw[yG];exact h
theorem Rs.eq(e:p=p')(h:Rs b (p'.bd f) M):Rs b (p.bd f) M:=e▸h
theorem jC.bd(h:Rs b p<|jC b Q t r)(g:∀a,Q a->Rs b (f a ⟨t::r,[]⟩) M)(c:∀a s,b=I->Sk s->Rs b (f a s) M):Rs b (p.bd f) M:=h.bd λa s h=>h.elim (λh=>h.2▸g a h.1) λh=>c a s h.1 h.2
theorem jC.yG{g:N->Sg->PR X}{Q:N->Prop}{M:X->Sg->Prop}(h:Rs b (p.bd f)<|jC b Q t r)(k:∀a,Q a->Rs b (g a ⟨t::r,[]⟩) M)(c:∀a s,b=I->Sk s->Rs b (g a s) M):Rs b (p.bd λa s=>(f a s).bd g) M:=by rw[<-Mine.yG];exact jC.bd h k c
theorem Rd.nx(h:Rd b m F u Q)(c:F t)(d:eD<|u.1<|t::r)(g:∀a,Q a->Rs b (f a ⟨t::r,[]⟩) M)(e:∀a s,b=I->Sk s->Rs b (f a s) M):Rs b ((m ⟨u.1<|t::r,[]⟩).bd f) M:=jC.bd (h t r c d) g e
theorem Rx.nx(h:Rx b m F u Q)(c:F t)(d:eD<|u.1<|t::r)(g:∀a,Q a->Rs b (f a ⟨t::r,[]⟩) M):Rs b ((m ⟨u.1<|t::r,[]⟩).bd f) M:=(h t r c d).bd λa s h=>h.2▸g a h.1
theorem Rd.au{c:B->Prop}(h:Rd b m F u Q)(g:∀a,Q a->c a):Rd b m F u c:=λx r d e=>(h x r d e).au λt s hs=>hs.imp (λa=>⟨g t a.1,a.2⟩) id
theorem Rd.of(h:Rd b m F u Q)(g:∀x,Y x->F x):Rd b m Y u Q:=λx r c=>h x r<|g x c
theorem Rx.au{c:B->Prop}(h:Rx b m F u Q)(g:∀a,Q a->c a):Rx b m F u c:=λx r d e=>(h x r d e).au λt s hs=>⟨g t hs.1,hs.2⟩
theorem Rs.iT{p q:PR B}(h:c=I)(g:Rs b p R):Rs b (if c=I then p else q) R:=by rw[aN h];exact g
theorem Rs.j{p q:PR B}(h:c=C)(g:Rs b q R):Rs b (if c=I then p else q) R:=by rw[h];exact g
theorem Rs.q{f:Bool->Sg->PR B}(h:s.i.is k x=C)(g:Rs b (f C s) R):Rs b (cL k x s f) R:=Rs.j h g
theorem Rs.b8{n:Int}(hb:b=I)(h:s.ns=[]):Rs b (b8 n s:PR B) R:=by
 unfold Mine.b8;rw[h];exact hb
theorem pF{x:aj}{k:Int}{t:List Nat}(h:x.aP≠t):x.is k t=false:=by unfold aj.is;rw[dO h,mW]
theorem vP{x:aj}{k:Int}{t:List Nat}(h:x.aq≠k):x.is k t=false:=by unfold aj.is;rw[dO h];rfl
theorem Sk.is(h:Sk s)(g:rW x=C):s.i.is k x=false:=by
 refine cU h ?_;rintro t r rfl _ e;exact pF (x:=t) λq=>by rw[q,g] at e;exact bc e
theorem Sk.ns(h:Sk s):s.ns=[]:=cU h λt r e c c=>e▸J
theorem Rs.yH{f:Sg->PR B}(hb:b=I)(h:Sk s)(g:rW x=C):Rs b (c7 x s f) R:=Rs.j (h.is g)<|.b8 hb h.ns
theorem Rs.yI{f:Bool->Sg->PR B}(h:Sk s)(g:rW x=C)(q:Rs b (f C s) R):Rs b (cL k x s f) R:=.q (h.is g) q
end
section
variable{x:aj}{t y:List Nat}
theorem Fk.is(h:Fk x)(g:(vO.contains t||decide (t=[91]))=C):x.is 5 t=false:=by
 cases e:x.is 5 t with
 |false=>rfl
 |true=>
  replace h:cond x.cC (!decide (x.aq=5)||decide (x.aP=[91])) (decide (x.aq=5)&&vO.contains x.aP)=true:=h;rw[(pq e).1,(pq e).2,(kl.mp g).1,(kl.mp g).2] at h;revert h;cases x.cC<;>exactλh=>bc h
theorem Fk.cs(h:Fk x):x.cC=I∨x.cC=C/\x.aq=5/\vO.contains x.aP=true:=by
 cases e:x.cC with
 |true=>exact .inl J
 |false=>
  replace h:cond x.cC (!decide (x.aq=5)||decide (x.aP=[91])) (decide (x.aq=5)&&vO.contains x.aP)=true:=h;rw[e] at h;have h:=ec.mp h;exact .inr ⟨J,D h.1,h.2⟩
theorem Fk.br(h:Fk x):(x.is 5 [91]&& !x.cC)=false:=by
 refine h.cs.elim (λe=>by rw[e];exact mW _) λe=>?_;rw[pF λq=>by rw[q] at e;exact bc e.2.2];rfl
theorem Cl.j(h:Cl x):Fy y x:=⟨h.1,λe=>bc<|h.2.symm.trans e⟩
noncomputable def yJ(x:aj):Prop:=x.is 5 [46]=C/\(x.is 5 [60]&& !x.cC)=C
theorem Fk.at(h:Fk x):yJ x:=⟨h.is J,by rw[h.is J];rfl⟩
noncomputable def NH(x:aj):Prop:=yJ x/\(x.is 5 [91]&& !x.cC)=C
noncomputable def NI(x:aj):Prop:=NH x/\x.is 5 [38]=C
noncomputable def NU(x:aj):Prop:=NI x/\x.is 5 [124]=C
theorem Fk.nu(h:Fk x):NU x:=⟨⟨⟨h.at,h.br⟩,h.is J⟩,h.is J⟩
theorem Fy.q(h:Fy dP x):x.is 1 eW=false:=h.1.cs.elim (λe=>pF<|(h.2 e).2.2 J) λe=>vP (by rw[e.2.1];decide)
theorem Fy.gc(h:Fy y x):x.q=false:=by
 unfold aj.q;rw[h.1.is J,h.1.is J];rfl
theorem Fy.j(h:Fy y x):(x.j&& !x.cC)=C/\(y=f6∨y=gv->x.j=C):=by
 refine h.1.cs.elim (λe=>⟨by rw[e];exact mW _,λg=>g.elim (λg=>ax g (h.2 e).1) λg=>ax g (h.2 e).2.1⟩) λe=>?_;have:x.j=false:=by
  unfold aj.j aj.i;rw[e.2.1,pF λq=>by rw[q] at e;exact bc e.2.2];rfl
 rw[this];exact⟨J,λc=>J⟩
end
theorem Rs.Cg{b:Bool}{f:Nat}{p:Sg->PR T}{s:Sg}{R:T->Sg->Prop}(l:f+1<=16)(c:eD s.ts)(h:Rs b (p s) R)(d:Po (p s)<|In (4*f+5) s):Rs b ((p s).bd λt s=>if ht t<=150/\sz t<=4000000 then .ok t s else .j) R:=by
 generalize p s=z at h d
 induction z using PR.casesOn with
 |ok t e=>
  refine dn λg=>?_;obtain⟨o,q,w,A,B⟩:=d;refine g ?_;show Rs b (if ht t<=150/\sz t<=4000000 then .ok t e else .j) R;rw[aN ⟨by have:=c.2;lia,by have:=c.1;lia⟩];exact h
 |d8 ns=>exact h
 |j=>exact h
section
variable{b:Bool}{f:Nat}{u:Px}{F:aj->Prop}{Q:T->Prop}
theorem Rd.q(d:f+1<=16)(h:Rd b (j0<|be f) F u Q):Rd b (be (f+1) 1) F u Q:=λx r e c=>
 Rs.Cg d c (h x r e c) ((HL (yE f) (by simp+arith only) _).au λt g a=>a.au<|by simp+arith only)
theorem Rd.j(d:f+1<=16)(h:Rd b (am<|be f) F u Q):Rd b (be (f+1) 11) F u Q:=λx r e c=>
 Rs.Cg d c (h x r e c) ((HM (yE f) _).au λt g a=>a.au<|by simp+arith only)
theorem Rx.j(d:f+1<=16)(h:Rx b (gK<|be f) F u Q):Rx b (be (f+1) 9) F u Q:=λx r e c=>
 Rs.Cg d c (h x r e c) (Cc (yE f) (by simp+arith only) _)
end
noncomputable def iB:List (List Nat):=[[65],[66],[84],eW,ri]
noncomputable def d6(a:List Nat):List W:=if a=gG then[nm [69],sg [46],wd f5] else[nm a]
noncomputable def hY:List (List Nat):=[[84],fc,[85,50]]
noncomputable abbrev nI(b:Bool)(part:bY)(u:Px)(Q:T->Prop):Prop:=Rx b (fC part) yJ u Q
theorem mc{P:List Nat->Prop}{a x:List Nat}(h:a∈x::l)(c:P x)(k:a∈l->P a):P a:=(d2.mp h).elim (λe=>e▸c) k
theorem HN{P:List Nat->Prop}{a:List Nat}(h:a∈iB∨a=gG)(c:P [65])(h2:P [66])(d:P [84])(h4:P eW)(h5:P ri)(h6:P gG):P a:=
 h.elim (λh=>mc h c λh=>mc h h2 λh=>mc h d λh=>mc h h4 λh=>mc h h5 λh=>ax h eU) λe=>e▸h6
theorem Ch{P:List Nat->Prop}{a:List Nat}(h:a∈hY)(c:P [84])(h2:P fc)(d:P [85,50]):P a:=mc h c λh=>mc h h2 λh=>mc h d λh=>ax h eU
section
variable{b:Bool}{part:bY}{u v:Px}{Q Q1 X Q3:T->Prop}{j:Nat->Pc}{i:Nat}{q y q1 B q3 q4 F M G Y N q0:Pc}{a:List Nat}{x:aj}{r:List aj}
theorem SM(h:o8.contains a=I)(g:Q<|c6 80 a q.p):nI b part (Cn ((nm a).t q) Nl) Q:=λx r c c=>Rs.iT h ⟨g,J⟩
noncomputable def vQ(part:bY)(a:List Nat)(p:Int)(s:Sg):PR T:=if s.q [60]&& !s.i.cC then(vr part s).bd λl s=>.ok (aK 81 a l p) s else .ok (aK 81 a [] p) s
theorem vR(e:fC part ⟨(nm a).t q::x::r,[]⟩=(mv 2 a ⟨x::r,[]⟩).bd λa s=>vQ part a q.p s)(h:x.is 5 [46]=C):fC part ⟨(nm a).t q::x::r,[]⟩=vQ part a q.p ⟨x::r,[]⟩:=by
 rw[e,show mv 2 a ⟨x::r,[]⟩=.ok a ⟨x::r,[]⟩ from a9 (by rw[show(Sg.mk (x::r) []).q [46]=C from h];exact sP)];rfl
theorem HO(c:a∈iB∨a=gG)(h:x.is 5 [46]=C):fC part ⟨(bU j (d6 a) i).1<|x::r,[]⟩=vQ part a (j i).p ⟨x::r,[]⟩:=by
 refine HN (P:=λa=>fC part ⟨(bU j (d6 a) i).1<|x::r,[]⟩=vQ part a (j i).p ⟨x::r,[]⟩) c (vR J h) (vR J h) (vR J h) (vR J h) (vR J h) ?_;have e:mv 1 gG ⟨x::r,[]⟩=.ok gG ⟨x::r,[]⟩:=a9 (by rw[show(Sg.mk (x::r) []).q [46]=C from h];exact sP);show(mv 1 gG ⟨x::r,[]⟩).bd (λa s=>vQ part a (j i).p s)=_;rw[e];rfl
theorem SN(d:a∈iB∨a=gG)(g:∀p,Q<|aK 81 a [] p):nI b part (bU j (d6 a) i) Q:=λx r c e=>by
 rw[HO d c.1];exact Rs.j c.2 ⟨g _,J⟩
noncomputable def qw(b:Bool)(item:Sg->PR T)(c:List Nat)(F:aj->Prop)(u:Px)(Q:List T->Prop):Prop:=∀x r (N:Sg->Nat) d (R:List T->Prop),(∀ts,Q ts->R (d++ts))->F x->x.is 5 c=C->eD (u.1<|x::r)->(∀s,1<=N s)->(∀s,s.ts.length<=(u.1<|x::r).length->s.ts.length<=N s)->
 Rs b ((item ⟨u.1<|x::r,[]⟩).bd λt s=>jy c item (N s) (d++[t]) s) (jC b R x r)
theorem tR{s:Sg}{R:List T->Sg->Prop}(e:1<=n)(h:s.q c=C)(g:R d s):Rs b (jy c item n d s) R:=by
 induction n using fW with
 |zero=>exact ax e<|kQ _
 |succ n=>exact Rs.j h g
theorem HP{F d:aj->Prop}{e:List T->Prop}(hc:rW c=C)(h:Rd b item d u Q)(hF:∀x,F x->d x)(g:∀t,Q t->e [t]):qw b item c F u e:=λx r N f R k j hs l n1 m=>
 h.nx (hF x j) l (λt q=>tR (n1 _) hs<|.inl ⟨k _<|g t q,J⟩) λt s hb hs=>tR (n1 _) (hs.is hc)<|.inr ⟨hb,hs⟩
theorem HQ{F j:aj->Prop}{l d:List T->Prop}(hc:rW c=C)(h:Rd b item j u Q)(hF:j<|(sg c).t q)(p:qw b item c F v l)(g:∀t ts,Q t->l ts->d (t::ts)):qw b item c F (Ap u<|Cn ((sg c).t q) v) d:=λx r N f R k y hs m n1 A=>
 h.nx hF m (λt z=>by
  have e:N ⟨(sg c).t q::v.1 (x::r),[]⟩=(N ⟨(sg c).t q::v.1 (x::r),[]⟩-1)+1:=(Aj<|n1 _).symm;have o:=aE (A ⟨(sg c).t q::v.1 (x::r),[]⟩ (u.2 _).1)<|b7 e;rw[e];refine Rs.iT (ec.mpr ⟨J,dH J⟩)<|p x r (λB=>N ⟨(sg c).t q::v.1 (x::r),[]⟩-1) (f++[t]) R (λts w=>b6 .. ▸k _ (g t ts z w)) y hs (lA u m) (λB=>?_) λs hs=>?_
  ·exact aE (aE (gs<|dG _) (v.2<|x::r).1)<|jT o
  ·exact aE hs<|jT o) λt s hb hs=>tR (n1 _) (hs.is hc)<|.inr ⟨hb,hs⟩
theorem SO(e:qw b (part 1) [44] Cl u c):Rx b (vr part) (λd=>True) (Cn ((sg [60]).t q)<|Ap u<|Cn ((sg [62]).t y) Nl) c:=λx r d f=>
 jC.yG (e ((sg [62]).t y) (x::r) (λs=>s.ts.length+1) [] c (λts q=>q) ⟨J,J⟩ J f.tl (λs=>gs<|dG _) λs d=>et _) (λl z=>⟨z,J⟩) λl s hb hs=>.j (hs.is J)<|.yH hb hs J
theorem SP{c:List T->Prop}(d:a∈iB∨a=gG)(e:qw b (part 1) [44] Cl u c)(g:∀p ts,c ts->Q (aK 81 a ts p)):nI b part (Ap (bU j (d6 a) i)<|Cn ((sg [60]).t q)<|Ap u<|Cn ((sg [62]).t y) Nl) Q:=λx r h f=>by
 rw[HO d J];exact(SO e).nx bk (pz f) λl z=>⟨g _ l z,J⟩
theorem HR(c:Rd b (part 1) Cl u Q1)(g:∀t,Q1 t->Q (aK 98 [] [t] q.p)):nI b part (Cn ((sg [40]).t q)<|Ap u<|Cn ((sg [41]).t y) Nl) Q:=λx r e d=>
 c.nx ⟨J,J⟩ d.tl (λt z=>⟨g t z,J⟩) λt s hb hs=>.yH hb hs J
theorem HS(c:Rx b (part 9) (λd=>True) (Cn ((sg [123]).t q) u) Q1)(g:∀m,Q1 m->Q (.nd 88 [] m.bO 0 q.p)):nI b part (Cn ((sg [123]).t q) u) Q:=λx r d e=>
 c.nx bk e λm z=>⟨g m z,J⟩
end
section
variable{b:Bool}{f:Nat}{part:bY}{u v:Px}{Q F Q2 Q3:T->Prop}{π:Nat->Pc}{i:Nat}{q q' y j B M N G X q8 Y q0:Pc}{a:List Nat}{x:aj}{r:List aj}
noncomputable def Ci(part:bY)(a:List Nat)(c p:Int)(bound:Option T)(s:Sg):PR T:=cL 5 [61] s λb s=>if b then(part 1 s).bd λg s=>.ok (T.nd 100 a [bound,O g] c p) s else PR.ok (T.nd 100 a [bound,U] c p) s
noncomputable def vT(p:Int)(l:List T)(s:Sg):PR (Option T):=tu s λs=>.ok (O<|aK 71 [] l p) s
noncomputable abbrev kG(b:Bool)(part:bY)(u:Px)(Q:Option T->Prop):Prop:=Rx b (kZ part) (λx=>x.is 5 [60]=C) u Q
theorem HT{p:Int}{R:Option T->Sg->Prop}(hb:b=I)(hm:1<=m)(hs:Sk s):Rs b ((lL part m l s).bd<|vT p) R:=by
 induction m using fW with
 |zero=>exact ax hm<|kQ _
 |succ m=>
  have e:lL part (m+1) l s=.ok l s:=by
   show(if s.i.is 5 [44]=I then _ else _)=_;rw[hs.is J];rfl
  rw[e];exact Rs.j (hs.is J)<|.yH hb hs J
theorem SQ{Q:Option T->Prop}(g:Q U):kG b part Nl Q:=λx r c d=>by
 unfold kZ;exact .q c ⟨g,J⟩
theorem SS{Q:Option T->Prop}(h:a∈hY)(g:∀p c,Q<|O<|aK 71 [] [T.nd 100 a [U,U] 536870912 c] p):kG b part (Cn ((sg [60]).t q)<|Cn ((nm fc).t y)<|Cn ((nm a).t j)<|Cn ((sg [62]).t B) Nl) Q:=λx r d d=>
 Ch (P:=λa=>(∀p c,Q<|O<|aK 71 [] [T.nd 100 a [U,U] 536870912 c] p)->Rs b (kZ part ⟨(sg [60]).t q::(nm fc).t y::(nm a).t j::(sg [62]).t B::x::r,[]⟩) λt s=>Q t/\s=⟨x::r,[]⟩) h (λg=>⟨g _ _,J⟩) (λg=>⟨g _ _,J⟩) (λg=>⟨g _ _,J⟩) g
theorem SU(h:a∈hY):kZ part ⟨(sg [60]).t q::(nm a).t y::(wd iS).t j::r,[]⟩=((part 1 ⟨r,[]⟩).bd λt s=>Ci part a 0 y.p (O t) s).bd λt s=>(lL part (s.ts.length+1) [t] s).bd (vT q.p):=
 Ch (P:=λa=>kZ part ⟨(sg [60]).t q::(nm a).t y::_::r,[]⟩=((part 1 ⟨r,[]⟩).bd λt s=>Ci part a 0 y.p (O t) s).bd _) h J J J
theorem SV{Q:Option T->Prop}(h:a∈hY)(c:Rd b (part 1) Cl u F)(g:∀p d t,F t->Q (O<|aK 71 [] [T.nd 100 a [O t,U] 0 d] p)):kG b part (Cn ((sg [60]).t q)<|Cn ((nm a).t y)<|Cn ((wd iS).t j)<|Ap u<|Cn ((sg [62]).t B) Nl) Q:=λx r k e=>by
 rw[SU h];exact .L<|c.nx ⟨J,J⟩ e.tl.tl.tl (λt z=>⟨g _ _ t z,J⟩) λt s hb hs=>.eq (a9 (by rw[hs.is J];exact sP))<|HT hb (gs<|dG _) hs
noncomputable abbrev t6(a:List Nat)(p:Int):T:=T.nd 100 a [U,U] 268435456 p
noncomputable abbrev t7(k c:T)(p:Int):T:=T.nd 100 fc [O k,O c] 805306368 p
theorem SW(h:a∈hY):pa part ⟨(wd f5).t y::(nm a).t j::(sg [44]).t B::r,[]⟩=.ok (t6 a j.p) ⟨(sg [44]).t B::r,[]⟩:=Ch (P:=λa=>pa part ⟨_::(nm a).t j::_::r,[]⟩=.ok (t6 a j.p) _) h J J J
theorem SX:pa part ⟨(wd f5).t y::(nm fc).t B::(nm fc).t j::(wd iS).t M::r,[]⟩=(part 1 ⟨r,[]⟩).bd λt s=>Ci part fc 805306368 j.p (O t) s:=rfl
theorem SY:Mine.be (f+1) 1 ⟨(nm [84]).t y::(sg [61]).t j::r,[]⟩=.ok (aK 81 [84] [] y.p) ⟨(sg [61]).t j::r,[]⟩:=rfl
theorem S0:lL part (n+1) l ⟨(sg [44]).t y::(wd f5).t j::r,[]⟩=(pa part ⟨(wd f5).t j::r,[]⟩).bd λt s=>lL part n (l++[t]) s:=rfl
theorem S1{Q:Option T->Prop}(h:a∈hY)(c:Rd b (Mine.be (f+1) 1) Cl u F)(g:∀p d e k t,F t->Q (O<|aK 71 [] [t6 a d,t7 (aK 81 [84] [] e) t k] p)):
  kG b (Mine.be<|f+1) (Cn ((sg [60]).t q)<|Cn ((wd f5).t y)<|Cn ((nm a).t j)<|Cn ((sg [44]).t B)<|Cn ((wd f5).t M)<|Cn ((nm fc).t N)<|Cn ((nm fc).t G)<|Cn ((wd iS).t X)<|Cn ((nm [84]).t q8)<|Cn ((sg [61]).t Y)<|Ap u<|Cn ((sg [62]).t q0) Nl) Q:=λx r m l=>by
 show Rs b ((pa _ ⟨(wd f5).t y::(nm a).t j::(sg [44]).t B::_,[]⟩).bd λt s=>(lL _ (s.ts.length+1) [t] s).bd<|vT q.p) _;rw[SW h];show Rs b ((lL _ ((u.1<|(sg [62]).t q0::x::r).length+7+1) _ ⟨(sg [44]).t B::_,[]⟩).bd<|vT q.p) _;rw[S0,SX,SY];show Rs b ((((Mine.be (f+1) 1 ⟨u.1<|(sg [62]).t q0::x::r,[]⟩).bd λg s=>PR.ok (t7 _ g G.p) s).bd λt s=>lL _ _ _ s).bd<|vT q.p) _;exact .L<|.L<|c.nx ⟨J,J⟩ l.tl.tl.tl.tl.tl.tl.tl.tl.tl.tl (λt z=>⟨g _ _ _ _ t z,J⟩) λt s hb hs=>HT hb (gs<|dG _) hs
end
noncomputable def d9(l:Bool):List W->List W
 |[]=>[]
 |w::r=>{w with l:=l}::r
noncomputable def nJ:List (List Nat):=[[120],eW,dP,fN,[121],ri,[36,49]]
inductive fH:List W->List Nat->Int->Prop where
 |dots {a}:a∈nJ->fH [sg [46,46,46],nm a] a 8192
 |i {a}:a∈nJ->fH [nm a,sg [63]] a 4096
 |gh {a}:a∈nJ->fH [nm a] a 0
 |this:fH [wd [116,104,105,115]] [116,104,105,115] 0
noncomputable def lf(a:List Nat)(k:Option T)(fl p0 B:Int):T:=.nd 28 [] [O (c6 8 a B),k,U] fl p0
noncomputable def j4(a:List Nat)(k:Option T)(fl p:Int):T:=.nd 96 a [k] fl p
section
variable{b:Bool}{part:bY}{u v z:Px}{Q X M Y:T->Prop}{G QL':List T->Prop}{π:Nat->Pc}{i m:Nat}{q N q1 q2:Pc}{a y:List Nat}{x t:aj}{r:List aj}{w:List W}{fl p0 B:Int}{F:aj->Prop}
theorem qx(u:Px)(h:(u.1<|t::r).length<=m):∃k,m=k+1/\r.length<=k:=by
 induction m using fW with
 |zero=>exact ax (aE (u.2<|t::r).1 h)<|kQ _
 |succ k=>exact aD k J<|jT<|aE (u.2<|t::r).1 h
theorem Cj(h:x.is 5 [58]=C):gI part k ⟨x::r,[]⟩=.ok U ⟨x::r,[]⟩:=a9 λe=>bc<|h.symm.trans e
theorem HU{R:T->Sg->Prop}(d:fH w a fl)(c:y=[58]∨y=[44]∨y=[41])(g:∀p0 B,Rs b ((gI part 1 ⟨(sg y).t q::r,[]⟩).bd λk s=>.ok (lf a k fl p0 B) s) R):Rs b (pc part ⟨(bU π w i).1<|(sg y).t q::r,[]⟩) R:=by
 induction d with
 |gh=>rcases c with rfl|rfl|rfl<;>exact g _ _
 |this=>rcases c with rfl|rfl|rfl<;>exact g _ _
 |_=>exact g _ _
noncomputable def yK(u:Px):Prop:=∀r,(Sg.mk (u.1 r) []).q [41]=C
theorem HV(c:fH w a fl):yK (bU π w i):=by
 induction c<;>exactλr=>J
noncomputable def vU(b:Bool)(part:bY)(u:Px)(Q:T->Prop):Prop:=∀y q r,y=[44]∨y=[41]->eD (u.1<|(sg y).t q::r)->Rs b (pc part ⟨u.1<|(sg y).t q::r,[]⟩) (jC b Q ((sg y).t q) r)
theorem S2(d:fH w a fl)(g:∀p0 B,Q<|lf a U fl p0 B):vU b part (bU π w i) Q:=λy q r c f=>HU d (.inr c) λp0 B=>.eq (Cj<|c.elim (λe=>e▸J) λe=>e▸J)<|.inl ⟨g _ _,J⟩
theorem S3(c:fH w a fl)(d:Rd b (part 1) Cl u X)(g:∀p0 B t,X t->Q (lf a (O t) fl p0 B)):vU b part (Ap (bU π w i)<|Cn ((sg [58]).t q) u) Q:=λy N r f h=>HU c (.inl J) λp0 B=>
 .L (d.nx ⟨f.elim (λe=>e▸J) λe=>e▸J,J⟩ (lA _ h) (λt z=>.inl ⟨g _ _ t z,J⟩) λt s hb hs=>.inr ⟨hb,hs⟩)
noncomputable def tS(b:Bool)(part:bY)(u:Px)(Q:List T->Prop):Prop:=∀q r m c (R:List T->Prop),(∀ts,Q ts->R (c++ts))->eD (u.1<|(sg [41]).t q::r)->(u.1<|(sg [41]).t q::r).length<=m->Rs b (rK part m c ⟨u.1<|(sg [41]).t q::r,[]⟩) (jC b R ((sg [41]).t q) r)
theorem S4(g:G []):tS b part Nl G:=λq r m c R k d hm=>by
 refine aB (qx Nl hm) λm e d=>?_;rw[e];exact .inl ⟨cM c▸k [] g,J⟩
theorem S5(n:yK u)(h:vU b part u Q)(g:∀t,Q t->G [t]):tS b part u G:=λq r m c R k d hm=>by
 refine aB (qx u hm) λm e f=>?_;rw[e];exact Rs.j (n _)<|jC.bd (h _ q r (.inr J) d) (λt z=>.inl ⟨k _<|g t z,J⟩) λt s hb hs=>.yI hs J<|.inr ⟨hb,hs⟩
theorem S6(n:yK u)(h:vU b part u Q)(hr:∀t,Q t->rJ t=C)(f:tS b part v G)(g:∀t ts,Q t->G ts->QL' (t::ts)):tS b part (Ap u<|Cn ((sg [44]).t q) v) QL':=λN r m c R k d hm=>by
 refine aB (qx u hm) λm e hm=>?_;rw[e];exact Rs.j (n _)<|jC.bd (h _ q _ (.inl J) d) (λt z=>Rs.iT J<|Rs.iT J<|Rs.j (hr t z)<|f N r m (c++[t]) R (λts w=>b6 .. ▸k _ (g t ts z w)) (lA u d) hm) λt s hb hs=>.yI hs J<|.inr ⟨hb,hs⟩
noncomputable abbrev nK(b:Bool)(part:bY)(u:Px)(Q:T->Prop):Prop:=Rx b (pd part) (λc=>True) u Q
theorem S7(h:tS b part u G)(g:∀p ts,G ts->gW 0 C ts=[]/\Q (aK 71 [] ts p)):nK b part (Cn ((sg [40]).t q)<|Ap u<|Cn ((sg [41]).t N) Nl) Q:=λx r d c=>
 jC.bd (h N (x::r) _ [] G (λts z=>z) c.tl<|et _) (λl z=>by
  show Rs b (if(gW 0 C l).length<1000 then PR.ok (aK 71 [] l q.p) ⟨x::r,gW 0 C l⟩ else .j) _;rw[(g q.p l z).1];exact⟨(g q.p l z).2,J⟩) λt s hb hs=>.yH hb hs J
noncomputable def Lp(u:Px):Prop:=∃q v,u=Cn ((sg [40]).t q) v
theorem S8{c:Option T->Prop}(e:kG b part u c)(h2:nK b part v M)(hp:Lp v)(g:∀o p,c o->M p->Q (.nd 27 a [o,O p,U,U] fl p0))(hF:∀x,F x->Fk x):Rd b (gc part a fl p0) F (Ap u v) Q:=λx r f d=>by
 refine jV hp ?_;clear hp;rintro q w rfl;exact e.nx J d λo z=>h2.nx bk (pz d) λp h=>.eq (Cj<|(hF x f).is J)<|.inl ⟨g o p z h,J⟩
theorem S9{d:Option T->Prop}(e:kG b part u d)(h2:nK b part v M)(hp:Lp v)(f:Rd b (part 11) F z Y)(g:∀o p t,d o->M p->Y t->Q (.nd 27 a [o,O p,O t,U] fl p0)):Rd b (gc part a fl p0) F (Ap u<|Ap v<|Cn ((sg [58]).t N) z) Q:=λx r h c=>by
 refine jV hp ?_;clear hp;rintro q w rfl;exact e.nx J c λo z1=>h2.nx bk (pz c) λp j=>.L<|f.nx h (lA (Ap u<|Cn ((sg [40]).t q) w) c) (λt k=>.inl ⟨g o p t z1 j k,J⟩) λt s hb hs=>.inr ⟨hb,hs⟩
noncomputable def HW(t:aj):Bool:=decide (t.aq=1)&& !decide (t.aP=dP)
noncomputable def yL(t:aj):Bool:=decide (t.aq=5)&&[[40],[123],[60]].contains t.aP||decide (t.aq=2)&&decide (t.aP=bH)
noncomputable def vV(t:aj):Bool:=decide (t.aq=5)&&[[60],[46],[91],[124],[38]].contains t.aP
noncomputable def H2(u:Px):Prop:=∃t v,u=Cn t v/\(yL t=I∨HW t=I/\(v=Nl∨∃y w,v=Cn y w/\vV y=I))
theorem H2.j(h:H2 u)(c:vV t=I):H2 (Ap u<|Cn t v):=by
 refine eB h ?_;clear h;rintro x v1 rfl h;refine cJ x (Ap v1<|Cn t v) J<|h.imp id λh=>⟨h.1,.inr ?_⟩
 rcases h.2 with rfl|⟨y,w,rfl,c⟩
 ·exact cJ t v rfl c
 ·exact cJ y (Ap w<|Cn t v) rfl c
theorem HX(h:yL t=I):t.u=false:=by
 rcases(jr.mp h) with h|h<;>have h:=ec.mp h<;>unfold aj.u
 ·rw[D h.1,vP (by rw[D h.1];decide)];rfl
 ·rw[D h.1,pF (by rw[D h.2];decide)];rfl
theorem Ta(h:yL t=I):am part ⟨t::r,[]⟩=part 1 ⟨t::r,[]⟩:=aN (by
 rw[show(Sg.mk (t::r) []).i.u=C from HX h];exact uL _)
theorem HY(h:HW t=I)(d:x.cC=I∨x.aq≠1):am part ⟨t::x::r,[]⟩=part 1 ⟨t::x::r,[]⟩:=by
 have h:=ec.mp h
 by_cases c:x.cC=I
 ·exact aN (show(x.cC||_)=I by rw[c];rfl)
 ·have f:=d.resolve_left c;have g:t.u=true:=by unfold aj.u;rw[h.1];rfl
  have j:t.is 1 dP=false:=pF λe=>by have h:=h.2;rw[e] at h;exact bc h
  refine(a9 (show¬(x.cC|| !t.u)=I by rw[g,qc.mpr c];decide)).trans<|(a9 (show¬x.is 1 eW=I by rw[vP f];decide)).trans<|aN (show(!t.is 1 dP||_)=I by rw[j];rfl)
theorem Fk.k1(h:Fk x):x.cC=I∨x.aq≠1:=h.cs.imp id λe=>by rw[e.2.1];decide
theorem Tb(h:vV t=I):t.aq≠1:=by rw[D (ec.mp h).1];decide
theorem HZ(f:Rd b (part 1) F u Q)(h2:H2 u)(hF:∀x,F x->Fk x):Rd b (am part) F u Q:=λx r c d=>by
 have e:am part ⟨u.1<|x::r,[]⟩=part 1 ⟨u.1<|x::r,[]⟩:=by
  clear d;refine eB h2 ?_;rintro t v rfl h;exact h.elim Ta λh=>h.2.elim (λe=>by rw[e];exact HY h.1 (hF x c).k1) λe=>eB e λy w e g=>by rw[e];exact HY h.1<|.inr<|Tb g
 rw[e];exact f x r c d
theorem H0(c:Rd b (part 1) F u X)(g:∀p t,X t->Q (j4 a (O t) 0 p)):Rd b (am part) F (Cn ((nm a).t q)<|Cn ((nm eW).t q1) u) Q:=λx r d e=>
 c.nx d e.tl.tl (λt z=>.inl ⟨g q.p t z,J⟩) λt s hb hs=>.inr ⟨hb,hs⟩
theorem H5(g:∀p,Q<|j4 dP U 16777216 p):Rd b (am part) (Fy dP) (Cn ((nm dP).t q)<|Cn ((nm dP).t q1) Nl) Q:=λx r c d=>by
 show Rs b (cL 1 eW ⟨x::r,[]⟩ λi s=>if i then(part 1 s).bd λk s=>.ok (j4 dP (O k) 16777216 q.p) s else if s.q [38]||s.q [124] then Mine.b8 1228 s else .ok (j4 dP U 16777216 q.p) s) _;exact .q c.q<|Rs.j J<|Rs.j (show(x.is 5 [38]||x.is 5 [124])=C by rw[c.1.is J,c.1.is J];rfl)<|Or.inl ⟨g q.p,J⟩
theorem H6(c:Rd b (part 1) F u X)(g:∀p t,X t->Q (j4 eV (O t) 16777216 p)):Rd b (am part) F (Cn ((nm dP).t q)<|Cn ((wd eV).t q1)<|Cn ((nm eW).t q2) u) Q:=λx r d e=>
 c.nx d e.tl.tl.tl (λt z=>.inl ⟨g q.p t z,J⟩) λt s hb hs=>.inr ⟨hb,hs⟩
noncomputable def tT(u:Px):Prop:=u=Nl∨∃q v,u=Cn ((sg [60]).t q) v
noncomputable def Td(part:bY)(fl p0:Int)(s:Sg):PR T:=(kZ part s).bd λc s=>(pd part s).bd λps s=>c7 fB s λs=>(part 11 s).bd λr s=>.ok (.nd 27 [] [c,O ps,O r,U] fl p0) s
theorem Te{d:Option T->Prop}(e:kG b part u d)(h2:nK b part v M)(hp:Lp v)(f:Rd b (part 11) F z Y)(g:∀q o p t,d o->M p->Y t->Q (.nd 27 [] [o,O p,O t,U] fl q)):Rd b (Td part fl p0) F (Ap u<|Ap v<|Cn ((sg fB).t q) z) Q:=λx r h c=>by
 refine jV hp ?_;clear hp;rintro q0 w rfl;exact e.nx J c λo z1=>h2.nx bk (pz c) λp j=>f.nx h (lA (Ap u<|Cn ((sg [40]).t q0) w) c) (λt k=>.inl ⟨g p0 o p t z1 j k,J⟩) λt s hb hs=>.inr ⟨hb,hs⟩
theorem H7{d:Option T->Prop}(k:w=[]/\fl=2048∨w=[wd bH,sp]/\fl=3072)(e:kG b part u d)(c:tT u)(h2:nK b part v M)(hp:Lp v)(f:Rd b (part 11) F z Y)(g:∀q o p t,d o->M p->Y t->Q (.nd 27 [] [o,O p,O t,U] fl q)):Rd b (rL part) F (Ap (bU π w i)<|Ap u<|Ap v<|Cn ((sg fB).t q) z) Q:=λx r h j=>by
 have go:=λp0=>Te (p0:=p0) e h2 hp f g x r h<|pz j;clear j e h2 f g h
 rcases k with⟨rfl,rfl⟩|⟨rfl,rfl⟩
 ·unfold rL;refine Rs.q ?_ ?_
  ·refine jV hp ?_;rintro q0 w rfl
   rcases c with rfl|⟨_,_,rfl⟩<;>rfl
  ·exact go _
 ·exact go _
end
noncomputable def dY:List W:=[nm [97],nm fN,nm f6,nm gv,nm eW,st [97,45,98] [34,97,45,98,34],st [] [34,34],nu [48],st [48,55] [34,48,55,34],st [49,101,51] [34,49,101,51,34],wd f5,st AQ OB,nm fc,nu [52,50],nm [36,95]]
inductive fT(w:W):List W->Int->Prop where
 |gh:fT w [w] 0
 |i:fT w [w,sg [63]] 4096
 |ro:fT w [nm [114,101,97,100,111,110,108,121],sp,w] 131072
 |j:fT w [nm [114,101,97,100,111,110,108,121],sp,w,sg [63]] 135168
noncomputable def hZ(c:List W):List Nat:=(c.getLast?.map W.x).getD []
noncomputable def H8(part:bY)(p flags:Int)(s:Sg)(c d:Bool):PR T:=
 if c then c7 [91] s λs=>hU s λa s=>c7 [58] s λs=>(part 1 s).bd λk s=>c7 [93] s λs=>c7 [58] s λs=>(part 1 s).bd λv s=>.ok (.nd 63 a [O k,O v] flags p) s
 else if d then b8 9002 s else tv part flags s
noncomputable def H9(part:bY)(s:Sg)(d e ro:Bool):PR T:=
 if d then gc part [] 512 s.i.aJ s else if e then gc part [] 1024 s.i.aJ s.j else
 let c:=if ro then s.j else s
 H8 part s.i.aJ (if ro then 131072 else 0) c (c.q [91]&&(decide ((c.u 1).aq=1)&&(c.u 2).is 5 [58])) ((c.y f6||c.y gv)&&(c.u 1).j)
noncomputable def Ia(part:bY)(a:List Nat)(fl p:Int)(s:Sg):PR T:=if s.i.q&&decide (fl<131072) then gc part a (fl+32) p s else(gI part 1 s).bd λk s=>.ok (.nd 99 a [k] fl p) s
noncomputable def vW(part:bY)(a:List Nat)(fl p:Int)(s:Sg)(q:Bool):PR T:=Ia part a (if q then fl+4096 else fl) p<|if q then s.j else s
noncomputable def pG(t y:aj):Bool:=(t.is 2 bH&&y.q)||((t.is 1 fN&&(y.j&& !y.cC))||((t.is 1 f6||t.is 1 gv)&&y.j))
section
variable{b:Bool}{f:Nat}{part:bY}{u v z:Px}{Q j Q2 Q3:T->Prop}{QL N:List T->Prop}{B:Nat->Pc}{i m:Nat}{q G q0 q1 X q3 q4 Y:Pc}{a y:List Nat}{x t:aj}{r:List aj}{w:List W}{n:W}{fl M p1:Int}{F:aj->Prop}{l:Bool}
theorem tU(h:t.i=I):t.is 5 k=false:=vP λe=>by unfold aj.i at h;rw[e] at h;exact bc h
theorem Tf(h:t.i=I)(r:List aj):(Sg.mk (t::r) []).j=⟨r,[]⟩:=a9 λe=>by
 have e:t.aq=0:=e;unfold aj.i at h;rw[e] at h;exact bc h
theorem Tg(h:t.i=I):tv part fl ⟨t::r,[]⟩=vW part t.aP fl t.aJ ⟨r,[]⟩ ((Sg.mk r []).q [63]):=by
 show(if t.i=I then vW part t.aP fl t.aJ (Sg.mk (t::r) []).j ((Sg.mk (t::r) []).j.q [63]) else _)=_;rw[aN h,Tf h]
theorem Ib(h:t.i=I)(h4:((t.is 1 f6||t.is 1 gv)&&x.j)=C):H8 part M fl ⟨t::x::r,[]⟩ ((Sg.mk (t::x::r) []).q [91]&&(decide (((Sg.mk (t::x::r) []).u 1).aq=1)&&((Sg.mk (t::x::r) []).u 2).is 5 [58])) ((t.is 1 f6||t.is 1 gv)&&x.j)=vW part t.aP fl t.aJ ⟨x::r,[]⟩ (x.is 5 [63]):=by
 rw[show(Sg.mk (t::x::r) []).q [91]=C from tU h,h4];exact Tg h
theorem Ic(h:t.i=I)(d:pG t x=C):lM part ⟨t::x::r,[]⟩=vW part t.aP 0 t.aJ ⟨x::r,[]⟩ (x.is 5 [63]):=by
 have o1:=kl.mp d;have c:=kl.mp o1.2;show H9 part ⟨t::x::r,[]⟩ (t.is 5 [40]||t.is 5 [60]) (t.is 2 bH&&x.q) (t.is 1 fN&&(x.j&& !x.cC))=_;rw[tU h,tU h,o1.1,c.1];exact Ib h c.2
theorem Ie(h:t.i=I)(c:t.cC=C)(h4:((t.is 1 f6||t.is 1 gv)&&x.j)=C):lM part ⟨({nm fN with l:=l}:W).t q::t::x::r,[]⟩=vW part t.aP 131072 t.aJ ⟨x::r,[]⟩ (x.is 5 [63]):=by
 show H9 part ⟨_::t::x::r,[]⟩ C C ((t.i||_)&& !t.cC)=_;rw[h,c];exact Ib h h4
theorem Ck(c:x.q=C)(h2:x.j=C):pG t x=false:=by
 unfold pG;rw[c,h2];simp only[mW,oj,ac6]
theorem Ig(h:pG t x=C):((t.is 1 f6||t.is 1 gv)&&x.j)=false:=(kl.mp (kl.mp h).2).2
theorem yM(c:(n.t q).i=I):bU B ({n with l:=l}::w) i=Cn (({n with l:=l}:W).t<|B i) (bU B w<|i+1):=by
 have d:decide (n.k=9)=false:=dO λe=>by unfold aj.i W.t at c;dsimp only at c;rw[e] at c;exact bc c
 show cond (decide (n.k=9)) _ _=_;rw[d];rfl
theorem Cm(g:(n.t q).i=I)(h:n.l=C)(s:fT n w fl)(k:x.is 5 [63]=C)(o:w.getLast? =O n->pG (n.t q) x=C):∃p,lM part ⟨(bU B (d9 l w) i).1<|x::r,[]⟩=Ia part n.x fl p ⟨x::r,[]⟩:=by
 have e1:∀l j,bU B [{n with l:=l}] j=Cn (({n with l:=l}:W).t<|B j) Nl:=λl j=>yM g;have e2:∀l j,bU B [{n with l:=l},sg [63]] j=Cn (({n with l:=l}:W).t<|B j) (Cn ((sg [63]).t<|B<|j+1) Nl):=λl j=>yM g;have en:{n with l:=C}=n:=by obtain⟨a,b,c,d,e⟩:=n;cases h;rfl
 have g:∀l j,(({n with l:=l}:W).t<|B j).i=true:=λA A=>g
 induction s with
 |gh=>
  refine⟨(B i).p,?_⟩;rw[e1];rw[Ic (g l i) (o J),k];rfl
 |i=>
  refine⟨(B i).p,?_⟩;rw[e2];rw[Ic (g l i) (Ck J J)];rfl
 |ro=>
  refine⟨(B<|i+1+1).p,?_⟩;have e:=e1 C<|i+1+1;have g:=g C<|i+1+1;rw[en] at e g;show lM part ⟨({nm fN with l:=l}:W).t (B i)::(bU B [n]<|i+1+1).1 (x::r),[]⟩=_;rw[e];rw[Ie g h (Ig<|o J),k];rfl
 |j=>
  refine⟨(B<|i+1+1).p,?_⟩;have e:=e2 C<|i+1+1;have g:=g C<|i+1+1;rw[en] at e g;show lM part ⟨({nm fN with l:=l}:W).t (B i)::(bU B [n,sg [63]]<|i+1+1).1 (x::r),[]⟩=_;rw[e];rw[Ie g h (Ig<|Ck J J)];rfl
noncomputable def yN(l:Bool)(t:aj):Bool:=t.i||(decide (t.aq=5)&&(decide (t.aP=[91])||(!l&&(decide (t.aP=[40])||decide (t.aP=[60])))))
noncomputable def Co(l:Bool)(u:Px):Prop:=∃t v,u=Cn t v/\t.cC=l/\yN l t=I
theorem Cp(c:(n.t q).i=I)(d:fT n w fl):Co l (bU B (d9 l w) i):=by
 have hm:∀j,yN l (({n with l:=l}:W).t<|B j)=true:=λj=>jr.mpr<|.inl c
 induction d with
 |gh=>exact cK _ _ (yM c) J<|hm i
 |i=>exact cK _ _ (yM c) J<|hm i
 |_=>exact cK _ _ J J J
noncomputable def lQ(b:Bool)(part:bY)(l:Bool)(F:aj->Prop)(u:Px)(Q:T->Prop):Prop:=Co l u/\Rd b (lM part) F u Q
theorem Th(c:(n.t q).i=I)(k:n.l=C)(d:fT n w fl)(hF:∀x,F x->Fk x/\(w.getLast? =O n->pG (n.t q) x=C))(g:∀p,Q<|.nd 99 n.x [U] fl p):lQ b part l F (bU B (d9 l w) i) Q:=by
 refine⟨Cp c d,λx r j o=>?_⟩;have h:=(hF x j).1;obtain⟨p,e⟩:=Cm c k d (h.is J) (hF x j).2;rw[e];exact Rs.j (show(x.q&&_)=C by rw[show x.q=C by unfold aj.q;rw[h.is J,h.is J];rfl];rfl)<|.eq (Cj<|h.is J)<|.inl ⟨g p,J⟩
theorem Ti(d:(n.t q).i=I)(k:n.l=C)(h:fT n w fl)(o:Rd b (part 1) F u j)(g:∀p t,j t->Q (.nd 99 n.x [O t] fl p)):lQ b part l F (Ap (bU B (d9 l w) i)<|Cn ((sg [58]).t G) u) Q:=by
 refine⟨cU (Cp d h) λt v e A h2=>cK t (Ap v _) (by rw[e];rfl) A h2,λx r E c=>?_⟩;obtain⟨p,e⟩:=Cm (x:=(sg [58]).t G) d k h J λH=>Ck J J;rw[e];exact Rs.j J<|.L<|o.nx E (lA _ c) (λt z=>.inl ⟨g p t z,J⟩) λt s hb hs=>.inr ⟨hb,hs⟩
noncomputable def Sh(u:Px):Prop:=∃y q v,u=Cn ((sg y).t q) v/\(y=[40]∨y=[60])
theorem Tj(d:(n.t q).i=I)(j:n.l=C)(g:fT n w fl)(k:(n.t q).is 2 bH=C)(o:fl=0∨fl=4096)(h:Sh u)(hs:∀p,Rd b (gc part n.x (fl+32) p) F u Q):lQ b part l F (Ap (bU B (d9 l w) i) u) Q:=by
 refine⟨cU (Cp d g) λt v e s h2=>cK t (Ap v _) (by rw[e];rfl) s h2,λx r A c=>?_⟩;refine iU h ?_;clear h;rintro y q0 v rfl E;have hp:((sg y).t q0).j=C/\((sg y).t q0).q=I/\((sg y).t q0).is 5 [63]=false:=by rcases E with rfl|rfl<;>exact⟨rfl,rfl,rfl⟩
 obtain⟨p,e⟩:=Cm d j g hp.2.2 λG=>by
  unfold pG;rw[k,hp.1];simp only[mW,oj,ac6]
 rw[e];exact Rs.iT (ec.mpr ⟨hp.2.1,o.elim (λe=>e▸J) λe=>e▸J⟩)<|hs p x r A<|pz c
theorem Tm(c:Sh u)(hs:∀p,Rd b (gc part [] 512 p) F u Q):lQ b part C F u Q:=by
 refine iU c ?_;clear c;rintro y q0 v rfl d;refine⟨cK _ _ J J<|d.elim (λe=>e▸J) λe=>e▸J,λx r h g=>?_⟩;rw[show lM part ⟨(Cn ((sg y).t q0) v).1<|x::r,[]⟩=gc part [] 512 q0.p ⟨(Cn ((sg y).t q0) v).1<|x::r,[]⟩ by clear g hs;rcases d with rfl|rfl<;>rfl];exact hs _ x r h g
theorem Tn(c:Sh u)(hs:∀p,Rd b (gc part [] 1024 p) F u Q):lQ b part l F (Cn (({wd bH with l:=l}:W).t q) u) Q:=by
 refine iU c ?_;clear c;rintro y q0 v rfl e;refine⟨cK _ _ J J J,λx r g d=>?_⟩;rw[show lM part ⟨(Cn (({wd bH with l:=l}:W).t q)<|Cn ((sg y).t q0) v).1<|x::r,[]⟩=gc part [] 1024 q.p ⟨(Cn ((sg y).t q0) v).1<|x::r,[]⟩ by clear d hs;rcases e with rfl|rfl<;>rfl];exact hs _ x r g d.tl
noncomputable def Ih(B:Nat->Pc)(a:List Nat)(i:Nat)(u:Px):Px:=Cn ((nm a).t<|B i)<|Cn ((sg [58]).t<|B<|i+1)<|Cn ((nm kS).t<|B<|i+3)<|Cn ((sg [93]).t<|B<|i+4)<|Cn ((sg [58]).t<|B<|i+5) u
theorem To(c:Rd b (Mine.be (f+1) 1) F u j)(g:∀p d t,j t->Q (.nd 63 a [O (c6 80 kS d),O t] 0 p)):lQ b (Mine.be<|f+1) l F (Cn (({sg [91] with l:=l}:W).t q)<|Ih B a i u) Q:=
 ⟨cK _ _ J J J,λx r e h=>c.nx e h.tl.tl.tl.tl.tl.tl (λt z=>.inl ⟨g q.p _ t z,J⟩) λt s hb hs=>.inr ⟨hb,hs⟩⟩
theorem Tp(c:Rd b (Mine.be (f+1) 1) F u j)(g:∀p d t,j t->Q (.nd 63 a [O (c6 80 kS d),O t] 131072 p)):lQ b (Mine.be<|f+1) l F (Cn (({nm fN with l:=l}:W).t q)<|Cn ((sg [91]).t G)<|Ih B a i u) Q:=
 ⟨cK _ _ J J J,λx r e h=>c.nx e h.tl.tl.tl.tl.tl.tl.tl (λt z=>.inl ⟨g q.p _ t z,J⟩) λt s hb hs=>.inr ⟨hb,hs⟩⟩
end
section
variable{b:Bool}{f:Nat}{part:bY}{u v z:Px}{Q N X Q3:T->Prop}{G M:List T->Prop}{π:Nat->Pc}{i m:Nat}{q q' q0 q1 Y q3 q4 q5:Pc}{a y:List Nat}{x t:aj}{r:List aj}{F:aj->Prop}{l:Bool}{B:List T}
noncomputable def qy(b:Bool)(part:bY)(l:Bool)(u:Px)(Q:List T->Prop):Prop:=Co l u/\∀q r m B (R:List T->Prop),(∀ts,Q ts->R (B++ts))->eD (u.1<|(sg [125]).t q::r)->(u.1<|(sg [125]).t q::r).length<=m->Rs b (nk part m B ⟨u.1<|(sg [125]).t q::r,[]⟩) λts s=>R ts/\s=⟨(sg [125]).t q::r,[]⟩
theorem Cq(h:yN l t=I):t.is 5 [125]=C/\t.is 5 [44]=C/\t.is 5 [59]=false:=by
 rcases jr.mp h with h|h
 ·exact⟨tU h,tU h,tU h⟩
 ·have h:=(ec.mp h).2;have k:∀y,(decide (y=[91])||(!l&&(decide (y=[40])||decide (y=[60]))))=C->t.is 5 y=false:=λy e=>pF λq=>by rw[q,e] at h;exact bc h
  exact⟨k _ (by cases l<;>rfl),k _ (by cases l<;>rfl),k _<|by cases l<;>rfl⟩
theorem Sk.j{c:Type}(hb:b=I)(h:Sk s){f:Sg->PR c}{R:c->Sg->Prop}:Rs b (qn s f) R:=by
 refine .yI h J<|Rs.j J<|Rs.j ?_ (.b8 hb h.ns);refine cU h ?_;rintro t r rfl e g;have k:∀y,rW y=C->decide (t.aP=y)=false:=λy e=>dO λq=>by rw[q,e] at g;exact bc g
 show((decide (t.aq=0)||t.cC)||(decide (t.aq=5)&&(decide (t.aP=[59])||decide (t.aP=[125]))))=C;rw[e.1,e.2,k _ J,k _ J];rfl
theorem Cr{R:List T->Sg->Prop}(h:lQ b part l F u Q)(c:F x)(d:eD<|u.1<|x::r)(k:∀t,Q t->Rs b (cL 5 [44] ⟨x::r,[]⟩ λb s=>if b then nk part m (B++[t]) s else qn s λs=>nk part m (B++[t]) s) R):Rs b (nk part (m+1) B ⟨u.1<|x::r,[]⟩) R:=
 Rs.j (cU h.1 λt v e g ht=>by rw[e];exact(Cq ht).1) (jC.bd (h.2 x r c d) k λt s hb hs=>.yI hs J<|Rs.j J<|hs.j hb)
theorem Tq(h:lQ b part l F u Q)(hF:∀q,F<|(sg [125]).t q)(g:∀t,Q t->G [t]):qy b part l u G:=by
 refine⟨h.1,λq r m B R k c hm=>?_⟩;obtain⟨m,rfl⟩:∃k,m=k+2:=by
  refine cU h.1 ?_;rintro t v rfl _ _;refine aB (qx Nl hm) λm e hm=>aB (qx v hm) λd j o=>⟨d,by rw[e,j]⟩
 exact Cr h (hF q) c λt z=>(⟨k _<|g t z,J⟩:R (B++[t])/\_)
theorem Ii(o:y=[59]∨y=[44])(h:lQ b part l F u Q)(hF:∀q,F<|(sg y).t q)(j:qy b part C v G)(g:∀t ts,Q t->G ts->M (t::ts)):qy b part l (Ap u<|Cn ((sg y).t q) v) M:=by
 refine⟨cU h.1 λt w e p h2=>cK t (Ap w _) (by rw[e];rfl) p h2,λq' r m B R k c hm=>?_⟩;refine aB (qx u hm) λm e hm=>?_;rw[e];refine Cr (r:=v.1<|(sg [125]).t q'::r) h (hF q) c λt z=>?_;have d:=j.2 q' r m (B++[t]) R (λts w=>b6 .. ▸k _ (g t ts z w)) (lA u c) hm;clear c h j
 rcases o with rfl|rfl<;>exact d
theorem Tt(h:lQ b part l F u Q)(c:qy b part I v G)(hF:∀t w,v=Cn t w->F t)(g:∀t ts,Q t->G ts->M (t::ts)):qy b part l (Ap u v) M:=by
 refine⟨cU h.1 λt w e o h2=>cK t (Ap w v) (by rw[e];rfl) o h2,λq' r m B R k d hm=>?_⟩;refine cU c.1 ?_;rintro t w rfl e1 e2;refine aB (qx u hm) λm e _=>?_;subst e;refine Cr (r:=w.1<|(sg [125]).t q'::r) h (hF t w J) d λj z=>.q (Cq e2).2.1<|Rs.j J<|.q (Cq e2).2.2<|Rs.j J<|Rs.iT ?_ (c.2 q' r m (B++[j]) R (λts w=>b6 .. ▸k _ (g j ts z w)) (pz d) ?_)
 ·show((decide (t.aq=0)||t.cC)||_)=I;rw[e1,uL];rfl
 ·refine cU h.1 ?_;rintro p w2 rfl _ _;exact aE (w2.2 _).1<|jT hm
theorem Ij(c:qy b part C u G)(g:∀p ts,G ts->Q (aK 71 [] ts p)):Rx b (gK part) (λd=>True) (Cn ((sg [123]).t q)<|Ap u<|Cn ((sg [125]).t q') Nl) Q:=λx r d e=>
 (c.2 q' (x::r) _ [] G (λts z=>z) e.tl<|et _).bd λts s hs=>hs.2▸⟨g _ ts hs.1,J⟩
theorem Tu(g:∀p,Q<|aK 71 [] [] p):Rx b (gK part) (λc=>True) (Cn ((sg [123]).t q)<|Cn ((sg [125]).t q') Nl) Q:=λx r c c=>⟨g _,J⟩
theorem Rs.cN{c:Type}{p:PR c}{R:c->Sg->Prop}(h:Rs C p R):∃a s,p=.ok a s/\R a s:=by
 induction p using PR.casesOn with
 |ok a s=>exact cJ a s J h
 |d8 ns=>exact bc h
 |j=>exact h.elim
noncomputable def Hg(b:Bool)(part:bY)(u:Px)(Q:T->Prop):Prop:=∃c,(∀r,c+cb r<=cb (u.1 r))/\∀x r,yJ x->eD (u.1<|x::r)->(b=I/\∃ns,my part ⟨u.1<|x::r,[]⟩=.d8 ns)∨∃t,Q t/\my part ⟨u.1<|x::r,[]⟩=mw part (60-c) t ⟨x::r,[]⟩
theorem vX(h:nI b part u Q):Hg b part u Q:=by
 refine aD 0 (λr=>by rw[c9];exact(u.2 r).2) λx r c d=>?_;have h:=h x r c d;show(b=I/\∃ns,(fC part ⟨u.1<|x::r,[]⟩).bd _=.d8 ns)∨∃t,Q t/\(fC part ⟨u.1<|x::r,[]⟩).bd _=_;generalize fC part ⟨u.1<|x::r,[]⟩=z at h⊢
 induction z using PR.casesOn with
 |ok t s=>exact .inr<|aD t h.1 (by rw[h.2];rfl)
 |d8 ns=>exact .inl ⟨h,ns,J⟩
 |j=>exact h.elim
theorem vY(a b:List aj):cb (a++b)=cb a+cb b:=by simp[cb,Ni]
theorem Il(h:Hg b part u N)(g:∀t,N t->Q (aK 85 [] [t] t.aJ)):Hg b part (Ap u<|Cn ((sg [91]).t q)<|Cn ((sg [93]).t q') Nl) Q:=by
 refine aB h λc hc h=>?_;have d:∀r,c+1+cb r<=cb (u.1<|(sg [91]).t q::(sg [93]).t q'::r):=λr=>by
  have:=hc<|(sg [91]).t q::(sg [93]).t q'::r;rw[rU,rU,show qt ((sg [91]).t q)=I from J,show qt ((sg [93]).t q')=C from J] at this;rw[ER];exact this
 refine aD (c+1) d λx r k j=>(h ((sg [91]).t q) ((sg [93]).t q'::x::r) ⟨J,J⟩ j).imp id λh=>aB h λt z e=>aD _ (g t z) ?_;have hc:60-c=(60-(c+1))+1:=(Aj<|ac7<|km 1 c▸aE (d7 ..) (aE (d<|x::r)<|aE j.2<|D J)).symm;refine e.trans ?_;rw[hc];rfl
theorem Tv(h:(x.is 5 [91]&& !x.cC)=C):mw part m c ⟨x::r,[]⟩=.ok c ⟨x::r,[]⟩:=by
 induction m using fW<;>exact a9 λe=>bc<|h.symm.trans e
theorem vZ(h:Hg b part u Q):Rx b (my part) NH u Q:=λx r d g=>by
 refine aB h λc hc h=>(h x r d.1 g).elim (λh=>h.2.elim λns e=>?_) λh=>aB h λt q e=>?_
 ·rw[e];exact h.1
 ·rw[e,Tv d.2];exact⟨q,J⟩
theorem rX(h:H2 u){r:List aj}{y:List Nat}(c:([[40],[123],[60]]:List<|List Nat).contains y=C):(Sg.mk (u.1 r) []).i.is 5 y=false:=by
 refine eB h ?_;clear h;rintro t v rfl h;have k:t.aq≠5∨([[40],[123],[60]]:List<|List Nat).contains t.aP=true:=h.elim (λh=>(jr.mp h).elim (λh=>.inr (ec.mp h).2) λh=>.inl (by rw[D (ec.mp h).1];decide)) λh=>.inl (by rw[D (ec.mp h.1).1];decide);exact k.elim vP λk=>pF λ(e:t.aP=y)=>by rw[e,c] at k;exact bc k
theorem Cs(h:Hg C part u Q)(h2:H2 u):Rx C (jZ part) NI u Q:=λx r c d=>
 .q (rX h2 J) ((vZ h).nx c.1 d λt z=>Rs.j c.2 ⟨z,J⟩)
theorem Im{s:Sg}(h:s.q c=C):jy c item (m+1) B s=.ok B s:=a9 λe=>bc<|h.symm.trans e
theorem Tw(h:Hg C part u N)(h2:H2 u)(j:Hg C part v X)(g:∀t c,N t->X c->Q (aK 84 [] [t,c] t.aJ)):Rx C (jZ part) NI (Ap u<|Cn ((sg [38]).t q) v) Q:=λx r d e=>
 .q (rX h2 J) ((vZ h).nx ⟨⟨J,J⟩,J⟩ e λt z=>.L<|(vZ j).nx d.1 (lA u e) λc k=>.eq (Im d.2) ⟨g t c z k,J⟩)
theorem Io(h:Rx C (jZ part) NI u Q)(h2:H2 u):Rx C (rI part) NU u Q:=λx r c d=>
 .q (rX h2 J) (h.nx c.1 d λt z=>Rs.j c.2 ⟨z,J⟩)
theorem Tx(h:Rx C (jZ part) NI u N)(h2:H2 u)(j:qw C (jZ part) [124] NI v G)(g:∀t ts,N t->G ts->Q (aK 83 [] (t::ts) t.aJ)):Rx C (rI part) NU (Ap u<|Cn ((sg [124]).t q) v) Q:=λx r c d=>
 .q (rX h2 J) (h.nx ⟨⟨⟨J,J⟩,J⟩,J⟩ d λt z=>jC.bd (j x r (λk=>(v.1<|x::r).length+1) [t] (λts=>∃r,ts=t::r/\G r) (λts w=>aD ts J w) c.1 c.2 (lA u d) (λk=>gs<|dG _) λs hs=>f4 hs) (λts w=>aB w λts e w=>e▸⟨g t ts z w,J⟩) λt s hb=>bc hb)
noncomputable def Nf(u:Px):Prop:=∀x r,x.is 5 fB=C->qo ⟨u.1<|x::r,[]⟩=C
theorem Ct(h:Rx C (rI part) NU u Q)(d:Nf u)(hF:∀x,F x->Fk x):Rd C (j0 part) F u Q:=λx r c e=>
 Rs.j (d x r<|(hF x c).is J) ((h x r (hF x c).nu e).au λt s hs=>.inl hs)
theorem Ip(h:Rd b (rL part) F u Q)(c:∀r,qo ⟨u.1 r,[]⟩=I):Rd b (j0 part) F u Q:=λx r d e=>Rs.iT (c _)<|h x r d e
theorem Nf.j(h:Nf u)(c:x.is 5 fB=C):Nf (Ap u<|Cn x v):=λx r d=>h _ _ c
theorem v0(h:t.is 5 [60]=C/\t.is 2 bH=C/\t.is 5 [40]=C):Nf (Cn t u):=λx r c=>by
 show(if t.is 5 [60]||t.is 2 bH then I else if !t.is 5 [40] then C else _)=C;rw[h.1,h.2.1,h.2.2];rfl
theorem Tz{y:aj}(h:vV y=I):tt ⟨x::t::y::r,[]⟩ 2=false:=by
 have h:=ec.mp h;have c:∀z,([[60],[46],[91],[124],[38]]:List<|List Nat).contains z=C->y.aP≠z:=λz e q=>by
  have h:=h.2;rw[q,e] at h;exact bc h
 refine(aN<|D h.1).trans<|(a9 λo=>o.elim (c _ J) λo=>o.elim (c _ J) λo=>o.elim (c _ J)<|c _ J).trans ?_;rw[dO (c _ J)];rfl
theorem Iq(h:H2 u):Nf (Cn ((sg [40]).t q)<|Ap u<|Cn ((sg [41]).t q') Nl):=λx r c=>by
 have d:=rX (r:=[]) (y:=[41]) h J;have e:=rX (r:=[]) (y:=hN) h J;refine eB h ?_;clear h;rintro t v rfl h;show(if t.is 5 [41]||t.is 5 hN then I else if t.u then tt ⟨(sg [40]).t q::t::v.1 ((sg [41]).t q'::x::r),[]⟩ 2 else C)=C;rw[d,e];refine h.elim (λh=>by rw[HX h];rfl) λh=>?_;rw[show tt ⟨(sg [40]).t q::t::v.1 ((sg [41]).t q'::x::r),[]⟩ 2=C by rcases h.2 with rfl|⟨y,w,rfl,g⟩;exact c;exact Tz g];exact ite_self _
end
noncomputable abbrev Tr{a:Type}:a->Prop:=λb=>True
structure AA(n:Nat)(u:Px):Prop where
 hg:∀f,n+1<=f->f<=15->Hg true (be f) u Tr
 nf:Nf u
 h2:H2 u
noncomputable def Sa(s:Sg):Prop:=∃q r,s=⟨(sg fB).t q::r,[]⟩
noncomputable def NF(h:Px):Prop:=∀f,1<=f->f<=15->∀r,r≠[]->Rs I (fC (be f) ⟨h.1 r,[]⟩) λa s=>Sa s
noncomputable def HF(h:Px):Prop:=∃t v,h=Cn t v/\yL t=I
noncomputable def mH(c:List Nat):Prop:=c=[124]∨c=[38]
class inductive Tl(n:Nat):Px->Prop where
 |eE {u}:AA n u->Tl n u
 |op {u v c q}:AA n u->mH c->Tl n v->Tl n (Ap u (Cn ((sg c).t q) v))
 |nf {h w}:NF h->HF h->Tl n (Ap h w)
noncomputable def v7(n:Nat)(h:Px):Prop:=∀g,n<=g->g+2<=15->∀y v,H2 v->Rd I (j0<|be g) (Fy y) v Tr->Rd I (j0<|be<|g+2) (Fy y) (Ap h v) Tr
noncomputable def Wy(y:List Nat)(w:Px):Prop:=w=Nl/\y=dP∨∃c q v,w=Cn ((sg c).t q) v/\(c=[91]∨mH c)
noncomputable def v8(n:Nat)(h:Px):Prop:=∀g,n<=g->g<=15->∀y w,Wy y w->Rd I (j0<|be g) (Fy y) (Ap h w) Tr
class inductive Sq(y:List Nat):Nat->Nat->Px->Prop where
 |tl {n l v}:Tl n v->Nf v->Sq y n l v
 |fn {n l h v}:v7 n h->NF h->HF h->Sq y n l v->Sq y (n+2) (l+2) (Ap h v)
 |fp {n l h w}:v8 n h->NF h->HF h->Wy y w->Sq y n l (Ap h w)
section
variable{n m l F k f:Nat}{u v w z:Px}{c y G:List Nat}{q B M:Pc}{x t:aj}{r:List aj}{s:Sg}{P P':List Nat->Prop}
theorem Sa.sk(h:Sa s):Sk s:=jV h λq r e=>e▸cK _ r J ⟨J,J⟩ J
theorem AA.gi(h:AA n u):AA n (Ap u<|Cn ((sg [91]).t q)<|Cn ((sg [93]).t B) Nl):=⟨λf a c=>Il (h.hg f a c) λb b=>bk,h.nf.j J,h.h2.j J⟩
theorem AA.au(h:AA n u)(e:n<=m):AA m u:=⟨λf a=>h.hg f<|aE (gs e) a,h.nf,h.h2⟩
theorem Tl.au(h:Tl n u)(e:n<=m):Tl m u:=by
 induction h with
 |eE a=>exact .eE<|a.au e
 |op a c _ d=>exact .op (a.au e) c d
 |nf a b=>exact .nf a b
theorem v7.au(h:v7 n u)(e:n<=m):v7 m u:=λg hg=>h g<|aE e hg
theorem v8.au(h:v8 n u)(e:n<=m):v8 m u:=λg hg=>h g<|aE e hg
theorem rY(h:n+2<=m):∃k,m=k+2/\n<=k:=aD (m-2) (Aj<|aE (hG ..) h).symm<|ac7 h
theorem Sq.au(h:Sq y n l u):∀{m F},n<=m->l<=F->Sq y m F u:=by
 induction h with
 |tl a b=>exactλe g=>.tl (a.au e) b
 |fn a b c _ i=>
  intro m F e d;refine aB (rY e) ?_;rintro m rfl e;refine aB (rY d) ?_;rintro F rfl d;exact .fn (a.au e) b c<|i e d
 |fp a b c w=>exactλe g=>.fp (a.au e) b c w
theorem Sq.j(h:Sq y n l u):Tl n u:=by
 induction h with
 |tl a b=>exact a
 |fn a b c _=>exact .nf b c
 |fp a b c w=>exact .nf b c
theorem mH.is(h:mH c):((sg c).t q).is 5 fB=C/\vV ((sg c).t q)=I/\NH ((sg c).t q):=by
 rcases h with rfl|rfl<;>exact⟨rfl,rfl,⟨rfl,rfl⟩,rfl⟩
theorem Tl.i(h:Tl n u)(hc:mH c)(d:Tl n w):Tl n (Ap u<|Cn ((sg c).t q) w):=by
 induction h with
 |eE a=>exact .op a hc d
 |op a b _ e=>exact(Tl.op a b e:)
 | @nf h z a b=>exact(Tl.nf (w:=Ap z<|Cn ((sg c).t q) w) a b:)
theorem Tl.gi(h:Tl n u):Tl n (Ap u<|Cn ((sg [91]).t q)<|Cn ((sg [93]).t B) Nl):=by
 induction h with
 |eE a=>exact .eE a.gi
 |op a b _ d=>exact(Tl.op a b d:)
 | @nf h z a b=>exact(Tl.nf (w:=Ap z<|Cn ((sg [91]).t q)<|Cn ((sg [93]).t B) Nl) a b:)
theorem Wy.j(h:Wy y w)(hc:c=[91]∨mH c):Wy G (Ap w<|Cn ((sg c).t q) v):=by
 rcases h with⟨rfl,_⟩|⟨d,q,z,rfl,h⟩
 ·exact .inr<|lz c _ v rfl hc
 ·exact .inr<|lz d q (Ap z<|Cn ((sg c).t _) v) J h
theorem Sq.i(h:Sq y n l u)(hc:mH c)(g:Tl m w):∀{M},n<=M->m+l<=M->Sq G M l (Ap u<|Cn ((sg c).t q) w):=by
 induction h with
 |tl a b=>exactλe d=>.tl ((a.au e).i hc<|g.au<|aE (d7 ..) d)<|b.j hc.is.1
 |fn a b c _ i=>
  intro M e d;refine aB (rY e) ?_;rintro M rfl e;exact(Sq.fn (a.au e) b c (i e<|jT<|jT d):)
 |fp a b c w=>exactλe d=>(Sq.fp (a.au e) b c (w.j<|.inr hc):)
theorem Sq.gi(h:Sq y n l u):Sq G n l (Ap u<|Cn ((sg [91]).t q)<|Cn ((sg [93]).t B) Nl):=by
 induction h with
 |tl a b=>exact .tl a.gi<|b.j J
 |fn a b c _ d=>exact(Sq.fn a b c d:)
 |fp a b c w=>exact(Sq.fp a b c (w.j<|.inl J):)
theorem HF.h2(h:HF u):H2 (Ap u v):=by
 refine eB h ?_;rintro t w rfl b;exact cJ t (Ap w v) J<|.inl b
theorem Tl.h2(h:Tl n u):H2 u:=by
 induction h with
 |eE a=>exact a.h2
 |op a b _ _=>exact a.h2.j b.is.2.1
 |nf a b=>exact b.h2
theorem Sq.h2(h:Sq y n l u):H2 u:=h.j.h2
noncomputable def Ou(n:Nat)(x:aj)(r:List aj)(k:Nat)(P:List Nat->Prop)(s:Sg):Prop:=s=⟨x::r,[]⟩∨Sa s∨∃c q v,s=⟨(sg c).t q::v.1 (x::r),[]⟩/\mH c/\P c/\Tl n v/\(v.1<|x::r).length<k/\eD (v.1<|x::r)
theorem W1(h:Tl n v)(g:n+1<=f)(d:f<=15)(o:NU x)(i:eD<|v.1<|x::r):Rs I (my (be f) ⟨v.1<|x::r,[]⟩) λj s=>Ou n x r (v.1<|x::r).length Tr s:=by
 induction h with
 |eE a=>exact(vZ (a.hg f g d) x r o.1.1 i).au λj s e=>.inl e.2
 | @op u v c q a hc p=>exact(vZ (a.hg f g d) ((sg c).t q) (v.1<|x::r) hc.is.2.2 i).au λj s e=>.inr<|.inr<|u5 c q v e.2 hc bk p (u.2<|(sg c).t q::v.1 (x::r)).1<|lA u i
 | @nf h w a b=>
  refine(a f (aE (gs<|dG _) g) d (w.1<|x::r) λe=>?_).bd λt s hs=>?_
  ·have:=(w.2<|x::r).1;rw[e] at this;exact kQ _ this
  ·refine jV hs ?_;rintro q r rfl;exact .inr<|.inl<|gH q r J
theorem Ou.au(h:Ou n x r k P s)(e:k<=j)(hp:∀c,P c->P' c):Ou n x r j P' s:=h.imp id λh=>h.imp id λh=>xZ h λc q v a b d g l i=>u5 c q v a b (hp c d) g (iO l e) i
theorem WL(hc:mH c)(p:x.is 5 c=C)(A:∀v,Tl n v->eD (v.1<|x::r)->Rs I (item ⟨v.1<|x::r,[]⟩) λo s=>Ou n x r (v.1<|x::r).length P s)(E:∀y,P y->y≠c->P' y):∀(k:Nat) (s:Sg) (m:Nat) (i:List T),Ou n x r k P s->1<=m->s.ts.length<=m∨Sa s->Rs I (jy c item m i s) λo s=>Ou n x r k P' s:=by
 intro k
 induction k using Nat.strongRecOn with
 |ind k F=>
  intro s m i h hm hs
  rcases h with rfl|h|⟨y,q,v,rfl,a,b,d,e,l⟩
  ·exact tR hm p<|.inl rfl
  ·exact tR hm (h.sk.is<|by rcases hc with rfl|rfl<;>rfl)<|.inr<|.inl h
  ·by_cases g:y=c
   ·replace hs:=hs.resolve_right λh=>jV h λq r e=>by
     have e:y=fB:=bJ (λs=>(Sg.i s).aP) e;rw[e] at a;revert a;unfold mH;decide
    clear p hm;subst g;refine aB (qx Nl hs) ?_;rintro m rfl hm;refine Rs.iT (ec.mpr ⟨J,dH J⟩)<|(A v d l).bd λt H j=>?_;refine(F _ e H m _ j (aE (aE (gs<|dG _) (v.2<|x::r).1) hm) ?_).au λo L h2=>h2.au (sQ e) λo h=>h
    rcases j with rfl|h|⟨G,B,M,rfl,_,_,_,K,_⟩
    ·exact .inl<|aE (v.2 _).1 hm
    ·exact .inr h
    ·exact .inl<|aE K hm
   ·exact tR hm (pF g)<|.inr<|.inr<|u5 y q v J a (E y b g) d e l
theorem WO{k:Int}{item:Sg->PR T}(hc:mH c)(d:x.is 5 c=C)(a:∀v,Tl n v->eD (v.1<|x::r)->Rs I (item ⟨v.1<|x::r,[]⟩) λb s=>Ou n x r (v.1<|x::r).length P s)(e:∀y,P y->y≠c->P' y)(h:Tl n v)(g:eD<|v.1<|x::r):
  Rs I (cL 5 c ⟨v.1<|x::r,[]⟩ λb s=>(item s).bd λt s=>if s.q c then(jy c item (s.ts.length+1) [t] s).bd λl s=>.ok (aK k [] l t.aJ) s else .ok t s) λb s=>Ou n x r (v.1<|x::r).length P' s:=
 .q (rX h.h2<|by rcases hc with rfl|rfl<;>rfl) ((a v h g).bd λt s hs=>by
  have z:=WL hc d a e _ s (s.ts.length+1) [t] hs (gs<|dG _)<|.inl<|et _
  cases q:s.q c with
  |true=>exact z.bd λl s hs=>hs
  |false=>rw[Im q] at z;exact z)
theorem W3(o:n+1<=f)(e:f<=15)(i:NU x)(h:Tl n v)(g:eD<|v.1<|x::r):Rs I (jZ (be f) ⟨v.1<|x::r,[]⟩) λj s=>Ou n x r (v.1<|x::r).length (λc=>c=[124]) s:=
 .au (WO (.inr J) i.1.2 (λv h g=>W1 h o e i g) (λy j q=>q) h g) λj s h=>h.imp id λh=>h.imp id λh=>xZ h λc q v a b d=>u5 c q v a b<|b.resolve_right d
theorem W5(j:n+1<=f)(e:f<=15)(i:NU x)(h:Tl n v)(g:eD<|v.1<|x::r):Rs I (rI (be f) ⟨v.1<|x::r,[]⟩) λd s=>s=⟨x::r,[]⟩∨Sa s:=
 .au (WO (P':=λd=>False) (.inl J) i.2 (λv h g=>W3 j e i h g) (λy a b=>ax a b) h g) λd s hs=>hs.imp id λh=>h.elim id λh=>xZ h λd d d d d h=>h.elim
theorem W6(h:Sq y n l v):∀f,n+1<=f->f<=15->Rd I (j0<|be f) (Fy y) v Tr:=by
 induction h with
 |tl h o=>exactλf i e x r j p=>Rs.j (o x r<|j.1.is J) (.au (W5 i e j.1.nu h p) λt s hs=>hs.imp (λh=>⟨bk,h⟩) λh=>⟨J,h.sk⟩)
 |fn a b c d A=>
  intro f i e;refine aB (rY i) ?_;rintro g rfl hg;exact a g (iw hg) e y _ d.h2<|A g hg<|aE (d7 ..) e
 |fp a b c w=>exactλf i e=>a f (iw i) e _ _ w
end
noncomputable def Cu(j:Nat->Pc)(v:Px):Prop:=v=Nl∨∃w a fl i z,v=Ap (bU j w i) z/\fH w a fl/\(z=Nl∨∃y q b,z=Cn ((sg y).t q) b/\(y=[58]∨y=[44]))
noncomputable def rZ(j:Nat->Pc)(u:Px):Prop:=∃q v q',u=Cn ((sg [40]).t q) (Ap v<|Cn ((sg [41]).t q') Nl)/\Cu j v
section
variable{j:Nat->Pc}{w:List W}{u v z:Px}{fl p:Int}{q q' q1 q2:Pc}{i g m:Nat}{a y:List Nat}{r:List aj}{F:aj->Prop}
theorem rZ.lp(h:rZ j u):Lp u:=iU h λq v q' e b=>gH q _ e
theorem Ir{w}(b:fH w a fl)(c:y=[58]∨y=[44]):qo ⟨(sg [40]).t q::(bU j w i).1 ((sg [41]).t q'::(sg fB).t q1::r),[]⟩=I/\qo ⟨(sg [40]).t q::(bU j w i).1 ((sg y).t q2::r),[]⟩=true:=by
 induction b<;>exact c.elim (λe=>e▸⟨J,J⟩) λe=>e▸⟨J,J⟩
noncomputable abbrev qz(j:Nat->Pc)(w:List W)(i:Nat)(u v:Px)(q:Pc)(z:Px):Px:=Ap (bU j w i)<|Ap u<|Ap v<|Cn ((sg fB).t q) z
noncomputable def tV(w:List W)(fl:Int):Prop:=w=[]/\fl=2048∨w=[wd bH,sp]/\fl=3072
theorem TA(G:tV w fl)(M:tT u)(B:rZ j v):HF (qz j w i u v q z):=by
 rcases G with⟨rfl,_⟩|⟨rfl,_⟩
 ·rcases M with rfl|⟨q1,u,rfl⟩
  ·refine jV B.lp ?_;rintro q2 v rfl;exact cJ _ (Ap v<|Cn ((sg fB).t q) z) rfl rfl
  ·exact cJ _ (Ap u<|Ap v<|Cn ((sg fB).t q) z) rfl rfl
 ·exact cJ _ (Ap u<|Ap v<|Cn ((sg fB).t q) z) J J
theorem Iu(G:tV w fl)(M:tT u)(B:rZ j v)(r:List aj):qo ⟨(qz j w i u v q z).1 r,[]⟩=true:=by
 rcases G with⟨rfl,_⟩|⟨rfl,_⟩
 ·rcases M with rfl|⟨q1,u,rfl⟩
  ·refine iU B ?_;rintro q1 v q2 rfl B
   rcases B with rfl|⟨w,a,fl,i,z,rfl,b,c⟩
   ·rfl
   ·rcases c with rfl|⟨y,e,z,rfl,d⟩
    ·exact(Ir b (.inl rfl) (q2:=q1)).1
    ·exact(Ir b d (q':=q1) (q1:=q1)).2
  ·rfl
 ·rfl
theorem Cv{b c:Type}{p:PR b}{f:b->Sg->PR c}{Q:c->Sg->Prop}(h:p=.d8 ns):Rs I (p.bd f) Q:=by rw[h];exact(J:I=I)
@[elab_as_elim] theorem TC{P:List Nat->Prop}(h:y=[63]∨y=[58]∨y=[44]∨y=[41])(b:P [63])(h2:P [58])(c:P [44])(h4:P [41]):P y:=h.elim (λe=>e▸b) λh=>h.elim (λe=>e▸h2) λh=>h.elim (λe=>e▸c) λe=>e▸h4
@[elab_as_elim] theorem yO{P:List Nat->Prop}(h:a∈nJ)(b:P [120])(h2:P eW)(c:P dP)(h4:P fN)(h5:P [121])(h6:P ri)(h7:P [36,49]):P a:=
 mc h b λh=>mc h h2 λh=>mc h c λh=>mc h h4 λh=>mc h h5 λh=>mc h h6 λh=>mc h h7 λh=>ax h eU
theorem Cw(b:a∈nJ)(c:y=[63]∨y=[58]∨y=[44]∨y=[41]):be (g+1) 1 ⟨(nm a).t q::(sg y).t q'::r,[]⟩=.ok (aK 81 a [] q.p) ⟨(sg y).t q'::r,[]⟩:=
 TC c (yO b J J J J J J J) (yO b J J J J J J J) (yO b J J J J J J J) (yO b J J J J J J J)
theorem TD(G:tV w fl)(M:tT u)(B:rZ j v):NF (qz j w i u v q z):=by
 intro f d c l hr;refine aB (P:=λg=>f=g+1) (Q:=λo=>True) (aD (f-1) (Aj d).symm bk) ?_;rintro g rfl _
 rcases G with⟨rfl,_⟩|⟨rfl,_⟩
 ·rcases M with rfl|⟨q1,u,rfl⟩
  ·refine iU B ?_;rintro q1 v q2 rfl B;have st:∀{t s},s.i.is 5 [41]=false->s.ns=[]->Rs true (c7 [41] s λs=>PR.ok (aK 98 [] [t] q1.p) s) λo s=>Sa s:=λh e=>Rs.j h<|.b8 rfl e;show Rs I ((be (g+1) 1 ⟨v.1<|(sg [41]).t q2::(sg fB).t q::z.1 l,[]⟩).bd λt s=>c7 [41] s λs=>.ok (aK 98 [] [t] q1.p) s) _
   rcases B with rfl|⟨w,a,fl,i,E,rfl,x,A⟩
   ·exact Cv (ns:=[1110]) rfl
   ·clear d c hr
    induction x with
    |dots=>exact Cv (ns:=[1110]) J
    |this=>exact Cv (ns:=[1110]) J
    |i b=>exact .eq (Cw b<|.inl J)<|st J J
    |gh b=>
     rcases A with rfl|⟨y,H,K,rfl,k⟩
     ·exact .eq (Cw b<|.inr<|.inr<|.inr rfl)<|gH q _ rfl
     ·exact .eq (Cw b<|.inr<|k.imp id .inl)<|st (k.elim (λe=>e▸J) λe=>e▸J) J
  ·exact(J:I=I)
 ·exact(J:I=I)
section
variable(G:tV w fl)(M:tT u)(B:rZ j v)
include G M B
theorem Iv(c:kG I (be<|f+1) u Tr)(h2:nK I (be<|f+1) v Tr)(d:f+1<=15)(e:Rd I (am<|be f) F z Tr):Rd I (j0<|be<|f+1) F (qz j w i u v q z) Tr:=
 Ip (H7 G c M h2 B.lp (e.j<|f4 d) λb b b b b b b=>bk) (Iu G M B)
theorem TE(c:∀f,m+1<=f->f<=15->kG I (be f) u Tr)(h2:∀f,m+1<=f->f<=15->nK I (be f) v Tr)(hp:∀f y v,H2 v->Rd I (be f 1) (Fy y) v Tr->Rd I (am<|be f) (Fy y) (Ap z v) Tr):v7 m (qz j w i u v q z):=λg hg b y x d hr=>
 (Iv G M B (c _ (f4<|gs hg) b) (h2 _ (f4<|gs hg) b) b (hp _ y x d<|hr.q<|f4<|iw b):)
theorem TG(l:∀f,m+1<=f->f<=15->kG I (be f) u Tr)(h2:∀f,m+1<=f->f<=15->nK I (be f) v Tr):v8 (m+1) (qz j w i u v q<|Cn ((nm dP).t q1)<|Cn ((nm dP).t q2) Nl):=λg hg b y x d=>by
 refine aB (P:=λk=>g=k+1) (Q:=λo=>True) (aD (g-1) (Aj<|aE (hG ..) hg).symm bk) ?_;rintro g rfl _;refine(Iv G M B (l _ hg b) (h2 _ hg b) b (z:=Cn ((nm dP).t q1)<|Cn ((nm dP).t q2) x) ?_:)
 rcases d with⟨rfl,rfl⟩|⟨c,s,x,rfl,h|h|h⟩
 ·exact H5 λo=>bk
 ·subst h;exactλx r d e=>.inr ⟨rfl,cK _ _ rfl ⟨rfl,rfl⟩ rfl⟩
 ·subst h;exactλx r d e=>(rfl:true=true)
 ·subst h;exactλx r d e=>(J:I=I)
end
end
noncomputable def qA(r:T):T:=(r.bO.head?.getD U).getD r
noncomputable def v9:Option T->Option T->Bool
 |some d,O r=>decide (d.aq≠r.aq)
 |_,_=>C
mutual
noncomputable def fu:T->T->Option (List Int)
 |.nd k a ks f _,r=>
  let o:=decide (r.aq=98)&&decide (k≠98)
  let b:=if o then qA r else r
  if k=b.aq/\a=b.a/\f=b.cj/\ks.length=b.bO.length then(gM (decide (k=98)) ks b.bO).map λos=>if o then r.aJ::os else os else U
noncomputable def gM:Bool->List (Option T)->List (Option T)->Option (List Int)
 |_,[],_=>O []
 |_,_::_,[]=>U
 |p,o::c,q::rs=>if p&&v9 o q then U else match i8 o q with
  |none=>U
  |some a=>(gM p c rs).map λb=>a++b
noncomputable def i8:Option T->Option T->Option (List Int)
 |none,U=>O []
 |some d,O r=>fu d r
 |none,O _=>U
 |some _,U=>U
end
theorem yP{k f p:Int}{ks:List<|Option T}{r:T}:fu (.nd k a ks f p) r=if k=(if(decide (r.aq=98)&&decide (k≠98))=I then qA r else r).aq/\a=(if(decide (r.aq=98)&&decide (k≠98))=I then qA r else r).a/\f=(if(decide (r.aq=98)&&decide (k≠98))=I then qA r else r).cj/\ks.length=(if(decide (r.aq=98)&&decide (k≠98))=I then qA r else r).bO.length then(gM (decide (k=98)) ks (if(decide (r.aq=98)&&decide (k≠98))=I then qA r else r).bO).map λos=>if(decide (r.aq=98)&&decide (k≠98))=I then r.aJ::os else os else none:=rfl
theorem yQ:gM p (o::c) (q::rs)=if(p&&v9 o q)=I then U else match i8 o q with
  |none=>U
  |some a=>(gM p c rs).map λb=>a++b:=rfl
noncomputable def cH(a rs:List<|Option T)(os:List Int):Prop:=a.length=rs.length/\gM C a rs=O os
theorem cH.nil:cH [] [] []:=⟨J,J⟩
theorem cH.cons(h:i8 o q=O a)(d:cH b rs c):cH (o::b) (q::rs) (a++c):=by
 refine⟨by simp[d.1],?_⟩;rw[yQ,h,d.2]
 rfl
theorem cH.i(b:cH a rs c):cH (U::a) (U::rs) c:=cH.cons (a:=[]) J b
theorem cH.eE(h:fu d r=O a):cH [O d] [O r] a:=by
 have:=cH.cons (o:=O d) (q:=O r) h cH.nil;rwa [cM] at this
theorem wb{k:Int}{b:List<|Option T}{f p:Int}{r:T}(hr:r.aq=98->k=98):fu (.nd k a b f p) r=if k=r.aq/\a=r.a/\f=r.cj/\b.length=r.bO.length then gM (decide (k=98)) b r.bO else none:=by
 have e:(decide (r.aq=98)&&decide (k≠98))=false:=by
  by_cases q:r.aq=98
  ·simp[hr q]
  ·simp[q]
 rw[yP];simp only[e,mX,if_false];split
 ·cases gM (decide (k=98)) b r.bO<;>rfl
 ·rfl
theorem iC{k:Int}{f p c:Int}{os:List Int}(h:cH b rs os)(d:k≠98):fu (.nd k a b f p) (.nd k a rs f c)=O os:=by
 rw[wb (k:=k) (r:=.nd k a rs f c) λe=>e];rw[aN ⟨J,J,J,h.1⟩];have e:decide (k=98)=false:=by simp[d]
 rw[e];exact h.2
theorem TH{d r:T}{p a:Int}{os:List Int}(h:fu d r=O os)(b:r.aq=d.aq):fu (aK 98 [] [d] p) (aK 98 [] [r] a)=O os:=by
 rw[wb λe=>J,aN ⟨J,J,J,J⟩];show gM I [O d] [O r]=_;rw[yQ,show v9 (O d) (O r)=C from dO λe=>e b.symm,a9 (by simp),show i8 (O d) (O r)=O os from h];show O (os++[])=_;rw[cM]
theorem TJ{d r:T}{p:Int}{os:List Int}(h:fu d r=O os)(c:d.aq≠98)(hr:r.aq≠98):fu d (aK 98 [] [r] p)=O (p::os):=by
 obtain⟨k,a,ks,f,q⟩:=d;rw[yP] at h⊢;have e1:(decide (r.aq=98)&&decide (k≠98))=false:=by simp[hr]
 have e2:(decide ((aK 98 [] [r] p).aq=98)&&decide (k≠98))=true:=dH c;simp only[e1,mX,if_false] at h;simp only[e2,if_true];rw[show qA (aK 98 [] [r] p)=r from J,show(aK 98 [] [r] p).aJ=p from J];split at h
 ·rename_i q
  rw[aN q]
  cases b:gM (decide (k=98)) ks r.bO with
  |none=>rw[b] at h;exact ba h
  |some l=>rw[b] at h;cases h;rfl
 ·exact ba h
noncomputable def qB:List (List Nat):=[s7,xP,xQ,xS,qe,kS]
inductive gw where
 |kd|u (j:Bool)|nM|nN|q|pm|y (a lax:Bool)|ps|am|sg|i|j
noncomputable def gj(j:Bool)(k:Int):Bool:=decide (k=27)||(decide (k=83)||(j&&decide (k=84)))
noncomputable def mI(w v:List W):Prop:=hZ w≠f6/\hZ w≠gv/\∀x∈v.head?,x.x≠[40]/\x.x≠[60]/\¬(hZ w=dP/\x.x=eW)
class inductive K(b:Bool)(m:Nat):Nat->gw->List T->List W->Prop where
 |i9 {i a}:a∈qB->K b m i .kd [c6 80 a 0] [nm a]
 |ae {i a}:a∈iB∨a=[69,46,105,110]->K b m i .kd [aK 81 a [] 0] (d6 a)
 |ja {i a ks ws}:a∈iB∨a=[69,46,105,110]->K b m i .nM ks ws->ks≠[]/\ks.length<=3->K b m (i+1) .kd [aK 81 a ks 0] (d6 a++sg [60]::(ws++[sg [62]]))
 |gN {i k ws}:K b m i .kd [k] ws->K b m (i+1) .kd [aK 98 [] [k] 0] (sg [40]::(ws++[sg [41]]))
 |jD {i}:K b m i .kd [aK 88 [] [] 0] [sg [123],sg [125]]
 |gk {i ks ws}:K b m i .j ks ws->ks.length<=3->K b m (i+1) .kd [aK 88 [] ks 0] (sg [123]::sp::(ws++[sp,sg [125]]))
 |gi {i k ws}:K b m i (.u true) [k] ws->K b m (i+1) .kd [aK 85 [] [k] 0] (ws++[sg [91],sg [93]])
 |aa {i k k' ws ws'}:K b m i (.u true) [k] ws->K b m i (.u true) [k'] ws'->K b m (i+1) .kd [aK 84 [] [k,k'] 0] (ws++sp::sg [38]::sp::ws')
 |un {i k ks ws ws'}:K b m i (.u false) [k] ws->K b m i .nN ks ws'->ks.length<=2->K b m (i+1) .kd [aK 83 [] (k::ks) 0] (ws++sp::sg [124]::sp::ws')
 |fn {i w fl o p r ws ws' ws''}:w=[]/\fl=2048∨w=[wd [110,101,119],sp]/\fl=3072->K b m i .q o ws->K b m i .ps [p] ws'->K b m i .am [r] ws''->K b m (i+1) .kd [.nd 27 [] [o.head?,some p,some r,none] fl 0] (w++(ws++(ws'++sp::sg [61,62]::sp::ws'')))
 |iD {i j k ws}:b=true∨gj j k.aq=false->K b m i .kd [k] ws->K b m i (.u j) [k] ws
 |jb {i j k ws}:gj j k.aq=true->K b m i .kd [k] ws->K b m i (.u j) [k] (pt::(ws++[sg [41]]))
 |iE {i k ws}:K b m i (.u false) [k] ws->K b m i .nN [k] ws
 |h9 {i k ks ws ws'}:K b m i (.u false) [k] ws->K b m i .nN ks ws'->K b m i .nN (k::ks) (ws++sp::sg [124]::sp::ws')
 |iF {i k ws}:K b m i .kd [k] ws->K b m i .nM [k] ws
 |ia {i k ks ws ws'}:K b m i .kd [k] ws->K b m i .nM ks ws'->K b m i .nM (k::ks) (ws++sg [44]::sp::ws')
 |i {i}:K b m i .q [] []
 |iG {i a}:a∈hY->K b m i .q [aK 71 [] [.nd 100 a [none,none] 536870912 0] 0] [sg [60],nm [111,117,116],sp,nm a,sg [62]]
 |ib {i a k ws}:a∈hY->K b m i .kd [k] ws->K b m i .q [aK 71 [] [.nd 100 a [some k,none] 0 0] 0] (sg [60]::nm a::sp::wd [101,120,116,101,110,100,115]::sp::(ws++[sg [62]]))
 |ic {i a k ws}:a∈hY->K b m i .kd [k] ws->K b m i .q [aK 71 [] [.nd 100 a [none,none] 268435456 0,.nd 100 [111,117,116] [some (aK 81 [84] [] 0),some k] 805306368 0] 0] (sg [60]::wd [105,110]::sp::nm a::sg [44]::sp::wd [105,110]::sp::nm [111,117,116]::sp::nm [111,117,116]::sp::wd [101,120,116,101,110,100,115]::sp::nm [84]::sp::sg [61]::sp::(ws++[sg [62]]))
 |jE {i a fl w}:fH w a fl->K b m i .pm [lf a none fl 0 0] w
 |jc {i a fl k w ws}:fH w a fl->K b m i .kd [k] ws->K b m i .pm [lf a (some k) fl 0 0] (w++sg [58]::sp::ws)
 |j {i a lax}:K b m i (.y a lax) [] []
 |jd {i a lax p ws}:K b m i .pm [p] ws->(k4 p=true->a=true)->(lax=true->p.cj≠0)->K b m i (.y a lax) [p] ws
 |iH {i a lax p q ks ws ws'}:K b m i .pm [p] ws->(k4 p=true->a=true)->(lax=true->p.cj≠0)->p.cj≠8192->K b m i (.y false (lax||decide (p.cj=4096))) (q::ks) ws'->K b m i (.y a lax) (p::q::ks) (ws++sg [44]::sp::ws')
 |ps {i ks ws}:K b m i (.y true false) ks ws->ks.length<=3->K b m i .ps [aK 71 [] ks 0] (sg [40]::(ws++[sg [41]]))
 |ef {i k ws}:K b m i .kd [k] ws->K b m i .am [k] ws
 |je {i k ws}:K b m i .kd [k] ws->K b m i .am [j4 [120] (some k) 0 0] (nm [120]::sp::nm [105,115]::sp::ws)
 |q {i}:K b m i .am [j4 [97,115,115,101,114,116,115] none 16777216 0] [nm [97,115,115,101,114,116,115],sp,nm [97,115,115,101,114,116,115]]
 |jf {i k ws}:K b m i .kd [k] ws->K b m i .am [j4 [116,104,105,115] (some k) 16777216 0] (nm [97,115,115,101,114,116,115]::sp::wd [116,104,105,115]::sp::nm [105,115]::sp::ws)
 |jg {i k ws}:K b m i .kd [k] ws->K b m i .am [j4 [97,115,115,101,114,116,115] (some k) 0 0] (nm [97,115,115,101,114,116,115]::sp::nm [105,115]::sp::ws)
 |ie {i a fl o p ws ws'}:K b m i .q o ws->K b m i .ps [p] ws'->K b m i .sg [.nd 27 a [o.head?,some p,none,none] fl 0] (ws++ws')
 |g3 {i a fl o p r ws ws' ws''}:K b m i .q o ws->K b m i .ps [p] ws'->K b m i .am [r] ws''->K b m i .sg [.nd 27 a [o.head?,some p,some r,none] fl 0] (ws++(ws'++sg [58]::sp::ws''))
 |iI {i n w fl}:n∈dY∨n=wd [110,101,119]->fT n w fl->K b m i .i [.nd 99 n.x [none] fl 0] w
 |ig {i n w fl k ws}:n∈dY∨n=wd [110,101,119]->fT n w fl->K b m i .kd [k] ws->K b m i .i [.nd 99 n.x [some k] fl 0] (w++sg [58]::sp::ws)
 |g4 {i n w fl ks ws}:n∈dY∨n=st [110,101,119] [34,110,101,119,34]->fT n w fl->fl=0∨fl=4096->K b m i .sg [.nd 27 n.x ks (fl+32) 0] ws->K b m i .i [.nd 27 n.x ks (fl+32) 0] (w++ws)
 |ii {i ks ws}:K b m i .sg [.nd 27 [] ks 512 0] ws->K b m i .i [.nd 27 [] ks 512 0] ws
 |ij {i ks ws}:K b m i .sg [.nd 27 [] ks 1024 0] ws->K b m i .i [.nd 27 [] ks 1024 0] (wd [110,101,119]::sp::ws)
 |ik {i w fl a k ws}:w=[]/\fl=0∨w=[nm [114,101,97,100,111,110,108,121],sp]/\fl=131072->a=[107]∨a=[114,101,97,100,111,110,108,121]->K b m i .kd [k] ws->K b m i .i [.nd 63 a [some (c6 80 [115,116,114,105,110,103] 0),some k] fl 0] (w++sg [91]::nm a::sg [58]::sp::nm [115,116,114,105,110,103]::sg [93]::sg [58]::sp::ws)
 |ms1 {i k ws}:K b m i .i [k] ws->K b m i .j [k] ws
 |gB {i k ks ws ws'}:m=0∨m=2->K b m i .i [k] ws->K b m i .j ks ws'->K b m i .j (k::ks) (ws++sg [59]::sp::ws')
 |iJ {i k ks ws ws'}:m=1->K b m i .i [k] ws->K b m i .j ks ws'->K b m i .j (k::ks) (ws++sg [44]::sp::ws')
 |iK {i k ks ws ws'}:m=2->K b m i .i [k] ws->K b m i .j ks ws'->mI ws ws'->K b m i .j (k::ks) (ws++sp::d9 true ws')
noncomputable def cc:Nat->Nat
 |0=>0
 |i+1=>cc i+4*i+4
noncomputable def Fq(k:T)(os:List Int)(t:T):Prop:=fu k t=O os
noncomputable def Kq(k:T)(os:List Int)(t:T):Prop:=fu k t=O os/\t.aq=k.aq
noncomputable def FQ(ks:List T)(os:List Int)(ts:List T):Prop:=cH (ks.map O) (ts.map O) os
noncomputable def QB{a:Type}(b:Bool)(Q:a->Prop)(t:a):Prop:=b=C->Q t
structure we(i:Nat)(y:List Nat)(k:T)(u:Px)(os:List Int):Prop where
 rd:∀f,cc i+1<=f->f<=15->Rd false (j0 (be f)) (Fy y) u (Kq k os)
 nf:k.aq≠27->Nf u
 it:nE k->∀f,cc i+1<=f->f<=15->Rx false (jZ (be f)) NI u (Kq k os)
 hg:la k->∀f,cc i+1<=f->f<=15->Hg false (be f) u (Kq k os)
structure Cy(i:Nat)(j:Bool)(k:T)(u:Px)(os:List Int):Prop where
 nf:Nf u
 it:∀f,cc i+2<=f->f<=15->Rx false (jZ (be f)) NI u (Fq k os)
 hg:j=true->∀f,cc i+2<=f->f<=15->Hg false (be f) u (Fq k os)
noncomputable def fJ(b:Bool)(i:Nat)(k:T)(y:List Nat)(u:Px)(os:List Int):Prop:=H2 u/\cond b (Sq y (cc i) (2*i) u) (we i y k u os)
noncomputable def pH(b:Bool)(i:Nat)(j:Bool)(k:T)(u:Px)(os:List Int):Prop:=H2 u/\cond b (∃y,Sq y (cc i+2) (2*i) u) (Cy i j k u os)
noncomputable def wg(b:Bool)(i:Nat)(ks:List T)(u:Px)(os:List Int):Prop:=cond b (Tl (cc i+2+(ks.length-1)*(2*i)) u) (∀f,cc i+2<=f->f<=15->qw C (jZ<|be f) [124] NI u (FQ ks os))
noncomputable def wh(b:Bool)(i:Nat)(ks:List T)(u:Px)(os:List Int):Prop:=∀f,cc i+2<=f->f<=15->qw b (be f 1) [44] Cl u (QB b<|FQ ks os)
noncomputable def TK(b:Nat->Pc)(i:Nat)(y:List Nat)(u:Px):Prop:=(∃pp v,u=Ap pp v/\Sq y (cc i) (2*i) v/\∀f y v,H2 v->Rd I (be f 1) (Fy y) v Tr->Rd I (am<|be f) (Fy y) (Ap pp v) Tr)∨y=dP/\∃q a,u=Cn ((nm dP).t q) (Cn ((nm dP).t a) Nl)
structure r0(π:Nat->Pc)(b:Bool)(i:Nat)(k:T)(y:List Nat)(u:Px)(os:List Int):Prop where
 rd:∀f,cc i+2<=f->f<=15->Rd b (am (be f)) (Fy y) u (QB b (Fq k os))
 sq:b=true->TK π i y u
noncomputable def tW(a:Nat->Pc)(b:Bool)(i:Nat)(k:T)(u:Px)(os:List Int):Prop:=rZ a u/\∀f,cc i+2<=f->f<=15->nK b (be f) u (QB b<|Fq k os)
noncomputable def pI(b:Bool)(i:Nat)(o:List T)(u:Px)(os:List Int):Prop:=tT u/\∀f,cc i+2<=f->f<=15->kG b (be f) u (QB b λt=>i8 o.head? t=O os)
noncomputable def TL(b:Bool)(k:T)(os:List Int)(t:T):Prop:=(t.cj=k.cj/\k4 t=k4 k/\(t.cj=0∨t.cj=4096∨t.cj=8192))/\QB b (Fq k os) t
noncomputable def wi(a:Nat->Pc)(b:Bool)(i:Nat)(k:T)(u:Px)(os:List Int):Prop:=(∀z,(z=Nl∨∃y q c,z=Cn ((sg y).t q) c/\(y=[58]∨y=[44]))->Cu a (Ap u z))/\yK u/\∀f,cc i+2<=f->f<=15->vU b (be f) u (TL b k os)
noncomputable def Cz(a b:Bool)(ts:List T):Prop:=∀j,(a=I->j=0)->gW j b ts=[]
noncomputable def tX(d:Nat->Pc)(b:Bool)(i:Nat)(a c:Bool)(ks:List T)(u:Px)(os:List Int):Prop:=Cu d u/\∀f,cc i+2<=f->f<=15->tS b (be f) u λts=>Cz a c ts/\QB b (FQ ks os) ts
noncomputable def CA(b:Bool)(i:Nat)(ks:List<|Option T)(y:List Nat)(u:Px)(os:List Int):Prop:=Sh u/\∀f,cc i+3<=f->f<=15->∀a fl p,Rd b (gc (be f) a fl p) (Fy y) u (QB b<|Fq (.nd 27 a ks fl 0) os)
noncomputable def Iw(b:Bool)(f:Nat)(l:Bool)(k:T)(y:List Nat)(u:Px)(os:List Int):Prop:=lQ b (be f) l (Fy y) u<|QB b<|Fq k os
noncomputable def Ix(b:Bool)(f:Nat)(l:Bool)(ks:List T)(u:Px)(os:List Int):Prop:=qy b (be f) l u<|QB b<|FQ ks os
noncomputable def yR(a:List W):Prop:=∀x∈a.head?,x.x≠[40]/\x.x≠[60]
noncomputable def Iy(e:Nat->Pc)(b:Bool)(i:Nat)(c:gw)(ks:List T)(d:List W):Prop:=match c with
 |.kd=>∀k,ks=[k]->∀j,fJ b i k (hZ d) (bU e d j) (cq e d j)
 |.u g=>∀k,ks=[k]->∀j,pH b i g k (bU e d j) (cq e d j)
 |.nM=>∀j,wh b i ks (bU e d j) (cq e d j)
 |.nN=>∀j,wg b i ks (bU e d j) (cq e d j)
 |.q=>∀j,pI b i ks (bU e d j) (cq e d j)
 |.pm=>∀k,ks=[k]->∀j,wi e b i k (bU e d j) (cq e d j)
 |.y a h=>∀j,tX e b i a h ks (bU e d j) (cq e d j)
 |.ps=>∀k,ks=[k]->∀j,tW e b i k (bU e d j) (cq e d j)
 |.am=>∀k,ks=[k]->∀j,r0 e b i k (hZ d) (bU e d j) (cq e d j)
 |.sg=>∀k,ks=[k]->∀j,CA b i k.bO (hZ d) (bU e d j) (cq e d j)
 |.i=>∀k,ks=[k]->∀l,(l=I->yR d)->∀j f,cc i+3<=f->f<=15->Iw b f l k (hZ d) (bU e (d9 l d) j) (cq e (d9 l d) j)
 |.j=>∀l,(l=I->yR d)->∀j f,cc i+3<=f->f<=15->Ix b f l ks (bU e (d9 l d) j) (cq e (d9 l d) j)
theorem sc{P:Nat->Prop}{n f:Nat}(h:n+1<=f)(k:∀g,n<=g->P (g+1)):P f:=by
 induction f using fW with
 |zero=>exact ax h<|kQ _
 |succ g=>exact k g<|jT h
theorem r4(i:Nat):cc i+4<=cc (i+1):=sO (d7 ..) 4
theorem Rx.rd{c:Type}{b:Bool}{m:Sg->PR c}{F:aj->Prop}{u:Px}{Q:c->Prop}(h:Rx b m F u Q):Rd b m F u Q:=λx r d e=>(h x r d e).au λt s hs=>.inl hs
theorem Hg.au{b:Bool}{part:bY}{u:Px}{Q d:T->Prop}(h:Hg b part u Q)(g:∀t,Q t->d t):Hg b part u d:=aB h λc a h=>aD c a λx r l m=>(h x r l m).imp id λh=>aB h λt q e=>aD t (g t q) e
section
variable{k t:T}{ks ts:List T}{o1 F Y os:List Int}{n:Int}{a:List Nat}{ds rs:List (Option T)}{f p M:Int}{o N q B:Option T}
theorem FQ.eE(h:Fq k os t):FQ [k] os [t]:=cH.eE h
theorem FQ.cons(h:Fq k o1 t)(c:FQ ks F ts):FQ (k::ks) (o1++F) (t::ts):=cH.cons h c
theorem wj(h:cH ds rs os)(c:n≠98):Kq (.nd n a ds f p) os (.nd n a rs f M):=⟨iC h c,J⟩
theorem wk(h:FQ ks os ts)(c:n≠98):Kq (aK n a ks p) os (aK n a ts M):=wj h c
theorem CB(c:i8 o N=O o1)(h2:fu k t=O F)(d:i8 q B=O Y):cH [o,O k,q,U] [N,O t,B,U] (o1++(F++Y)):=by
 have:=cH.cons c<|cH.cons (o:=O k) (q:=O t) h2<|cH.cons d<|cH.i cH.nil;rwa [cM] at this
theorem yS(h:i8 o N=O o1)(c:i8 q B=O F):fu (.nd 100 a [o,q] f p) (.nd 100 a [N,B] f M)=O (o1++F):=by
 have:=cH.cons h<|cH.cons c cH.nil;rw[cM] at this;exact iC this<|D J
theorem CC(h:cH (ks.map O) (ts.map O) os):i8 (O<|aK 71 [] ks p) (O<|aK 71 [] ts M)=O os:=iC (p:=p) h<|D J
theorem Iz{fl d c q0 G:Int}(h:i8 o N=O os):fu (lf a o fl d c) (lf a N fl q0 G)=O os:=by
 have e1:i8 (O<|c6 8 a c) (O<|c6 8 a G)=O []:=iC (p:=c) cH.nil<|D J;have:=cH.cons e1<|cH.cons h<|cH.i cH.nil;rw[cM] at this;exact iC this<|D J
end
section
variable{π:Nat->Pc}{b Q:Bool}{i j n f:Nat}{y y' a:List Nat}{k k':T}{ks:List T}{u v z:Px}{os o1 F Y:List Int}{q B G X q3 q4 q5 q6 q7 q8 q9 q0:Pc}{w:List W}{fl:Int}
theorem TM(h2:H2 u)(s:b=I->Sq y (cc i) (2*i) u)(f:b=C->we i y k u os):fJ b i k y u os:=⟨h2,by cases b;exact f J;exact s J⟩
theorem TN(h2:H2 u)(nf:Nf u)(d:¬la k)(it:∀f,cc i+1<=f->f<=15->Rx C (jZ<|be f) NI u (Kq k os)):we i y k u os:=
 ⟨λf a c=>Ct (Io (it f a c) h2) nf λx h=>h.1,λe=>nf,λe=>it,λh=>ax h d⟩
theorem IA(h2:H2 u)(nf:Nf u)(hg:∀f,cc i+1<=f->f<=15->Hg C (be f) u (Kq k os)):we i y k u os:=
 ⟨λf a c=>Ct (Io (Cs (hg f a c) h2) h2) nf λx h=>h.1,λd=>nf,λd f a c=>Cs (hg f a c) h2,λd=>hg⟩
theorem tY(h2:H2 u)(nf:Nf u)(d:n<=cc i)(h:∀f,n+1<=f->f<=15->nI b (be f) u (QB b<|Kq k os)):fJ b i k y u os:=
 TM h2 (λe=>.tl (.eE ⟨λf a c=>vX (by subst e;exact(h f (aE (gs d) a) c).au λg g=>bk),nf,h2⟩) nf) λe=>IA h2 nf λf a c=>vX (by subst e;exact(h f (aE (gs d) a) c).au λt q=>q J)
theorem tZ(h:fJ b i k y u os):∀f,cc i+2<=f->f<=15->Rd b (be f 1) (Fy y) u (QB b<|Kq k os):=λf a=>sc (P:=λf=>f<=15->Rd b (be f 1) (Fy y) u (QB b<|Kq k os)) a λg a c=>.q (f4 c) (by
 have c:=iw c
 cases b with
 |false=>exact(we.rd h.2 g a c).au λt q d=>q
 |true=>exact(W6 h.2 g a c).au λt d e=>c5 e)
theorem r5(h:fJ b i k y u os):∀f,cc i+2<=f->f<=15->Rd b (be f 1) Cl u (QB b<|Kq k os):=λf a c=>(tZ h f a c).of λx h=>h.j
theorem TO(h:a∈qB):fJ b i (c6 80 a 0) y (Cn ((nm a).t q) Nl) []:=by
 have A:∀a∈qB,o8.contains a=I/\(!decide (a=dP))=true:=by decide
 have A:=A a h;exact tY (cJ _ _ J<|.inr ⟨A.2,.inl J⟩) (v0 ⟨J,J,J⟩) (dG _) λf c c=>SM A.1 λc=>wj cH.nil<|D J
theorem IB(h:a∈iB∨a=gG):H2 (bU π (d6 a) j)/\Nf (bU π (d6 a) j)/\cq π (d6 a) j=[]:=by
 have A:∀a,(!decide (a=dP))=I->H2 (Cn ((nm a).t<|π j) Nl)/\Nf (Cn ((nm a).t<|π j) Nl)/\([]:List Int)=[]:=λa h=>⟨cJ _ _ J<|.inr ⟨h,.inl J⟩,v0 ⟨J,J,J⟩,J⟩;exact HN (P:=λa=>H2 (bU π (d6 a) j)/\Nf (bU π (d6 a) j)/\cq π (d6 a) j=[]) h (A _ J) (A _ J) (A _ J) (A _ J) (A _ J) ⟨cJ _ _ J<|.inr ⟨J,.inr<|cJ _ _ J J⟩,v0 ⟨J,J,J⟩,J⟩
theorem TP(h:a∈iB∨a=gG):fJ b i (aK 81 a [] 0) y (bU π (d6 a) j) (cq π (d6 a) j):=by
 have A:=IB (π:=π) (j:=j) h;rw[A.2.2];exact tY A.1 A.2.1 (dG _) λf c c=>SN h λp c=>wk cH.nil<|D J
theorem TQ(h:a∈iB∨a=gG)(d:wh b i ks u os):fJ b (i+1) (aK 81 a ks 0) y (Ap (bU π (d6 a) j)<|Cn ((sg [60]).t q)<|Ap u<|Cn ((sg [62]).t B) Nl) (cq π (d6 a) j++os):=by
 have A:=IB (π:=π) (j:=j) h;rw[A.2.2];exact tY (A.1.j J) (A.2.1.j J) (aE (by simp+arith only)<|r4 i) λf a c=>SP h (d f a c) λp ts q e=>wk (q e)<|D J
theorem TR(h:fJ b i k y' u os):fJ b (i+1) (aK 98 [] [k] 0) y (Cn ((sg [40]).t q)<|Ap u<|Cn ((sg [41]).t B) Nl) os:=
 tY (cJ _ _ J<|.inl J) (Iq h.1) (aE (by simp+arith only)<|r4 i) λf a c=>HR (r5 h f a c) λt q e=>⟨TH (q e).1 (q e).2,J⟩
theorem TS(h:∀f,cc i+3<=f->f<=15->qy b (be f) C u (QB b<|FQ ks os)):fJ b (i+1) (aK 88 [] ks 0) y (Cn ((sg [123]).t q)<|Ap u<|Cn ((sg [125]).t B) Nl) os:=
 tY (cJ _ _ J<|.inl J) (v0 ⟨J,J,J⟩) (aE (by simp+arith only)<|r4 i) λf a c=>sc (P:=λf=>f<=15->nI b (be f) _ _) a (λg a c=>HS (Q1:=λm=>b=C->cH (ks.map O) m.bO os) ((Ij (h g a<|iw c) λp ts q e=>q e).j<|f4 c) λm q e=>wj (q e)<|D J) c
theorem TU:fJ b i (aK 88 [] [] 0) y (Cn ((sg [123]).t q)<|Cn ((sg [125]).t B) Nl) []:=
 tY (cJ _ _ J<|.inl J) (v0 ⟨J,J,J⟩) (dG _) λf a c=>sc (P:=λf=>f<=15->nI b (be f) _ _) a (λg a c=>HS (Q1:=λm=>m.bO=[]) ((Tu λp=>J).j<|f4 c) λm q e=>wj (q▸cH.nil)<|D J) c
theorem TV(d:b=true∨gj Q k.aq=false)(h:fJ b i k y u os):pH b i Q k u os:=by
 refine⟨h.1,?_⟩
 cases b with
 |true=>exact⟨y,Sq.au h.2 (d7 ..)<|bF _⟩
 |false=>
  have d:=kl.mp<|d.resolve_left bc;have g:=kl.mp d.2;have lo:nE k:=⟨jt d.1,jt g.1⟩;have h:=h.2;exact⟨h.nf lo.1,λf a c=>(h.it lo f (iw a) c).au λt q=>q.1,λe f a c=>(h.hg ⟨lo.1,lo.2,jt (by rw[<-g.2,e];rfl)⟩ f (iw a) c).au λt q=>q.1⟩
theorem IC(h:gj Q k.aq=I):k.aq≠98:=λe=>by rw[e] at h;revert h;cases Q<;>exactλh=>bc h
theorem TW(g:gj Q k.aq=I)(h:fJ b i k y u os):pH b i Q k (Cn ((sg [40]).t q)<|Ap u<|Cn ((sg [41]).t B) Nl) (q.p::os):=by
 have nf:=Iq (q:=q) (q':=B) h.1;have h2:H2 (Cn ((sg [40]).t q)<|Ap u<|Cn ((sg [41]).t B) Nl):=cJ _ _ J<|.inl J;have d:∀f,cc i+2<=f->f<=15->nI b (be f) (Cn ((sg [40]).t q)<|Ap u<|Cn ((sg [41]).t B) Nl) (QB b<|Fq k<|q.p::os):=λf a c=>HR (r5 h f a c) λt z e=>TJ (z e).1 (IC g)<|(z e).2▸IC g;refine⟨h2,?_⟩;clear h
 cases b with
 |true=>exact⟨[],.tl (.eE ⟨λf a c=>vX<|(d f (iw a) c).au λl l=>bk,nf,h2⟩) nf⟩
 |false=>exact⟨nf,λf a c=>Cs (vX<|(d f a c).au λt q=>q J) h2,λl f a c=>vX<|(d f a c).au λt q=>q J⟩
theorem TX(h:pH b i I k u os):fJ b (i+1) (aK 85 [] [k] 0) y (Ap u<|Cn ((sg [91]).t q)<|Cn ((sg [93]).t B) Nl) os:=by
 have l:=r4 i;have h2:H2 (Ap u<|Cn ((sg [91]).t q)<|Cn ((sg [93]).t B) Nl):=h.1.j J;refine⟨h2,?_⟩
 cases b with
 |true=>exact aB (h.2.elim λy s=>aD y s bk) λy s d=>s.gi.au (aE (by simp+arith only) l)<|by simp+arith only
 |false=>
  have h:=h.2;exact IA h2 (h.nf.j J) λf a c=>Il (h.hg J f (L2 l a) c) λt q=>wk (FQ.eE q)<|D J
theorem TY(h:pH b i I k u o1)(d:pH b i I k' v F):fJ b (i+1) (aK 84 [] [k,k'] 0) y (Ap u<|Cn ((sg [38]).t q) v) (o1++F):=by
 have l:=r4 i;have h2:H2 (Ap u<|Cn ((sg [38]).t q) v):=h.1.j J;refine⟨h2,?_⟩
 cases b with
 |true=>
  exact h.2.elim λr s=>d.2.elim λx m=>(Sq.i s (.inr J) m.j (aE (by simp+arith only) l) (by show _<=cc i+4*i+4;simp+arith only)).au (bF _)<|by simp+arith only
 |false=>
  have g:=h.2;have d:=d.2;exact TN h2 (g.nf.j J) (λe=>e.2.2 J) λf a c=>Tw (g.hg J f (L2 l a) c) h.1 (d.hg J f (L2 l a) c) λt A q B=>wk (FQ.cons q<|FQ.eE B)<|D J
theorem TZ(h:pH b i C k u o1)(e:wg b i ks v F)(g:ks.length<=2):fJ b (i+1) (aK 83 [] (k::ks) 0) y (Ap u<|Cn ((sg [124]).t q) v) (o1++F):=by
 have l:=r4 i;have h2:H2 (Ap u<|Cn ((sg [124]).t q) v):=h.1.j J;refine⟨h2,?_⟩
 cases b with
 |true=>
  refine h.2.elim λm s=>?_;have:(ks.length-1)*(2*i)<=1*(2*i):=ES _<|Nat.sub_le_of_le_add g;exact(Sq.i s (.inl J) e (aE (by simp+arith only) l) (by show _<=cc i+4*i+4;exact L1 this)).au (bF _)<|by simp+arith only
 |false=>
  have d:=h.2;exact⟨λf a c=>Ct (Tx (d.it f (L2 l a) c) h.1 (e f (L2 l a) c) λt ts q B=>wk (FQ.cons q B)<|D J) (d.nf.j J) λx h=>h.1,λr=>d.nf.j J,λlo=>ax J lo.2,λlo=>ax J lo.2.1⟩
theorem T1(h:pH b i false k u os):wg b i [k] u os:=by
 cases b with
 |true=>exact h.2.elim λy s=>s.j.au<|by simp+arith only
 |false=>exactλf a c=>HP rfl (Rx.rd<|Cy.it h.2 f a c) (λx h=>h) λt q=>FQ.eE q
theorem T2(h:pH b i false k u o1)(d:wg b i ks v F):wg b i (k::ks) (Ap u<|Cn ((sg [124]).t q) v) (o1++F):=by
 cases b with
 |true=>
  refine h.2.elim λy s=>(s.j.au<|d7 ..).i (.inl rfl)<|Tl.au d ?_;exact jo (ES _<|ac8 ..) _
 |false=>exactλf a c=>HQ rfl (Rx.rd<|Cy.it h.2 f a c) ⟨⟨⟨rfl,rfl⟩,rfl⟩,rfl⟩ (d f a c) λt ts q B=>FQ.cons q B
theorem T3(h:fJ b i k y u os):wh b i [k] u os:=λf a c=>HP J (r5 h f a c) (λx h=>h) λt q e=>FQ.eE (q e).1
theorem T4(h:fJ b i k y u o1)(d:wh b i ks v F):wh b i (k::ks) (Ap u<|Cn ((sg [44]).t q) v) (o1++F):=λf a c=>HQ J (r5 h f a c) ⟨J,J⟩ (d f a c) λt ts q B e=>FQ.cons (q e).1<|B e
theorem T7(h:fJ b i k y u os):r0 π b i k y u os:=
 ⟨λf a c=>(HZ (tZ h f a c) h.1 λx h=>h.1).au λt q e=>(q e).1,λe=>.inl<|cK Nl u J (by subst e;exact h.2) λf y v d hr=>HZ hr d λx h=>h.1⟩
theorem ID(h:fJ b i k y u os):r0 π b i (j4 a (O k) 0 0) y (Cn ((nm a).t q)<|Cn ((nm eW).t B) u) os:=
 ⟨λf a c=>H0 (tZ h f a c) λp t q e=>iC (cH.eE (q e).1)<|D J,λe=>.inl<|cK (Cn ((nm a).t q)<|Cn ((nm eW).t B) Nl) u J (by subst e;exact h.2) λf y v g hr=>H0 hr λd d d=>bk⟩
theorem T8(h:fJ b i k y u os):r0 π b i (j4 eV (O k) 16777216 0) y (Cn ((nm dP).t q)<|Cn ((wd eV).t G)<|Cn ((nm eW).t X) u) os:=
 ⟨λf a c=>H6 (tZ h f a c) λp t q e=>iC (cH.eE (q e).1)<|D J,λe=>.inl<|cK (Cn ((nm dP).t q)<|Cn ((wd eV).t G)<|Cn ((nm eW).t X) Nl) u J (by subst e;exact h.2) λf y v g hr=>H6 hr λd d d=>bk⟩
theorem T9:r0 π b i (j4 dP U 16777216 0) dP (Cn ((nm dP).t q)<|Cn ((nm dP).t B) Nl) []:=
 ⟨λf a c=>H5 λp e=>iC (cH.i cH.nil)<|D J,λd=>.inr ⟨J,gH q B J⟩⟩
theorem Ua{o:List T}{p r:T}(e:tV w fl)(d:pI b i o u o1)(h2:tW π b i p v F)(B:r0 π b i r y z Y):fJ b (i+1) (.nd 27 [] [o.head?,O p,O r,U] fl 0) y (qz π w j u v q z) (o1++(F++Y)):=by
 have l:=r4 i;have m:=λ{q z}=>TA (i:=j) (q:=q) (z:=z) e d.1 h2.1;have s:H2 (qz π w j u v q z):=(m.h2 (v:=Nl):);refine⟨s,?_⟩
 cases b with
 |false=>
  refine⟨λf a c=>?_,λh=>ax J h,λlo=>ax J lo.1,λlo=>ax J lo.1⟩;exact sc (P:=λf=>f<=15->Rd C (j0<|be f) (Fy y) _ _) a (λg a c=>Ip (H7 e (d.2 (g+1) (aE (L1 l)<|gs a) c) d.1 (h2.2 (g+1) (aE (L1 l)<|gs a) c) h2.1.lp ((B.rd g (aE (L1 l) a)<|iw c).j<|f4 c) λp o t M z1 K L=>wj (CB (z1 J) (K J)<|L J)<|D J)<|Iu e d.1 h2.1) c
 |true=>
  have E:∀f,cc i+2<=f->f<=15->kG I (be f) u Tr:=λf a c=>(d.2 f a c).au λA A=>bk;have H:∀f,cc i+2<=f->f<=15->nK I (be f) v Tr:=λf a c=>(h2.2 f a c).au λA A=>bk;have nf:=λ{q z}=>TD (i:=j) (q:=q) (z:=z) e d.1 h2.1
  rcases B.sq rfl with⟨pp,x,rfl,sq,hp⟩|⟨rfl,G,X,rfl⟩
  ·exact(Sq.au (Sq.fn (TE e d.1 h2.1 E H hp|>.au (bF _)) nf m<|sq.au (et _)<|bF _) (aE (by simp+arith only) l) (bF _):)
  ·exact(Sq.au (Sq.fp (TG e d.1 h2.1 E H) nf m<|.inl ⟨J,J⟩) (aE (by simp+arith only) l) (bF _):)
theorem Ub:pI b i [] Nl []:=⟨.inl J,λf c c=>SQ λc=>J⟩
theorem Uc(h:a∈hY):pI b i [aK 71 [] [.nd 100 a [U,U] 536870912 0] 0] (Cn ((sg [60]).t q)<|Cn ((nm fc).t G)<|Cn ((nm a).t X)<|Cn ((sg [62]).t q3) Nl) []:=
 ⟨.inr<|gH _ _ J,λf c c=>SS h λp M c=>CC<|cH.eE<|yS (o1:=[]) J J⟩
theorem Ud(h:a∈hY)(d:fJ b i k y u os):pI b i [aK 71 [] [.nd 100 a [O k,U] 0 0] 0] (Cn ((sg [60]).t q)<|Cn ((nm a).t G)<|Cn ((wd iS).t X)<|Ap u<|Cn ((sg [62]).t q3) Nl) (os++[]):=
 ⟨.inr<|gH _ _ J,λf a c=>SV h (r5 d f a c) λp M t q e=>CC<|cH.eE<|yS (q e).1 J⟩
theorem Ue(h:a∈hY)(d:fJ b i k y u os):pI b i [aK 71 [] [t6 a 0,t7 (aK 81 [84] [] 0) k 0] 0] (Cn ((sg [60]).t q)<|Cn ((wd f5).t G)<|Cn ((nm a).t X)<|Cn ((sg [44]).t q3)<|Cn ((wd f5).t q4)<|Cn ((nm fc).t q5)<|Cn ((nm fc).t q6)<|Cn ((wd iS).t q7)<|Cn ((nm [84]).t q8)<|Cn ((sg [61]).t q9)<|Ap u<|Cn ((sg [62]).t q0) Nl) os:=
 ⟨.inr<|gH _ _ J,λf x c=>sc (P:=λf=>cc i+2<=f->f<=15->kG b (be f) _ _) (iw x) (λg m x c=>S1 h (r5 d (g+1) x c) λp M l r t q e=>CC<|cH.cons (a:=[]) (yS (p:=0) (o1:=[]) J J)<|cH.eE<|yS (o1:=[]) (show fu (aK 81 [84] [] 0) (aK 81 [84] [] l)=O [] from iC cH.nil (D J)) (q e).1) x c⟩
end
noncomputable def lt(u:List aj):List Nat:=(u.getLast?.map aj.aP).getD []
theorem Uf{a b:List aj}(h:b≠[]):lt (a++b)=lt b:=by
 unfold lt;rw[uM];cases hb:b.getLast? with
 |none=>exact ax (Nj.mp hb) h
 |some t=>rfl
section
variable{b:Bool}{m i:Nat}{c:gw}{ks:List T}{y:List W}
theorem yT{P:W->Prop}(A:∀n∈dY++[wd bH,st bH fO],P n)(h:n∈dY∨n=wd bH∨n=st bH fO):P n:=
 A n (eT.mpr<|h.imp id λe=>d2.mpr<|e.imp id iv.mpr)
theorem CD{n:W}(h:n∈dY∨n=wd bH∨n=st bH fO):(n.k=1∨n.k=2∨n.k=3∨n.k=4)/\n.l=C/\n.o=C/\(n.k=2->n.x=bH->n=wd bH):=by
 have A:=yT (P:=λn=>(n.k=1∨n.k=2∨n.k=3∨n.k=4)/\n.l=C/\n.o=C/\(n.k=2->n.x=bH->n.w=bH)) (D J) h;exact⟨A.1,A.2.1,A.2.2.1,λa h2=>by
  have d:=A.2.2.2 a h2;clear h
  cases n;cases a;cases h2;cases d;cases A.2.1;cases A.2.2.1;rfl⟩
theorem CE{fl:Int}(h:n∈dY∨n=wd bH∨n=st bH fO)(d:fT n w fl):∃x r,w=x::r/\x.l=C/\(x.k=1∨x.k=2∨x.k=3∨x.k=4):=by
 refine ly (CD h) λa h2 e=>?_
 induction d
 ·exact cK _ _ J h2 a
 ·exact cK _ _ J h2 a
 ·exact cK _ _ J J<|.inl J
 ·exact cK _ _ J J<|.inl J
noncomputable def Ug(c:gw)(y:List W):Prop:=match c with
 |.q=>y=[]∨∃r,y=sg [60]::r
 |.ps=>∃r,y=sg [40]::r
 |.sg=>∃x r,y=sg x::r/\(x=[40]∨x=[60])
 |.i=>∃x r,y=x::r/\x.l=C/\x.k≠9
 |.j=>∃x r,y=x::r/\x.l=C/\x.k≠9
 |_=>True
theorem pJ(h:K b m i c ks y):Ug c y:=by
 induction h with
 |i=>exact .inl J
 |iG=>exact .inr ⟨_,J⟩
 |ib=>exact .inr ⟨_,J⟩
 |ic=>exact .inr ⟨_,J⟩
 |ps=>exact⟨_,J⟩
 |ie _ _ d h2=>
  obtain⟨r,rfl⟩:=h2
  rcases d with rfl|⟨g,rfl⟩
  ·exact cJ _ _ rfl<|.inl rfl
  ·exact cJ _ _ J<|.inr J
 |g3 _ _ _ d h2 _=>
  obtain⟨r,rfl⟩:=h2
  rcases d with rfl|⟨g,rfl⟩
  ·exact cJ _ _ rfl<|.inl rfl
  ·exact cJ _ _ J<|.inr J
 |iI f e=>
  refine cU (CE (f.imp (λh=>h) .inl) e) ?_;rintro x r rfl d h2;exact cK x r J d<|by lia
 |ig f e _ _=>
  refine dn λj=>cU (CE (f.imp (λh=>h) .inl) e) ?_;rintro x r rfl d h2;exact j<|cK x _ J d<|by lia
 |g4 f e _ _ _=>
  refine cU (CE (f.imp (λh=>h) .inr) e) ?_;rintro x r rfl d h2;exact cK x _ J d<|by lia
 |ii _ d=>
  refine eB d ?_;clear d;rintro x r rfl _;exact cK _ _ J J<|show(5:Int)≠9 by decide
 |ij=>exact cK _ _ J J<|show(2:Int)≠9 by decide
 |ik e _ _ _=>
  rcases e with⟨rfl,_⟩|⟨rfl,_⟩
  ·exact cK _ _ rfl rfl<|show(5:Int)≠9 by decide
  ·exact cK _ _ J J<|show(1:Int)≠9 by decide
 |ms1 _ d=>exact d
 |gB _ _ _ d _=>refine cU d ?_;rintro x r rfl a q;exact cK x _ J a q
 |iJ _ _ _ d _=>refine cU d ?_;rintro x r rfl a q;exact cK x _ J a q
 |iK _ _ _ _ d _=>refine cU d ?_;clear d;rintro x r rfl a q;exact cK x _ J a q
 |_=>exact dr
noncomputable def La(y:List W):Prop:=∃r w,y=r++[w]/\w.k≠9
theorem La.j{a c:List W}(h:La c):La (a++c):=by refine eB h ?_;rintro r w rfl e;exact cJ (a++r) w (by simp) e
theorem La.cons{c:List W}(h:La c):La (a::c):=La.j (a:=[a]) h
theorem La.sg:La [sg x]:=cJ [] _ J<|show(5:Int)≠9 by decide
theorem La.nm:La [nm x]:=cJ [] _ J<|show(1:Int)≠9 by decide
theorem La.d9{c:List W}(h:La c):La (d9 l c):=by
 refine eB h ?_;clear h;rintro r w rfl e
 induction r using aW with
 |nil=>exact cJ [] _ J e
 |cons a r=>exact cJ (_::r) w J e
theorem Uh{fl:Int}(h:n∈dY∨n=wd bH∨n=st bH fO)(a:fT n w fl):La w:=by
 refine ly (CD h) λd h2 e=>?_
 induction a
 ·exact cJ [] _ J<|by lia
 ·exact La.sg.j (a:=[_])
 ·exact cJ [_,_] n J<|by lia
 ·exact La.sg.j (a:=[_,_,_])
noncomputable def Ui(c:gw)(y:List W):Prop:=match c with
 |.y _ _=>True
 |.q=>True
 |_=>La y
theorem jF(h:K b m i c ks y):Ui c y:=by
 induction h with
 |j=>exact dr
 |jd=>exact dr
 |iH=>exact dr
 |i=>exact dr
 |iG=>exact dr
 |ib=>exact dr
 |ic=>exact dr
 |i9=>exact La.nm
 | @ae i a _=>
  unfold d6;split
  ·exact cJ [_,_] _ J<|show(2:Int)≠9 by decide
  ·exact La.nm
 |ja _ _ _ _=>exact(La.j<|La.cons<|La.j La.sg)
 |gN _ _=>exact(La.cons<|La.j La.sg)
 |jD=>exact(La.cons La.sg)
 |gk _ _ _=>exact(La.cons<|La.cons<|La.j<|La.cons La.sg)
 |gi _ _=>exact(La.j<|La.cons La.sg)
 |aa _ _ _ h=>exact(La.j<|La.cons<|La.cons<|La.cons h)
 |un _ _ _ _ h=>exact(La.j<|La.cons<|La.cons<|La.cons h)
 |fn _ _ _ _ _ _ h=>exact(La.j<|La.j<|La.j<|La.cons<|La.cons<|La.cons h)
 |iD _ _ h=>exact h
 |jb _ _ _=>exact(La.cons<|La.j La.sg)
 |iE _ h=>exact h
 |h9 _ _ _ h=>exact(La.j<|La.cons<|La.cons<|La.cons h)
 |iF _ h=>exact h
 |ia _ _ _ h=>exact(La.j<|La.cons<|La.cons h)
 |jE h=>
  induction h
  ·exact La.cons La.nm
  ·exact La.cons La.sg
  ·exact La.nm
  ·exact cJ [] _ J<|show(2:Int)≠9 by decide
 |jc _ _ h=>exact(La.j<|La.cons<|La.cons h)
 |ps _ _ _=>exact(La.cons<|La.j La.sg)
 |ef _ h=>exact h
 |je _ h=>exact(La.j (a:=[_,_,_,_]) h)
 |q=>exact(La.j (a:=[_,_]) La.nm)
 |jf _ h=>exact(La.j (a:=[_,_,_,_,_,_]) h)
 |jg _ h=>exact(La.j (a:=[_,_,_,_]) h)
 |ie _ _ _ h=>exact(La.j h)
 |g3 _ _ _ _ _ h=>exact(La.j<|La.j<|La.cons<|La.cons h)
 |iI d e=>exact(Uh (d.imp (λh=>h) .inl) e)
 |ig d e _ h=>exact(La.j<|La.cons<|La.cons h)
 |g4 _ _ _ _ h=>exact(La.j h)
 |ii _ h=>exact h
 |ij _ h=>exact(La.cons<|La.cons h)
 |ik _ _ _ h=>exact(La.j<|La.j (a:=[_,_,_,_,_,_,_,_]) h)
 |ms1 _ h=>exact h
 |gB _ _ _ _ h=>exact(La.j<|La.cons<|La.cons h)
 |iJ _ _ _ _ h=>exact(La.j<|La.cons<|La.cons h)
 |iK _ _ _ _ _ h=>exact(La.j<|La.cons h.d9)
theorem CF(r:List W)(w:W):hZ (r++[w])=w.x:=by simp[hZ]
theorem Uj{os:List Int}(h:tk y u os)(a:La y):lt u=hZ y:=by
 refine dn λd=>eB a ?_;clear a;rintro r w rfl e;obtain⟨j,k,o1,l,rfl,rfl,_,h2⟩:=vM h;rw[mF e] at h2;clear h;refine lB h2 ?_;clear h2;rintro n p e o f rfl rfl g;refine d ?_;rw[CF,Uf (by simp),(mG g).1];rfl
theorem Uk{x:W}(h:x.l=C):d9 C (x::r)=x::r:=by
 obtain⟨a,b,c,d,e⟩:=x;cases h;rfl
theorem nO(h:w≠[]):d9 l (w++v)=d9 l w++v:=by
 induction w using aW with
 |nil=>exact ax J h
 |cons a r=>rfl
end
section
variable{B:Nat->Pc}{b jj:Bool}{i j n f:Nat}{y y' a:List Nat}{k p:T}{ks:List T}{u v z:Px}{os o1 M X:List Int}{q Y:Pc}{w:List W}{fl Q p1:Int}{F N:Bool}
theorem IE(d:fH w a fl):fl=0∨fl=4096∨fl=8192:=by
 induction d with
 |dots=>exact .inr<|.inr J
 |i=>exact .inr<|.inl J
 |_=>exact .inl J
theorem Ul(d:fH w a fl):wi B b i (lf a U fl 0 0) (bU B w j) []:=
 ⟨λz g=>.inr ⟨w,a,fl,j,z,J,d,g⟩,HV d,λf e e=>S2 d λQ p1=>⟨⟨J,J,IE d⟩,λe=>Iz J⟩⟩
theorem Um(d:fH w a fl)(g:fJ b i k y u os):wi B b i (lf a (O k) fl 0 0) (Ap (bU B w j)<|Cn ((sg [58]).t q) u) os:=
 ⟨λz h=>.inr ⟨w,a,fl,j,Cn ((sg [58]).t q)<|Ap u z,J,d,.inr<|lz [58] q _ J<|.inl J⟩,λr=>HV d _,λf a c=>S3 d (r5 g f a c) λQ p1 t z=>⟨⟨J,J,IE d⟩,λe=>Iz (z e).1⟩⟩
theorem IF{t:T}(g:k4 p=I->N=I)(h2:F=I->p.cj≠0)(ht:t.cj=p.cj/\k4 t=k4 p/\(t.cj=0∨t.cj=4096∨t.cj=8192))(h:ts=[]∨Cz C (F||decide (p.cj=4096)) ts):Cz N F (t::ts):=by
 intro j o;refine ly ht λe1 e2 d=>?_;have hr:∀lax',lax'=(F||decide (p.cj=4096))->gW (j+1) lax' ts=[]:=λlax' e=>h.elim (λh=>h▸J) λh=>e▸h (j+1) bc;show(if 0<j/\k4 t=I then[2680] else[])++(if t.cj=4096 then gW (j+1) I ts else(if(F&& !rJ t)=I then[1016] else[])++gW (j+1) F ts)=[];rw[a9 λc=>ax c.1 (by rw[o (g<|e2▸c.2)];decide)];rw[e1] at d⊢
 by_cases q:p.cj=4096
 ·rw[aN q];exact hr I (by rw[q];exact(uL _).symm)
 ·rw[a9 q,hr F (by rw[dO q,oj]),cM];refine a9 λc=>?_;have c:=ec.mp c;have r:rJ t=true:=dH<|e1.trans<|(d.resolve_left<|h2 c.1).resolve_left q;rw[r] at c;exact bc c.2
theorem Un:tX B b i N F [] Nl []:=⟨.inl J,λf d d=>S4 ⟨λd d=>J,λd=>cH.nil⟩⟩
theorem Uo(h:wi B b i p u os)(d:k4 p=I->N=I)(h2:F=I->p.cj≠0):tX B b i N F [p] u os:=
 ⟨h.1 Nl<|.inl J,λf x c=>S5 h.2.1 (h.2.2 f x c) λt z=>⟨IF d h2 z.1<|.inl J,λe=>FQ.eE<|z.2 e⟩⟩
theorem Up(h:wi B b i p u o1)(g:k4 p=I->N=I)(h2:F=I->p.cj≠0)(o:p.cj≠8192)(r:tX B b i C (F||decide (p.cj=4096)) ks v M):tX B b i N F (p::ks) (Ap u<|Cn ((sg [44]).t q) v) (o1++M):=
 ⟨h.1 _<|.inr<|lz [44] q v J<|.inr J,λf x c=>S6 h.2.1 (h.2.2 f x c) (λt z=>dO λe=>o<|z.1.1.symm.trans e) (r.2 f x c) λt ts z d=>⟨IF g h2 z.1<|.inr d.1,λe=>FQ.cons (z.2 e)<|d.2 e⟩⟩
theorem Uq(h:tX B b i I C ks u os):tW B b i (aK 71 [] ks 0) (Cn ((sg [40]).t q)<|Ap u<|Cn ((sg [41]).t Y) Nl) os:=
 ⟨lz q u Y J h.1,λf a c=>S7 (h.2 f a c) λp ts z=>⟨z.1 0 λd=>J,λe=>iC (z.2 e)<|D J⟩⟩
theorem IG(d:pI b i o u o1)(h2:tW B b i p v M):Sh (Ap u<|Ap v z):=by
 rcases d.1 with rfl|⟨q,u,rfl⟩
 ·refine jV h2.1.lp ?_;rintro q v rfl;exact lz _ q (Ap v z) J<|.inl J
 ·exact lz _ q (Ap u<|Ap v z) J<|.inr J
theorem Ur{o:List T}(d:pI b i o u o1)(h2:tW B b i p v M):CA b i [o.head?,O p,U,U] y (Ap u v) (o1++(M++[])):=
 ⟨(IG (z:=Nl) d h2:),λf x c a fl Q=>S8 (d.2 f (iw x) c) (h2.2 f (iw x) c) h2.1.lp (λt r z g e=>iC (CB (z e) (g e) J)<|D J) λx h=>h.1⟩
theorem Us{o:List T}(d:pI b i o u o1)(h2:tW B b i p v M)(r:r0 B b i k y z X):CA b i [o.head?,O p,O k,U] y (Ap u<|Ap v<|Cn ((sg [58]).t q) z) (o1++(M++X)):=
 ⟨IG d h2,λf x c=>sc (P:=λf=>cc i+3<=f->f<=15->∀a fl Q,Rd b (gc (be f) a fl Q) (Fy y) _<|QB b<|Fq (.nd 27 a [o.head?,O p,O k,U] fl 0)<|o1++(M++X)) x (λg x h c a fl Q=>S9 (d.2 _ (iw h) c) (h2.2 _ (iw h) c) h2.1.lp ((r.rd g x<|iw c).j<|f4 c) λt E F z s A e=>iC (CB (z e) (s e)<|A e)<|D J) x c⟩
end
theorem Ut{n:W}{q:Pc}(h:Fy n.x x):pG (n.t q) x=false:=by
 unfold pG;rw[h.gc,h.j.1];refine kl.mpr ⟨mW _,kl.mpr ⟨mW _,?_⟩⟩
 cases e:((n.t q).is 1 f6||(n.t q).is 1 gv) with
 |false=>rfl
 |true=>exact h.j.2<|(jr.mp e).imp (λe=>(pq e).2) λe=>(pq e).2
theorem g5{n:W}(h:n∈dY∨n=wd bH):n∈dY∨n=wd bH∨n=st bH fO:=h.imp (λh=>h) .inl
theorem nT{n:W}(h:n∈dY∨n=st bH fO):n∈dY∨n=wd bH∨n=st bH fO:=h.imp (λh=>h) .inr
noncomputable def qZ:Pc:=⟨0,0,0⟩
theorem pK{n:W}(h:n∈dY∨n=wd bH∨n=st bH fO):(n.t qZ).i=I/\n.l=C/\n.o=false:=yT (P:=λn=>(n.t qZ).i=I/\n.l=C/\n.o=C) (D J) h
theorem Uu{n:W}(h:n∈dY∨n=st bH fO):(n.t qZ).is 2 bH=false:=by
 have A:∀n∈dY++[st bH fO],(n.t qZ).is 2 bH=false:=by decide
 exact A n<|eT.mpr<|h.imp id iv.mpr
section
variable{B:Nat->Pc}{b:Bool}{i j m:Nat}{c:gw}{ks:List T}{G a:List W}{w:W}{u:Px}{os:List Int}{n:W}{fl:Int}{l:Bool}{y:List Nat}
theorem il{P:Px->List Int->Prop}(e:d=u)(o:g=os)(h:P u os):P d g:=e▸o▸h
theorem mJ{P:List Nat->Px->List Int->Prop}{Y:List Nat}(o:Y=y)(e:d=u)(r:g=os)(h:P y u os):P Y d g:=o▸e▸r▸h
theorem o0(h:∀j,cq B a j=[]):cq B (G++a) i=cq B G i:=oA.trans<|(bJ _<|h _).trans<|cM _
theorem o1(h:∀j,cq B a j=[]):cq B (a++G) i=cq B G (i+a.length):=oA.trans (bJ (·++_)<|h _)
theorem jG(h:La G):hZ (a++G)=hZ G:=by
 refine eB h ?_;rintro r w rfl _;rw[<-b6,CF,CF]
theorem IH{a:List Nat}(d:fH G a fl):∀j,cq B G j=[]:=by
 induction d<;>exactλj=>J
theorem CG(g:n.o=C)(h:fT n G fl):∀j,cq B (d9 l G) j=[]:=by
 have e:∀l j r,cq B r (j+1)=[]->cq B ({n with l:=l}::r) j=[]:=λl j r e=>by
  show cond (decide (n.k=9)) (cq B r<|j+1) (cond n.o (_::cq B r (j+1))<|cq B r<|j+1)=[];rw[e,g];cases decide (n.k=9)<;>rfl
 have d:∀j r,cq B r (j+1)=[]->cq B (n::r) j=[]:=λj r=>e n.l j r;intro j
 induction h with
 |gh=>exact e _ _ [] J
 |i=>exact e _ _ [sg [63]] J
 |ro=>exact d _ [] J
 |j=>exact d _ [sg [63]] J
theorem yU(d:fT n G fl):G≠[]:=by induction d<;>exactλe=>ju e
theorem wl(hc:c=.i∨c=.j∨c=.sg)(h:K b m i c ks G):G≠[]/\d9 C G=G:=by
 have:=pJ h;clear h
 rcases hc with rfl|rfl|rfl<;>
 ·refine eB this ?_;clear this;rintro x r rfl d;refine⟨λe=>(ac9 _ _ e).elim,Uk ?_⟩
  first|exact d.1|rcases d with rfl|rfl<;>rfl
theorem CH{w v:List W}(h:w≠[])(d:l=I->yR (w++v)):l=I->yR w:=λe=>by
 induction w using aW with
 |nil=>exact ax J h
 |cons x r=>exact d e
theorem fe{P:T->Prop}(h:P x):∀k,[x]=[k]->P k:=λd e=>ada e▸h
end
section
variable{u:Nat->Pc}{b:Bool}{i j m f:Nat}{ks:List T}{k:T}{y a:List W}
theorem oR{x o c:List Int}(h:o=c):x++o=x++c:=h▸J
theorem yV(h:K b m i .j ks y)(d:Iy u b i .j ks y)(j f:Nat)(a:cc i+3<=f)(c:f<=15):Ix b f C ks (bU u y j) (cq u y j):=by
 have:=d C bc j f a c;rw[(wl (.inr<|.inl J) h).2] at this;exact this
theorem Uv{fl:Int}(h:tV w fl):∀j,cq u w j=[]:=by
 rcases h with⟨rfl,_⟩|⟨rfl,_⟩<;>exactλj=>rfl
theorem Uw{w:W}(e:y.getLast? =O w):hZ y=w.x:=by unfold hZ;rw[e];rfl
theorem II{a:List Nat}{p c:Int}:i8 (O<|c6 80 a p) (O<|c6 80 a c)=O []:=iC (p:=p) cH.nil<|D J
theorem IJ{u d:Px}(h:Cn t u=Cn c d):t=c:=bJ (λu:Px=>(u.1 []).headD kY) h
theorem Ux{t:aj}(h:t.cC=I)(h2:yN I t=I):Fk t:=by
 show cond t.cC (!decide (t.aq=5)||decide (t.aP=[91])) _=I;rw[h]
 rcases jr.mp h2 with g|g
 ·rw[dO λe=>by unfold aj.i at g;rw[e] at g;exact bc g];rfl
 ·have g:=(jr.mp (ec.mp g).2).resolve_right λe=>bc e;show(_||decide (t.aP=[91]))=I;rw[g,uL]
theorem Uy{c:gw}(h:K b m i c ks y):Iy u b i c ks y:=by
 induction h with
 |i9 F=>exact fe λj=>TO F
 |ae F=>exact fe λj=>TP F
 |ja F _ _ d=>exact fe λj=>il (xA.trans<|xR<|xC xA) (oA.trans<|oR<|o0 λM=>J)<|TQ F<|d _
 |gN _ d=>exact fe λj=>il (xC xA) (o0 λM=>J)<|TR<|d _ J _
 |jD=>exact fe λj=>TU
 |gk P _ d=>exact fe λj=>il (xC xA) (o0 λM=>J)<|TS<|yV P d _
 |gi _ d=>exact fe λj=>il xA (o0 λM=>J)<|TX<|d _ J _
 |aa _ _ d A=>exact fe λj=>il xA oA<|TY (d _ J _)<|A _ J _
 |un _ _ P d A=>exact fe λj=>il xA oA<|TZ (d _ J _) (A _) P
 |fn o _ _ G s z N=>exact fe λj=>mJ ((jG<|La.j<|La.j<|La.j<|jF G).trans<|(jG<|La.j<|La.j<|jF G).trans<|(jG<|La.j<|jF G).trans<|jG (a:=[_,_,_])<|jF G) (xA.trans<|xR<|xA.trans<|xR xA) ((o1<|Uv o).trans<|oA.trans<|oR oA)<|Ua o (s _) (z _ J _)<|N _ J _
 |iD R _ d=>exact fe λj=>TV R<|d _ J j
 |jb R _ d=>exact fe λj=>il (xC xA) (bJ (_::·)<|o0 λM=>J)<|TW R<|d _ J _
 |iE _ d=>exactλj=>T1<|d _ J j
 |h9 _ _ d A=>exactλj=>il xA oA<|T2 (d _ J _)<|A _
 |iF _ d=>exactλj=>T3<|d _ J j
 |ia _ _ d A=>exactλj=>il xA oA<|T4 (d _ J _)<|A _
 |i=>exactλj=>Ub
 |iG F=>exactλj=>Uc F
 |ib F _ d=>exactλj=>il (xC<|xC<|xC xA) oA<|Ud F<|d _ J _
 |ic F _ d=>exactλj=>il (xC<|xC<|xC<|xC<|xC<|xC<|xC<|xC<|xC<|xC xA) (o0 λM=>J)<|Ue F<|d _ J _
 |jE o=>exact fe λj=>il J (IH o j)<|Ul o
 |jc o _ d=>exact fe λj=>il xA (o1<|IH o)<|Um o<|d _ J _
 |j=>exactλj=>Un
 |jd _ E h2 d=>exactλj=>Uo (d _ J j) E h2
 |iH _ E h2 X _ d A=>exactλj=>il xA oA<|Up (d _ J _) E h2 X<|A _
 |ps _ _ d=>exact fe λj=>il (xC xA) (o0 λM=>J)<|Uq<|d _
 |ef _ d=>exact fe λj=>T7<|d _ J j
 |je k d=>exact fe λj=>mJ (jG (a:=[_,_,_,_])<|jF k) J J<|ID<|d _ J _
 |q=>exact fe λj=>T9
 |jf k d=>exact fe λj=>mJ (jG (a:=[_,_,_,_,_,_])<|jF k) J J<|T8<|d _ J _
 |jg k d=>exact fe λj=>mJ (jG (a:=[_,_,_,_])<|jF k) J J<|ID<|d _ J _
 |ie _ _ s z=>exact fe λj=>il xA (oA.trans<|oR (cM _).symm)<|Ur (s _)<|z _ J _
 |g3 _ _ G s z N=>exact fe λj=>mJ ((jG<|La.j<|La.j<|jF G).trans<|(jG<|La.j<|jF G).trans<|jG (a:=[_,_])<|jF G) (xA.trans<|xR xA) (oA.trans<|oR oA)<|Us (s _) (z _ J _)<|N _ J _
 |iI H o=>exact fe λl B j f a c=>mJ J J (CG (pK<|g5 H).2.2 o j) (Th (pK<|g5 H).1 (pK<|g5 H).2.1 o (λx h=>⟨h.1,λe=>Ut<|Uw e▸h⟩) λp e=>iC (cH.i cH.nil)<|D J)
 |ig H o k d=>exact fe λl B j f a c=>mJ ((jG<|La.j<|jF k).trans<|jG (a:=[_,_])<|jF k) ((bJ (bU u · j)<|nO<|yU o).trans xA) ((bJ (cq u · j)<|nO<|yU o).trans<|o1<|CG (pK<|g5 H).2.2 o) (Ti (pK<|g5 H).1 (pK<|g5 H).2.1 o (tZ (d _ J _) f (iw a) c) λp t q e=>iC (cH.eE (q e).1)<|D J)
 |g4 H o Y k d=>exact fe λl B j f a c=>mJ (jG<|jF k) ((bJ (bU u · j)<|nO<|yU o).trans xA) ((bJ (cq u · j)<|nO<|yU o).trans<|o1<|CG (pK<|nT H).2.2 o) (Tj (pK<|nT H).1 (pK<|nT H).2.1 o (Uu H) Y (d _ J _).1 λp=>(d _ J _).2 f a c _ _ p)
 |ii P d=>
  refine fe λl B j f a c=>?_;obtain rfl:l=false:=by
   induction l using xx with
   |false=>rfl
   |true=>
    have E:=pJ P;refine eB E ?_;clear E;rintro x r rfl Z;have:=B J (sg x) J;exact Z.elim (λe=>ax e this.1) λe=>ax e this.2
  rw[(wl (.inr<|.inr J) P).2];exact Tm (d _ J j).1 λp=>(d _ J j).2 f a c _ _ p
 |ij k d=>exact fe λl B j f a c=>mJ (jG (a:=[_,_])<|jF k) J J (Tn (d _ J _).1 λp=>(d _ J _).2 f a c _ _ p)
 |ik o F k d=>
  refine fe λl B j f a c=>sc (P:=λf=>cc _+3<=f->f<=15->Iw b f l _ _ _ _) a (λg M a c=>?_) a c;have S:=λj=>tZ (d _ J j) (g+1) (iw a) c;have L:=jF k;clear d B
  rcases o with⟨rfl,rfl⟩|⟨rfl,rfl⟩
  ·exact mJ (jG (a:=[_,_,_,_,_,_,_,_]) L) rfl rfl<|To (S _) λp p' t q e=>iC (cH.cons II<|cH.eE (q e).1)<|D rfl
  ·exact mJ (jG (a:=[_,_,_,_,_,_,_,_,_,_]) L) J J (Tp (S _) λp p' t q e=>iC (cH.cons II<|cH.eE (q e).1)<|D J)
 |ms1 _ d=>exactλl B j f a c=>Tq (d _ J l B j f a c) (λq=>Cl.j ⟨J,J⟩) λt q e=>FQ.eE<|q e
 |gB _ E h2 s z=>
  intro l B j f a c;have k1:=wl (.inl J) E;exact il ((bJ (bU u · j)<|nO k1.1).trans xA) ((bJ (cq u · j)<|nO k1.1).trans oA) (Ii (.inl J) (s _ J l (CH k1.1 B) j f a c) (λq=>Cl.j ⟨J,J⟩) (yV h2 z _ f a c) λt ts q Q e=>FQ.cons (q e)<|Q e)
 |iJ _ E h2 s z=>
  intro l B j f a c;have k1:=wl (.inl J) E;exact il ((bJ (bU u · j)<|nO k1.1).trans xA) ((bJ (cq u · j)<|nO k1.1).trans oA) (Ii (.inr J) (s _ J l (CH k1.1 B) j f a c) (λq=>Cl.j ⟨J,J⟩) (yV h2 z _ f a c) λt ts q Q e=>FQ.cons (q e)<|Q e)
 | @iK i k ks y ws' _ k1 k2 ln s z=>
  intro l B j f a c;have G:=wl (.inl J) k1;have h2:=z I (λM w o=>⟨(ln.2.2 w o).1,(ln.2.2 w o).2.1⟩) (j+(d9 l y).length+1) f a c;refine il ((bJ (bU u · j)<|nO G.1).trans xA) ((bJ (cq u · j)<|nO G.1).trans oA)<|Tt (s _ J l (CH G.1 B) j f a c) h2 (λt v e=>?_) λt ts q Q e=>FQ.cons (q e)<|Q e;refine cU (pJ k2) ?_;rintro x r rfl _ V;have e1:bU u (d9 I<|x::r) (j+(d9 l y).length+1)=Cn (({x with l:=I}:W).t<|u<|j+(d9 l y).length+1) (bU u r<|j+(d9 l y).length+1+1):=by
   show cond (decide (x.k=9)) _ _=_;rw[dO V];rfl
  have e:=e;have e2:=IJ<|e.symm.trans e1;refine cU h2.1 λt' v' e3 E h2=>?_;rw[<-IJ (e.symm.trans e3)] at E h2;exact⟨Ux E h2,λM=>⟨ln.1,ln.2.1,λe=>by rw[e2];exactλe'=>(ln.2.2 x J).2.2 ⟨e,e'⟩⟩⟩
end
section
variable{x:List Nat}{ws j:List W}{u:List aj}{os:List Int}{G:List aj->Prop}{F:List aj->List Int->Prop}
@[elab_as_elim] theorem ts(h:tk (sg x::ws) u os)(k:∀n p e a,tk ws a os->G (⟨5,x,n,p,e,C⟩::a)):G u:=by
 refine u7 (Ce h) ?_;rintro n p e a rfl b;exact k _ _ _ _ b
@[elab_as_elim] theorem ta(h:tk (ws++j) u os)(k:∀a b o1 c,tk ws a o1->tk j b c->F (a++b) (o1++c)):F u os:=by
 obtain⟨a,b,o1,c,rfl,rfl,d,h2⟩:=vM h;exact k _ _ _ _ d h2
end
theorem t0(k:Int)(y:List Nat)(n p e:Int)(l:Bool)(a:Int)(x:List Nat):(aj.mk k y n p e l).is a x=(decide (k=a)&&decide (y=x)):=rfl
section
variable{π:Nat->Pc}{ws:List W}{i:Nat}
theorem Uz:bU π ws (i+1)=bU (λn=>π<|n+1) ws i/\cq π ws (i+1)=cq (λn=>π<|n+1) ws i:=by
 induction ws generalizing i with
 |nil=>exact⟨J,J⟩
 |cons w ws a=>
  show cond _ (bU π ws<|i+1+1) (Cn _<|bU π ws<|i+1+1)=cond _ (bU _ ws<|i+1) (Cn _<|bU _ ws<|i+1)/\cond _ (cq π ws<|i+1+1) (cond _ (_::cq π ws (i+1+1))<|cq π ws<|i+1+1)=cond _ (cq _ ws<|i+1) (cond _ (_::cq _ ws (i+1))<|cq _ ws<|i+1);rw[a.1,a.2];exact⟨J,J⟩
theorem UA{u:List aj}{os:List Int}(h:tk ws u os):∃π:Nat->Pc,(∀r,u++r=(bU π ws 0).1 r)/\os=cq π ws 0:=by
 induction ws generalizing u os with
 |nil=>exact aD (λd=>qZ) (λr=>by rw[h.1];rfl) h.2
 |cons w ws b=>
  have a:=λπ q=>Uz (π:=λx=>fW x q π) (ws:=ws) (i:=0);refine tQ h (λq h=>?_) λn p e f c q h=>?_<;>refine aB (b h) λπ e1 e2=>?_
  ·refine aD (λx=>fW x qZ π) (λr=>(e1 r).trans ?_)<|e2.trans ?_
   ·show _=(cond (decide (w.k=9)) _ _:Px).1 r;rw[dH q,(a π qZ).1];rfl
   ·show _=cond (decide (w.k=9)) _ _;rw[dH q,(a π qZ).2];rfl
  ·refine aD (λx=>fW x ⟨n,p,e⟩ π) (λr=>?_) ?_
   ·show _=(cond (decide (w.k=9)) _ _:Px).1 r;rw[dO q,(a π ⟨n,p,e⟩).1];exact bJ (_::·)<|e1 r
   ·show _=cond (decide (w.k=9)) _ _;rw[dO q,(a π ⟨n,p,e⟩).2,e2]
    cases w.o<;>rfl
theorem fK{m i:Nat}{u:List aj}{os:List Int}(g:i<=2)(h:K b m i .j ks ws)(c:tk (sg [123]::sp::(ws++[sp,sg [125]])) u os)(a:eD<|u++[e]):
  Rs b (gK (be 15) ⟨u++[e],[]⟩) λt s=>QB b (Fq (aK 71 [] ks 0) os) t/\s=⟨[e],[]⟩:=by
 have hc:cc i+3<=15:=by
  rcases(by lia:i=0∨i=1∨i=2) with rfl|rfl|rfl<;>decide
 refine aB (UA c) λπ e1 e2=>?_;have d:cq π (sg [123]::sp::(ws++[sp,sg [125]])) 0=cq π ws 2:=o0 λj=>J;have f:bU π (sg [123]::sp::(ws++[sp,sg [125]])) 0=Cn ((sg [123]).t<|π 0) (Ap (bU π ws 2)<|Cn ((sg [125]).t<|π<|2+ws.length+1) Nl):=xC xA;rw[e1 [e],f] at a⊢;rw[e2,d];exact Ij (yV h (Uy h) 2 15 hc<|bF _) (λp ts q e=>iC (q e)<|D J) e [] bk a
end
theorem UB{m i:Nat}{ws:List W}{u:List aj}{os:List Int}(a:i<=2)(h:K C m i .j ks ws)(b:tk (sg [123]::sp::(ws++[sp,sg [125]])) u os)(c:eD<|u++[e]):
  ∃t,gK (be 15) ⟨u++[e],[]⟩=.ok t ⟨[e],[]⟩/\fu (aK 71 [] ks 0) t=O os:=cU (fK a h b c).cN λt s e1 e2 d=>aD t (d▸e1)<|e2 J
theorem UC{m i:Nat}{ws:List W}{u:List aj}{os:List Int}(a:i<=2)(h:K I m i .j ks ws)(b:tk (sg [123]::sp::(ws++[sp,sg [125]])) u os)(c:eD<|u++[e]):
  Rs I (gK (be 15) ⟨u++[e],[]⟩) λd s=>s=⟨[e],[]⟩:=(fK a h b c).au λt s h=>h.2
noncomputable def jh(p:Int)(t:T):Bool:=decide (p=83)&&(decide (t.aq=27)||decide (t.aq=83))||(decide (p=84)||decide (p=85))&&(decide (t.aq=27)||(decide (t.aq=83)||decide (t.aq=84)))
mutual
noncomputable def nd:T->Nat
 |.nd k _ ks _ _=>cV k ks+if k=27∨k=98 then 1 else 0
noncomputable def cV(p:Int):List (Option T)->Nat
 |[]=>0
 |none::r=>cV p r
 |some t::r=>nd t+(if jh p t then 1 else 0)+cV p r
end
noncomputable def IK(p:Int)(t:T):Prop:=(p=83->nE t)/\(p=84∨p=85->la t)
theorem UD{p:Int}{d q:T}(h:jh p d=I)(a:IK p q):q.aq≠d.aq/\d.aq≠98:=by
 simp only[jh,uK,ol,decide_eq_true_eq] at h;obtain⟨b,h2⟩:=a;unfold nE at b;unfold la at h2;lia
mutual
theorem IL:∀(d r:T) (os:List Int),fu d r=O os->tP r->nd d+(if r.aq=98/\d.aq≠98 then 1 else 0)<=pn r
 |.nd k a ks f p,r,os,h,hs=>by
  obtain⟨B,v,b,w,y⟩:=r
  by_cases o:B=98/\k≠98
  ·obtain⟨rfl,z⟩:=o;obtain⟨t,rfl⟩:∃t,b=[some t]:=hs.2.2.2 J;have g:=hs.1.1;rw[yP] at h;have e1:(decide ((T.nd 98 v [O t] w y).aq=98)&&decide (k≠98))=true:=dH z;simp only[e1,if_true] at h;rw[show qA (T.nd 98 v [O t] w y)=t from J] at h;split at h
   ·rename_i c
    obtain⟨E,H,j,K,L⟩:=t
    cases A:gM (decide (k=98)) ks (T.nd E H j K L).bO with
    |none=>rw[A] at h;exact ba h
    |some l=>
     have e2:=c.1;subst e2;rw[aN ⟨J,z⟩];show cV k ks+(if k=27∨k=98 then 1 else 0)+1<=(mE j+if k=27∨k=98 then 1 else 0)+0+1;exact L1<|CI ks k j _ l A g.1 λo m t s=>⟨λe=>g.2.1 e o m t s,λe=>g.2.2.1 e o m t s⟩
   ·exact ba h
  ·rw[wb (by intro e;exact M8 λq=>o ⟨e,q⟩)] at h;split at h
   ·rename_i c
    have e2:=c.1;clear c;subst e2;rw[a9 λe=>e.2 e.1];show cV k ks+(if k=27∨k=98 then 1 else 0)+0<=mE b+if k=27∨k=98 then 1 else 0
    exact L1<|CI ks k b _ os h hs.1 λo m t s=>⟨λe=>hs.2.1 e o m t s,λe=>hs.2.2.1 e o m t s⟩
   ·exact ba h
theorem CI:∀(g:List<|Option T) (p:Int) (rs:List<|Option T) (b:Bool) (os:List Int),gM b g rs=O os->nF rs->(∀o∈rs,∀t,o=O t->IK p t)->cV p g<=mE rs
 |[],p,rs,b,os,h,hs,j=>dG _
 |o::g,p,[],b,os,h,hs,j=>ba h
 |o::g,p,q::rs,b,os,h,hs,j=>by
  rw[yQ] at h;split at h
  ·exact ba h
  ·cases f:i8 o q with
   |none=>rw[f] at h;exact ba h
   |some a=>
    rw[f] at h
    cases m:gM b g rs with
    |none=>rw[m] at h;exact ba h
    |some c=>
     rw[B7] at hs;have z:=CI g p rs b c m hs.2 λo s=>j o<|Ak _ s;rw[B6]
     induction o using gD with
     |none=>exact aE z<|hG _ _
     |some d=>
      induction q using gD with
      |none=>exact ba f
      |some q=>
       replace f:fu d q=O a:=f;have k:=IL d q a f<|hs.1.1;show nd d+(if jh p d=I then 1 else 0)+cV p g<=pn q+mE rs
       by_cases l:jh p d=I
       ·have:=UD l<|j _ (ET ..) q J;rw[aN l]
        by_cases r:q.aq=98
        ·rw[aN ⟨r,this.2⟩] at k;exact L2 z k
        ·exfalso;obtain⟨w,y,v,A,B⟩:=d;rw[wb (λe=>ax e r)] at f;split at f
         ·rename_i c;exact this.1 c.1.symm
         ·exact ba f
       ·rw[a9 l];exact L2 z k
end
noncomputable def qC(w:W):Bool:=decide (w.x=[40])&&(decide (w.k=5)||decide (w.k=2))
noncomputable def dS(b:List W):Nat:=b.countP qC
theorem yW(a c:List W):dS (a++c)=dS a+dS c:=by simp[dS,Ni]
theorem t3(w:W)(c:List W):dS (w::c)=dS c+if qC w then 1 else 0:=by simp[dS,Ai]
theorem im:dS []=0:=rfl
theorem wm(a c:List aj):cl (a++c)=cl a+cl c:=by simp[cl,Ni]
theorem UE:∀{b:List W} {u:List aj} {os:List Int},(∀w∈b,w.k=9->qC w=C)->tk b u os->cl u=dS b:=by
 intro b
 induction b with
 |nil=>
  intro u;intro os;intro l;intro h;rw[(mG h).1];rfl
 |cons w b i=>
  intro u;intro os;intro d;intro h;refine tQ h (λq h=>?_) λn p e m j q h=>?_
  ·rw[i (λw g=>d w<|Ak _ g) h,t3,d w (ET ..) q];simp
  ·rw[yB,t3,i (λw g=>d w<|Ak _ g) h]
   rfl
theorem r6{p:Int}(hp:p≠83/\p≠84/\p≠85):∀ks:List (Option T),cV p ks=cV 71 ks
 |[]=>rfl
 |none::r=>r6 hp r
 |some t::r=>by
  have e1:jh p t=false:=by simp[jh,hp]
  have e2:jh 71 t=false:=by simp[jh]
  show _+(if jh p t=I then 1 else 0)+_=_+(if jh 71 t=I then 1 else 0)+_;rw[e1,e2,r6 hp r]
theorem qD(k:T):cV 71 [O k]=nd k:=rfl
theorem UF(k:T)(r:List<|Option T):cV 71 (O k::r)=nd k+cV 71 r:=rfl
theorem t4(k:Int)(a:List Nat)(ks:List<|Option T)(f p:Int):nd (.nd k a ks f p)=cV k ks+if k=27∨k=98 then 1 else 0:=rfl
noncomputable def UG(c:gw)(ks:List T)(b:List W):Prop:=match c with
 |.u j=>∀k,ks=[k]->dS b=nd k+if gj j k.aq then 1 else 0
 |.nN=>dS b=cV 83 (ks.map O)
 |.ps=>dS b=cV 71 (ks.map O)+1
 |.q=>ks.length<=1/\dS b=cV 71 (ks.map O)
 |_=>dS b=cV 71 (ks.map O)
theorem UH(k:T):jh 83 k=gj C k.aq:=by simp[jh,gj]
theorem UI(k:T):jh 84 k=gj I k.aq:=by simp[jh,gj]
theorem UJ(k:T):jh 85 k=gj I k.aq:=by simp[jh,gj]
section
variable{w:W}{a c:List W}{n x y:Nat}
theorem z0(h:qC w=C)(e:dS a=n):dS (w::a)=n:=by rw[t3,h,e];rfl
theorem z1(h:qC w=I)(e:dS a=n):dS (w::a)=n+1:=by rw[t3,h,e];rfl
theorem zn{x:List Nat}(e:dS a=n):dS (nm x::a)=n:=z0 (by simp[qC,nm]) e
theorem zA(h:dS a=x)(e:dS c=y):dS (a++c)=x+y:=by rw[yW,h,e]
theorem zl(h:dS a=0)(e:dS c=y):dS (a++c)=y:=by rw[yW,h,e,c9]
theorem zr(h:dS a=x)(e:dS c=0):dS (a++c)=x:=by rw[yW,h,e];rfl
theorem ze{x:List Nat}(e:(decide (x=[40]))=C):dS [sg x]=0:=z0 (by show(decide (x=[40])&&_)=C;rw[e];rfl) im
end
theorem CJ{n:W}{w:List W}{fl:Int}(h:n∈dY∨n=wd bH∨n=st bH fO)(b:fT n w fl):dS w=0:=by
 have A:∀n∈dY++[wd bH,st bH fO],qC n=false:=by decide
 have this:=A n<|eT.mpr<|h.imp id λe=>d2.mpr<|e.imp id iv.mpr
 induction b with
 |gh=>exact z0 this im
 |i=>exact z0 this<|z0 J im
 |ro=>exact zn<|z0 J<|z0 this im
 |j=>exact zn<|z0 J<|z0 this<|z0 J im
theorem IM{w:List W}{a:List Nat}{fl:Int}(b:fH w a fl):dS w=0:=by
 induction b with
 |dots h=>exact z0 J<|zn im
 |i h=>exact zn<|z0 J im
 |gh h=>exact zn im
 |this=>exact z0 J im
theorem IN(a:List Nat):dS (d6 a)=0:=by
 unfold d6;split
 ·exact zn<|z0 J<|z0 J im
 ·exact zn im
theorem IP{o:List T}(h:o.length<=1)(r:List<|Option T):cV 27 (o.head? ::r)=cV 71 (o.map O)+cV 71 r:=by
 rw[r6 (D J)]
 match o,h with
 |[],_=>exact(c9 _).symm
 |[t],_=>rfl
section
variable{w:W}{a c:List W}{n x y:Nat}{k i r:T}{f q:Int}{t:List Nat}{ks:List T}{os:List (Option T)}{o:Option T}
theorem nP{p:Int}(h:(decide (p≠83/\p≠84/\p≠85)&&decide (¬(p=27∨p=98)))=I):cV 71 [O (.nd p t os f q)]=cV 71 os:=by
 rw[ol] at h;rw[qD,t4,r6 (D h.1),a9 (D h.2)];rfl
theorem nQ{p:Int}(h:(decide (p≠83/\p≠84/\p≠85)&&decide (p=27∨p=98))=I):cV 71 [O (.nd p t os f q)]=cV 71 os+1:=by
 rw[ol] at h;rw[qD,t4,r6 (D h.1),aN (D h.2)]
theorem nL{p:Int}:cV p []=0:=by simp[cV]
theorem cg{a b c d:Nat}(h:a=b)(e:c=d):a+c=b+d:=by rw[h,e]
theorem n0:cV 71 (U::os)=cV 71 os:=by simp[cV]
theorem nC:cV 71 (O k::os)=cV 71 [O k]+cV 71 os:=by rw[UF,qD]
theorem nH{os:List T}(h:os.length<=1):cV 71 (os.head? ::O k::U::[U])+1=cV 71 (os.map O)+(cV 71 [O k]+1):=by
 rw[<-r6 (p:=27) (D J),IP h,nC,n0,n0,nL];rfl
theorem nR{os:List T}(h:os.length<=1):cV 71 (os.head? ::O k::O r::[U])+1=cV 71 (os.map O)+((cV 71 [O k]+1)+cV 71 [O r]):=by
 rw[<-r6 (p:=27) (D J),IP h,nC,nC (k:=r),n0,nL,Nat.add_zero,ER (cV 71 [O k]) 1];rfl
theorem UK:cV 71 [O (aK 85 [] [k] 0)]=nd k+if gj I k.aq then 1 else 0:=by rw[qD];simp[aK,t4,cV,UJ]
theorem UL:cV 71 [O (aK 84 [] [k,i] 0)]=(nd k+if gj I k.aq then 1 else 0)+(nd i+if gj I i.aq then 1 else 0):=by rw[qD];simp[aK,t4,cV,UI]
theorem CK:cV 83 (O k::os)=(nd k+if gj C k.aq then 1 else 0)+cV 83 os:=by rw[cV,UH]
theorem UM:cV 71 [O (aK 83 [] (k::ks) 0)]=(nd k+if gj C k.aq then 1 else 0)+cV 83 (ks.map O):=by rw[qD,aK,t4,iP,CK];rfl
end
theorem IQ{P:T->Prop}{k:T}(h:True->P k):∀i,[k]=[i]->P i:=λb e=>ada e▸h bk
theorem UN(l:Bool)(w:List W):dS (d9 l w)=dS w:=by
 induction w using aW with
 |nil=>rfl
 |cons x r=>rfl
theorem UO{m i:Nat}{c:gw}{ks:List T}(h:K C m i c ks v):UG c ks v:=by
 induction h with
 |i9 _=>exact(zn im).trans ((nP J).trans nL).symm
 |ae _=>exact(IN _).trans ((nP J).trans nL).symm
 |ja _ _ _ b=>exact(zl (IN _)<|z0 J<|zr b<|ze J).trans (nP J).symm
 |gN _ b=>exact(z1 J<|zr b<|ze J).trans (nQ J).symm
 |jD=>exact(z0 J<|ze J).trans ((nP J).trans nL).symm
 |gk _ _ b=>exact(z0 J<|z0 J<|zr b<|z0 J<|ze J).trans (nP J).symm
 |gi _ b=>exact(zr (b _ J)<|z0 J<|ze J).trans UK.symm
 |aa _ _ b d=>exact(zA (b _ J)<|z0 J<|z0 J<|z0 J<|d _ J).trans UL.symm
 |un _ _ _ b d=>exact(zA (b _ J)<|z0 J<|z0 J<|z0 J d).trans UM.symm
 |fn l _ _ _ g p s=>exact(zl (l.elim (λh=>h.1▸im) λh=>h.1▸z0 J (z0 J im))<|zA g.2<|zA p<|z0 J<|z0 J<|z0 J s).trans<|(nR g.1).symm.trans (nQ J).symm
 | @iD i j k v z _ b=>exact IQ λe=>by rw[z.resolve_left (λe=>bc e)];exact b.trans<|qD k
 | @jb i j k v z _ b=>exact IQ λe=>by rw[z];exact z1 J<|zr (b.trans<|qD k)<|ze J
 |iE _ b=>exact(b _ J).trans (CK.trans<|bJ _ nL).symm
 |h9 _ _ b d=>exact(zA (b _ J)<|z0 J<|z0 J<|z0 J d).trans CK.symm
 |iF _ b=>exact b
 |ia _ _ b d=>exact(zA b<|z0 J<|z0 J d).trans nC.symm
 |i=>exact⟨dG _,im⟩
 |iG _=>exact⟨bF _,(z0 J<|zn<|z0 J<|zn<|ze J).trans ((nP J).trans<|(nP J).trans<|n0.trans<|n0.trans nL).symm⟩
 |ib _ _ b=>exact⟨bF _,(z0 J<|zn<|z0 J<|z0 J<|z0 J<|zr b<|ze J).trans ((nP J).trans<|(nP J).trans<|nC.trans<|bJ _<|n0.trans nL).symm⟩
 |ic _ _ b=>exact⟨bF _,(z0 J<|z0 J<|z0 J<|zn<|z0 J<|z0 J<|z0 J<|z0 J<|zn<|z0 J<|zn<|z0 J<|z0 J<|z0 J<|zn<|z0 J<|z0 J<|z0 J<|zr b<|ze J).trans ((nP J).trans (nC.trans ((cg ((nP J).trans<|n0.trans<|n0.trans nL) ((nP J).trans (nC.trans (bJ (·+_)<|(nP J).trans nL)))).trans<|(c9 _).trans<|c9 _))).symm⟩
 |jE l=>exact(IM l).trans ((nP J).trans<|nC.trans<|cg ((nP J).trans nL)<|n0.trans<|n0.trans nL).symm
 |jc l _ b=>exact(zl (IM l)<|z0 J<|z0 J b).trans ((nP J).trans<|nC.trans<|(cg ((nP J).trans nL)<|nC.trans<|bJ _<|n0.trans nL).trans<|c9 _).symm
 |j=>exact im
 |jd _ _ _ b=>exact b
 |iH _ _ _ _ _ b d=>exact(zA b<|z0 J<|z0 J d).trans nC.symm
 |ps _ _ b=>exact(z1 J<|zr b<|ze J).trans (bJ (·+1) (nP J).symm)
 |ef _ b=>exact b
 |je _ b=>exact(zn<|z0 J<|zn<|z0 J b).trans (nP J).symm
 |q=>exact(zn<|z0 J<|zn im).trans ((nP J).trans<|n0.trans nL).symm
 |jf _ b=>exact(zn<|z0 J<|z0 J<|z0 J<|zn<|z0 J b).trans (nP J).symm
 |jg _ b=>exact(zn<|z0 J<|zn<|z0 J b).trans (nP J).symm
 |ie _ _ g p=>exact(zA g.2 p).trans<|(nH g.1).symm.trans (nQ J).symm
 |g3 _ _ _ g p s=>exact(zA g.2<|zA p<|z0 J<|z0 J s).trans<|(nR g.1).symm.trans (nQ J).symm
 |iI u l=>exact(CJ (g5 u) l).trans ((nP J).trans<|n0.trans nL).symm
 |ig u l _ b=>exact(zl (CJ (g5 u) l)<|z0 J<|z0 J b).trans (nP J).symm
 |g4 u l _ _ b=>exact zl (CJ (nT u) l) b
 |ii _ b=>exact b
 |ij _ b=>exact z0 J<|z0 J b
 |ik l A _ b=>exact(zl (l.elim (λh=>h.1▸im) λh=>h.1▸zn (z0 J im))<|z0 J<|zn<|z0 J<|z0 J<|zn<|z0 J<|z0 J<|z0 J b).trans ((nP J).trans (nC.trans ((bJ (·+_)<|(nP J).trans nL).trans<|c9 _))).symm
 |ms1 _ b=>exact b
 |gB _ _ _ b d=>exact(zA b<|z0 J<|z0 J d).trans nC.symm
 |iJ _ _ _ b d=>exact(zA b<|z0 J<|z0 J d).trans nC.symm
 |iK _ _ _ _ b d=>exact(zA b<|z0 J<|(UN _ _).trans d).trans nC.symm
theorem fw{c:gw}(h:K C m i c ks o):K I m i c ks o:=by
 induction h with
 |i9 a=>exact .i9 a
 |ae a=>exact .ae a
 |ja a _ d b=>exact .ja a b d
 |gN _ b=>exact .gN b
 |jD=>exact .jD
 |gk _ n b=>exact .gk b n
 |gi _ b=>exact .gi b
 |aa _ _ b f=>exact .aa b f
 |un _ _ d b f=>exact .un b f d
 |fn d _ _ _ g k l=>exact .fn d g k l
 |iD _ _ b=>exact .iD (.inl J) b
 |jb d _ b=>exact .jb d b
 |iE _ b=>exact .iE b
 |h9 _ _ b f=>exact .h9 b f
 |iF _ b=>exact .iF b
 |ia _ _ b f=>exact .ia b f
 |i=>exact .i
 |iG a=>exact .iG a
 |ib a _ b=>exact .ib a b
 |ic a _ b=>exact .ic a b
 |jE a=>exact .jE a
 |jc a _ b=>exact .jc a b
 |j=>exact .j
 |jd _ a d b=>exact .jd b a d
 |iH _ a d e _ b f=>exact .iH b a d e f
 |ps _ n b=>exact .ps b n
 |ef _ b=>exact .ef b
 |je _ b=>exact .je b
 |q=>exact .q
 |jf _ b=>exact .jf b
 |jg _ b=>exact .jg b
 |ie _ _ b f=>exact .ie b f
 |g3 _ _ _ g k l=>exact .g3 g k l
 |iI a d=>exact .iI a d
 |ig a d _ b=>exact .ig a d b
 |g4 a d e _ b=>exact .g4 a d e b
 |ii _ b=>exact .ii b
 |ij _ b=>exact .ij b
 |ik a d _ b=>exact .ik a d b
 |ms1 _ b=>exact .ms1 b
 |gB a _ _ b f=>exact .gB a b f
 |iJ a _ _ b f=>exact .iJ a b f
 |iK a _ _ d b f=>exact .iK a b f d
noncomputable def dw(w:W):Int:=if w.k=5/\w.x=[40] then 1 else if w.k=5/\w.x=[41] then-1 else 0
noncomputable def lR:List W->Int
 |[]=>0
 |w::r=>dw w+lR r
theorem t5(a c:List W):lR (a++c)=lR a+lR c:=by
 induction a with
 |nil=>exact(adb _).symm
 |cons w a b=>exact(bJ (dw w+·) b).trans (Nk _ _ _).symm
theorem nU{w:W}{a:List W}:lR (w::a)=dw w+lR a:=rfl
theorem yX{B:Nat}:0<=lR []/\lR []<=B:=⟨Nm 0,qa _⟩
structure cY(B:Nat)(ws:List W):Prop where
 z:lR ws=0
 p:∀a c,ws=a++c->0<=lR a/\lR a<=B
section
variable{B:Nat}{a c:List W}{w:W}
theorem cY.nil:cY B []:=⟨J,λa c h=>by
 have:a=[]:=by induction a using aW with|nil=>rfl|cons=>exact nomatch h
 clear h;subst this;exact yX⟩
theorem cY.au(h:cY B a)(e:B<=b):cY b a:=⟨h.z,λx y q=>by have:=h.p x y q;lia⟩
theorem cY.j(h:cY B a)(b:cY B c):cY B (a++c):=by
 refine⟨by rw[t5,h.z,b.z];rfl,λx y q=>?_⟩
 rcases EU.mp q with⟨z,e1,e2⟩|⟨z,e1,e2⟩
 ·clear q;subst e1;have:=b.p z y e2;rw[t5,h.z];lia
 ·exact h.p x z e1
theorem cY.cons(b:dw w=0)(h:cY B c):cY B (w::c):=by
 refine⟨by rw[nU,b,h.z];rfl,λx y q=>?_⟩
 induction x using aW with
 |nil=>exact yX
 |cons z x=>cases q;have:=h.p x y J;rw[nU,b];lia
theorem cY.gN(b:dw l=1)(hr:dw r= -1)(h:cY B a):cY (B+1) (l::(a++[r])):=by
 refine⟨by rw[nU,t5,b,h.z,nU,hr];rfl,λx y q=>?_⟩
 induction x using aW with
 |nil=>exact yX
 |cons z x=>
  injection q with f d
  subst f;rw[nU,b]
  rcases EU.mp d with⟨v,e1,e2⟩|⟨v,e1,e2⟩
  ·clear d;subst e1;rw[t5,h.z]
   induction v using aW with
   |nil=>show 0<=(1:Int)+0/\(1:Int)+0<=_;lia
   |cons t v=>
    injection e2 with e2 e
    have:=(xz.mp e.symm).1;clear e;subst this;subst e2;rw[nU,hr];show 0<=(1:Int)+(-1+0)/\(1:Int)+(-1+0)<=_;lia
  ·have:=h.p x v e1;lia
end
theorem CL{w:List W}{fl:Int}(h:n∈dY∨n=wd bH∨n=st bH fO)(b:fT n w fl):cY 0 w:=by
 have:dw n=0:=by
  simp only[dY,d2,List.mem_nil_iff,or_false] at h
  rcases h with(rfl|rfl|rfl|rfl|rfl|rfl|rfl|rfl|rfl|rfl|rfl|rfl|rfl|rfl|rfl)|rfl|rfl<;>rfl
 induction b
 ·exact cY.nil.cons this
 ·exact(cY.nil.cons rfl).cons this
 ·exact((cY.nil.cons this).cons J).cons J
 ·exact(((cY.nil.cons J).cons this).cons J).cons J
theorem pL(x:List Nat):dw (nm x)=0:=by simp[dw,nm]
theorem IS{w:List W}{a:List Nat}{fl:Int}(b:fH w a fl):cY 0 w:=by
 induction b
 ·exact(cY.nil.cons<|pL _).cons J
 ·exact(cY.nil.cons J).cons<|pL _
 ·exact cY.nil.cons<|pL _
 ·exact cY.nil.cons J
theorem IT(a:List Nat):cY 0 (d6 a):=by
 unfold d6;split
 ·exact((cY.nil.cons J).cons J).cons J
 ·exact cY.nil.cons<|pL _
noncomputable def IU(i:Nat):gw->Nat
 |.kd|.nM|.q|.pm|.y _ _|.am=>3*i
 |_=>3*i+1
theorem b2:3*i+2<=3*(i+1):=et _
theorem b1:3*i+1<=3*(i+1):=aE (et _) b2
theorem b0:3*i<=3*(i+1):=aE (et _) b1
theorem IV{c:gw}(h:K b m i c ks z):cY (IU i c) z:=by
 induction h with
 |i9 a=>exact cY.nil.cons<|pL _
 |ae a=>exact(IT _).au<|by simp+arith only
 |ja a _ d f=>exact((IT _).au<|by simp+arith only).j<|((f.au<|by first|exact b2|exact b1|exact b0).j<|cY.nil.cons J).cons J
 |gN _ f=>exact(f.gN J J).au<|by first|exact b2|exact b1|exact b0
 |jD=>exact(cY.nil.cons J).cons J
 |gk _ _ f=>exact(((f.au<|by first|exact b2|exact b1|exact b0).j<|(cY.nil.cons J).cons J).cons J).cons J
 |gi _ f=>exact(f.au<|by first|exact b2|exact b1|exact b0).j<|(cY.nil.cons J).cons J
 |aa _ _ f g=>exact(f.au<|by first|exact b2|exact b1|exact b0).j<|(((g.au<|by first|exact b2|exact b1|exact b0).cons J).cons J).cons J
 |un _ _ d f g=>exact(f.au<|by first|exact b2|exact b1|exact b0).j<|(((g.au<|by first|exact b2|exact b1|exact b0).cons J).cons J).cons J
 | @fn i w fl o p r z E A d _ _ _ s t u=>
  have v:cY 0 w:=by
   rcases d with⟨rfl,_⟩|⟨rfl,_⟩
   ·exact .nil
   ·exact(cY.nil.cons rfl).cons rfl
  exact(v.au<|by simp+arith only).j<|(s.au<|by first|exact b2|exact b1|exact b0).j<|(t.au<|by first|exact b2|exact b1|exact b0).j<|(((u.au<|by first|exact b2|exact b1|exact b0).cons J).cons J).cons J
 |iD _ _ f=>exact f.au<|by first|exact b2|exact b1|exact b0|exact et _|exact bF _
 |jb d _ f=>exact f.gN J J
 |iE _ f=>exact f
 |h9 _ _ f g=>exact f.j<|((g.cons J).cons J).cons J
 |iF _ f=>exact f
 |ia _ _ f g=>exact f.j<|(g.cons J).cons J
 |i=>exact .nil
 |iG a=>exact((((cY.nil.cons J).cons<|pL _).cons J).cons J).cons J
 |ib a _ f=>exact(((((f.j<|cY.nil.cons J).cons J).cons J).cons J).cons<|pL _).cons J
 |ic a _ f=>exact((((((((((((((((((f.j<|cY.nil.cons J).cons J).cons J).cons J).cons J).cons J).cons J).cons J).cons J).cons J).cons J).cons J).cons J).cons J).cons J).cons<|pL _).cons J).cons J).cons J
 |jE a=>exact(IS a).au<|by simp+arith only
 |jc a _ f=>exact((IS a).au<|by simp+arith only).j<|(f.cons J).cons J
 |j=>exact .nil
 |jd _ a d f=>exact f
 |iH _ a d e _ f g=>exact f.j<|(g.cons J).cons J
 |ps _ _ f=>exact f.gN J J
 |ef _ f=>exact f
 |je _ f=>exact(((f.cons J).cons J).cons J).cons J
 |q=>exact((cY.nil.cons J).cons J).cons J
 |jf _ f=>exact(((((f.cons J).cons J).cons J).cons J).cons J).cons J
 |jg _ f=>exact(((f.cons J).cons J).cons J).cons J
 |ie _ _ f g=>exact(f.au<|by first|exact b2|exact b1|exact b0|exact et _|exact bF _).j g
 |g3 _ _ _ s t u=>exact(s.au<|by first|exact b2|exact b1|exact b0|exact et _|exact bF _).j<|t.j<|((u.au<|by first|exact b2|exact b1|exact b0|exact et _|exact bF _).cons J).cons J
 |iI a d=>exact(CL (g5 a) d).au<|by simp+arith only
 |ig a d _ f=>exact((CL (g5 a) d).au<|by simp+arith only).j<|((f.au<|by first|exact b2|exact b1|exact b0|exact et _|exact bF _).cons J).cons J
 |g4 a d e _ f=>exact((CL (nT a) d).au<|by simp+arith only).j f
 |ii _ f=>exact f
 |ij _ f=>exact(f.cons J).cons J
 | @ik i w fl a k z v d _ f=>
  have v:cY 0 w:=by
   rcases v with⟨rfl,_⟩|⟨rfl,_⟩
   ·exact .nil
   ·exact(cY.nil.cons rfl).cons rfl
  exact(v.au<|by simp+arith only).j<|(((((((f.au<|by first|exact b2|exact b1|exact b0|exact et _|exact bF _).cons J).cons J).cons J).cons J).cons J).cons J).cons (pL _)|>.cons J
 |ms1 _ f=>exact f
 |gB a _ _ f g=>exact f.j<|(g.cons J).cons J
 |iJ a _ _ f g=>exact f.j<|(g.cons J).cons J
 |iK a _ _ d f g=>
  refine f.j<|cY.cons J ?_;have e:∀l w B,cY B w->cY B (d9 l w):=λl w B h=>by
   induction w using aW with
   |nil=>exact h
   |cons x r=>
    refine⟨h.z,λp q e=>?_⟩
    induction p using aW with
    |nil=>exact yX
    |cons y p=>cases e;exact h.p (x::p) q J
  exact e _ _ _ g
noncomputable def g6(R:List W->Prop)(b:List W):Prop:=∀a w c,w.o=I->b=a++w::c->w=pt/\∃e d,c=e++sg [41]::d/\cY 100 e/\R (a++(e++d))
section
variable{R:List W->Prop}{a c:List W}{w:W}
theorem g6.au{b:List W->Prop}(h:g6 R a)(hr:∀x,R x->b x):g6 b a:=λx w y d e=>by
 obtain⟨f,p,q,e1,e2,r⟩:=h x w y d e;exact⟨f,p,q,e1,e2,hr _ r⟩
theorem g6.nil:g6 R []:=λa w c b e=>by cases a<;>exact nomatch e
theorem g6.cons(b:w.o=C)(h:g6 (λx=>R<|w::x) c):g6 R (w::c):=λx t y d e=>by
 induction x using aW with
 |nil=>cases e;rw[b] at d;exact bc d
 |cons z x=>
  refine dn λf=>?_
  cases e
  obtain⟨b,p,q,e1,e2,r⟩:=h x t y d J;exact f<|⟨b,p,q,e1,e2,r⟩
theorem g6.j(h:g6 (λx=>R<|x++c) a)(j:g6 (λx=>R<|a++x) c):g6 R (a++c):=λx t y i e=>by
 rcases EU.mp e with⟨z,e1,e2⟩|⟨z,e1,e2⟩
 ·refine dn λb=>?_;subst e1;obtain⟨d,p,q,f,g,r⟩:=j z t y i e2;exact b<|⟨d,p,q,f,g,by simpa [b6] using r⟩
 ·clear e
  induction z using aW with
  |nil=>
   rw[cM] at e1;refine dn λb=>?_;subst e1;obtain⟨d,p,q,f,g,r⟩:=j [] t y i e2.symm;exact b<|⟨d,p,q,f,g,by simpa [b6] using r⟩
  |cons l z=>
   injection e2 with e2 f
   refine dn λb=>?_;subst e2;obtain⟨d,p,q,g,k,r⟩:=h x t z i e1;subst f;exact b<|⟨d,p,q++c,by rw[g];simp,k,by simpa [b6] using r⟩
theorem g6.i(h:∀w∈a,w.o=C):g6 R a:=λx t y b e=>by
 have:=h t (by rw[e];simp);rw[b] at this;exact c5 this
theorem g6.kD(hb:cY 100 a)(b:R a)(h:g6 (λx=>R<|pt::(x++[sg [41]])) a):g6 R (pt::(a++[sg [41]])):=λx t y d e=>by
 induction x using aW with
 |nil=>
  injection e with e1 e2
  exact⟨e1.symm,a,[],e2.symm,hb,by simpa using b⟩
 |cons z x=>
  injection e with e1 e2
  subst e1;have:=g6.j (R:=λx=>R<|pt::x) h<|.i<|by simp[sg]
  exact this x t y d e2
end
theorem CM{w:List W}{fl:Int}(h:n∈dY∨n=wd bH∨n=st bH fO)(b:fT n w fl):∀x∈w,x.o=false:=by
 have:=(CD h).2.2.1
 induction b<;>simp[this,sg,nm,sp]
theorem IW{w:List W}{a:List Nat}{fl:Int}(b:fH w a fl):∀x∈w,x.o=false:=by
 induction b<;>simp[sg,nm,wd]
theorem IX(a:List Nat):∀x∈d6 a,x.o=false:=by
 unfold d6;split<;>simp[sg,nm,wd]
theorem UQ{c:gw}(b:i<=30):IU i c<=100:=by
 have h:3*i+1<=100:=L3 b b b
 induction c using gw.casesOn<;>first|exact h|exact iw h
theorem UR{c:gw}(h:K C 0 i c ks u):i<=30->g6 (K I 0 i c ks) u:=by
 induction h with
 |i9 a=>exactλg=>.i<|by simp[nm]
 |ae a=>exactλg=>.i<|IX _
 |ja a k d f=>exactλb=>.j (.i<|IX _)<|.cons J<|.j ((f<|L1 b).au λg h=>.ja a h d)<|.i<|D J
 |gN k f=>exactλb=>.cons J<|.j ((f<|L1 b).au λg h=>.gN h)<|.i<|D J
 |jD=>exactλb=>.i<|D J
 |gk k n f=>exactλb=>.cons J<|.cons J<|.j ((f<|L1 b).au λg h=>.gk h n)<|.i<|D J
 |gi k f=>exactλb=>.j ((f<|L1 b).au λg h=>.gi h)<|.i<|D J
 |aa k m f l=>exactλb=>.j ((f<|L1 b).au λg h=>.aa h<|fw m)<|.cons J<|.cons J<|.cons J<|(l<|L1 b).au λg h=>.aa (fw k) h
 |un k m d f l=>exactλb=>.j ((f<|L1 b).au λg h=>.un h (fw m) d)<|.cons J<|.cons J<|.cons J<|(l<|L1 b).au λg h=>.un (fw k) h d
 |fn d k1 s t o p r=>
  refineλb=>.j (.i ?_)<|.j ((o<|L1 b).au λg h=>.fn d h (fw s)<|fw t)<|.j ((p<|L1 b).au λg h=>.fn d (fw k1) h<|fw t)<|.cons J<|.cons J<|.cons J<|(r<|L1 b).au λg h=>.fn d (fw k1) (fw s) h
  rcases d with⟨rfl,_⟩|⟨rfl,_⟩<;>decide
 |iD _ _ f=>exactλb=>(f b).au λg h=>.iD (.inl J) h
 |jb d k f=>exactλb=>.kD ((IV k).au<|UQ b) (.iD (.inl J)<|fw k) ((f b).au λg h=>.jb d h)
 |iE _ f=>exactλb=>(f b).au λg h=>.iE h
 |h9 k m f l=>exactλb=>.j ((f b).au λg h=>.h9 h<|fw m)<|.cons J<|.cons J<|.cons J<|(l b).au λg h=>.h9 (fw k) h
 |iF _ f=>exactλb=>(f b).au λg h=>.iF h
 |ia k m f l=>exactλb=>.j ((f b).au λg h=>.ia h<|fw m)<|.cons J<|.cons J<|(l b).au λg h=>.ia (fw k) h
 |i=>exactλg=>.nil
 |iG a=>exactλg=>.i<|by simp[nm,sg,sp]
 |ib a _ f=>exactλb=>.cons J<|.cons J<|.cons J<|.cons J<|.cons J<|.j ((f b).au λg h=>.ib a h)<|.i<|D J
 |ic a _ f=>exactλb=>.cons J<|.cons J<|.cons J<|.cons J<|.cons J<|.cons J<|.cons J<|.cons J<|.cons J<|.cons J<|.cons J<|.cons J<|.cons J<|.cons J<|.cons J<|.cons J<|.cons J<|.cons J<|.j ((f b).au λg h=>.ic a h)<|.i<|D J
 |jE a=>exactλg=>.i<|IW a
 |jc a _ f=>exactλb=>.j (.i<|IW a)<|.cons J<|.cons J<|(f b).au λg h=>.jc a h
 |j=>exactλg=>.nil
 |jd _ a d f=>exactλb=>(f b).au λg h=>.jd h a d
 |iH k a d e m f l=>exactλb=>.j ((f b).au λg h=>.iH h a d e<|fw m)<|.cons J<|.cons J<|(l b).au λg h=>.iH (fw k) a d e h
 |ps _ n f=>exactλb=>.cons J<|.j ((f b).au λg h=>.ps h n)<|.i<|D J
 |ef _ f=>exactλb=>(f b).au λg h=>.ef h
 |je _ f=>exactλb=>.cons J<|.cons J<|.cons J<|.cons J<|(f b).au λg h=>.je h
 |q=>exactλb=>.i<|D J
 |jf _ f=>exactλb=>.cons J<|.cons J<|.cons J<|.cons J<|.cons J<|.cons J<|(f b).au λg h=>.jf h
 |jg _ f=>exactλb=>.cons J<|.cons J<|.cons J<|.cons J<|(f b).au λg h=>.jg h
 |ie k m f l=>exactλb=>.j ((f b).au λg h=>.ie h<|fw m) ((l b).au λg h=>.ie (fw k) h)
 |g3 k1 s t o p r=>exactλb=>.j ((o b).au λg h=>.g3 h (fw s)<|fw t)<|.j ((p b).au λg h=>.g3 (fw k1) h<|fw t)<|.cons J<|.cons J<|(r b).au λg h=>.g3 (fw k1) (fw s) h
 |iI a d=>exactλg=>.i<|CM (g5 a) d
 |ig a d _ f=>exactλb=>.j (.i<|CM (g5 a) d)<|.cons J<|.cons J<|(f b).au λg h=>.ig a d h
 |g4 a d e _ f=>exactλb=>.j (.i<|CM (nT a) d) ((f b).au λg h=>.g4 a d e h)
 |ii _ f=>exactλb=>(f b).au λg h=>.ii h
 |ij _ f=>exactλb=>.cons J<|.cons J<|(f b).au λg h=>.ij h
 |ik a d _ f=>
  refineλb=>.j (.i ?_)<|.cons J<|.cons J<|.cons J<|.cons J<|.cons J<|.cons J<|.cons J<|.cons J<|(f b).au λg h=>.ik a d h
  rcases a with⟨rfl,_⟩|⟨rfl,_⟩<;>decide
 |ms1 _ f=>exactλb=>(f b).au λg h=>.ms1 h
 |gB a k m f l=>exactλb=>.j ((f b).au λg h=>.gB a h<|fw m)<|.cons J<|.cons J<|(l b).au λg h=>.gB a (fw k) h
 |iJ a=>exact ax a<|D J
 |iK a=>exact ax a<|D J
noncomputable def wo(a:Int):Int->List aj->List aj
 |_,[]=>[]
 |d,t::r=>
  let b:=if t.is 5 [41] then d-1 else d
  if t.is 5 [41]=I/\b=0 then wo a 99 r
  else if t.aJ=a then wo a 1 r
  else t::wo a (if b>0/\t.is 5 [40]=I then b+1 else b) r
noncomputable def dt(t:aj):Int:=if t.is 5 [40] then 1 else if t.is 5 [41] then-1 else 0
noncomputable def kH:List aj->Int
 |[]=>0
 |t::r=>dt t+kH r
theorem US{p d:Int}:wo p d []=[]:=rfl
theorem wn{p d:Int}{t:aj}{r:List aj}:wo p d (t::r)=if t.is 5 [41]=I/\(if t.is 5 [41]=I then d-1 else d)=0 then wo p 99 r else if t.aJ=p then wo p 1 r else t::wo p (if(if t.is 5 [41]=I then d-1 else d)>0/\t.is 5 [40]=I then(if t.is 5 [41]=I then d-1 else d)+1 else(if t.is 5 [41]=I then d-1 else d)) r:=rfl
theorem CN{r:List aj}:kH (t::r)=dt t+kH r:=rfl
theorem IY{t:aj}(h:t.is 5 [40]=I):t.is 5 [41]=false:=by
 refine dn λa=>?_;obtain⟨b,h2⟩:=pq h;refine a ?_;simp[aj.is,b,h2]
section
variable{p:Int}{r:List aj}
theorem UT:∀(v:List aj) (d:Int),d<=0->(∀t∈v,t.aJ≠p)->∃b,b<=0/\wo p d (v++r)=v++wo p b r:=by
 intro v
 induction v with
 |nil=>
  intro d h j;exact aD d h J
 |cons t v f=>
  intro d h c;have ht:=c t<|ET ..;rw[kR,wn];have hd:(if t.is 5 [41]=I then d-1 else d)<=0:=by split<;>lia
  rw[a9 (by intro⟨a,e⟩;rw[aN a] at e;lia),a9 ht,a9 (by intro⟨a,_⟩;lia)];exact dn λg=>aB (f _ hd λt ht=>c t<|Ak _ ht) λb i e=>g<|aD b i (by rw[e];rfl)
theorem IZ:∀(v:List aj) (d:Int),(∀a c,v=a++c->1<=d+kH a)->(∀t∈v,t.aJ≠p)->wo p d (v++r)=v++wo p (d+kH v) r:=by
 intro v
 induction v with
 |nil=>
  intro d g g;rw[Nn d];rfl
 |cons t v i=>
  intro d hd f;have ht:=f t<|ET ..;have j:=Nn d▸hd [] (t::v) J;have b:1<=d+dt t:=Nn (dt t)▸hd [t] v J;rw[kR,wn];have e:(if(if t.is 5 [41]=I then d-1 else d)>0/\t.is 5 [40]=I then(if t.is 5 [41]=I then d-1 else d)+1 else(if t.is 5 [41]=I then d-1 else d))=d+dt t:=by
   unfold dt at b⊢
   by_cases a:t.is 5 [40]=I
   ·have:=IY a;simp only[a,this,if_true,mX,if_false,and_true];rw[aN (by lia)]
   ·by_cases c:t.is 5 [41]=I
    ·simp only[a,c,if_true,mX,if_false,and_false];lia
    ·simp only[a,c,mX,if_false,and_false];lia
  have e2:¬(t.is 5 [41]=I/\(if t.is 5 [41]=I then d-1 else d)=0):=by
   intro⟨a,q⟩;rw[aN a] at q;have:t.is 5 [40]=false:=by
    cases h:t.is 5 [40] with
    |false=>rfl
    |true=>rw[IY h] at a;exact bc a
   unfold dt at b;rw[this,a] at b;simp at b;lia
  rw[a9 e2,a9 ht,e];rw[i (d+dt t) (λa c q=>by have:=hd (t::a) c (by rw[q];rfl);rw[CN] at this;lia) (λt ht=>f t<|Ak _ ht)];rw[CN,kR,Nk]
end
theorem UU(a c:List aj):kH (a++c)=kH a+kH c:=by
 induction a with
 |nil=>exact(adb _).symm
 |cons w a b=>exact(bJ (dt w+·) b).trans (Nk _ _ _).symm
theorem UV{n p e n' p' e':Int}(d:∀t∈ua,t.aJ≠p)(h2:∀t∈b,t.aJ≠p)(f:∀t∈ud,t.aJ≠p)(b2:kH b=0/\∀a c,b=a++c->0<=kH a)(g:∀a c,ud=a++c-> -98<=kH a):
  wo p 0 (ua++⟨5,[40],n,p,e,C⟩::(b++⟨5,[41],n',p',e',C⟩::ud))=ua++(b++ud):=by
 refine dn λh=>aB (UT (r:=⟨5,[40],n,p,e,C⟩::(b++⟨5,[41],n',p',e',C⟩::ud)) ua 0 (by lia) d) λj i e1=>h ?_;rw[e1]
 congr 1
 rw[wn];have k:(aj.mk 5 [41] n' p' e' C).is 5 [41]=true:=J;rw[IZ b 1 (λa c q=>by have:=b2.2 a c q;lia) h2,b2.1]
 congr 1
 rw[wn];rw[aN J,aN ⟨J,by lia⟩];have:=IZ (r:=[]) ud 99 (λa c q=>by have:=g a c q;lia) f;rw[cM] at this;rw[this];exact bJ (b++·)<|cM ud
theorem CO:∀{a:List W} {u:List aj} {os:List Int},tk a u os->kH u=lR a:=by
 intro a
 induction a with
 |nil=>
  intro u;intro os;intro h;rw[(mG h).1];rfl
 |cons w a b=>
  intro u;intro os;intro h;refine tQ h (λq h=>?_) λn p e d c q h=>?_
  ·rw[b h,nU];have:dw w=0:=by unfold dw;rw[a9 (by lia),a9 (by lia)]
   lia
  ·rw[CN,nU,b h];have:dt ⟨w.k,w.x,n,p,e,w.l⟩=dw w:=by simp[dt,dw,t0]
   rw[this]
inductive UW(ws:List W)(a c:List aj):Prop
 |mk (wa wc:List W) (o1 o2:List Int) (e:ws=wa++wc) (h1:tk wa a o1) (h2:tk wc c o2)
theorem I0{os:List Int}(h:tk b (a++c) os):UW b a c:=by
 induction b generalizing a os with
 |nil=>
  have:=xz.mp (mG h).1;rw[this.1] at h⊢;exact⟨[],[],[],os,J,⟨J,J⟩,h⟩
 |cons w b j=>
  induction a using aW with
  |nil=>exact⟨[],w::b,[],os,J,⟨J,J⟩,h⟩
  |cons t a=>
   by_cases q:w.k=9
   ·rw[pu q] at h;obtain⟨d,f,o1,g,rfl,i,h2⟩:=j h;exact⟨w::d,f,o1,g,J,by rw[pu q];exact i,h2⟩
   ·rw[mF q] at h;refine lB h λn p e l k e1 m h=>?_
    cases e1
    obtain⟨d,f,o1,g,rfl,i,h2⟩:=j h;exact⟨w::d,f,_,g,J,yF q i,h2⟩
theorem yY(h:tk a f g)(k:tk c i d):tk (a++c) (f++i) (g++d):=by
 induction a generalizing f g with
 |nil=>rw[h.1,h.2];exact k
 |cons w a j=>
  refine tQ h (λq h=>?_) λn p e l b q h=>?_
  ·rw[pu q];exact j h
  ·rw[show(if w.o then p::b else b)++d=if w.o then p::(b++d) else b++d by cases w.o<;>rfl];exact yF q<|j h
inductive UX(ws:List W)(u:List aj)(p:Int):Prop
 |mk (a:List W) (w:W) (c:List W) (ua uc:List aj) (oa oc:List Int) (n e:Int) (ho:w.o=true) (ew:ws=a++w::c) (eu:u=ua++⟨w.k,w.x,n,p,e,w.l⟩::uc) (h1:tk a ua oa) (h2:tk c uc oc)
theorem I1{os:List Int}{p:Int}(h:tk d u os)(hp:p∈os):UX d u p:=by
 induction d generalizing u os with
 |nil=>rw[(mG h).2] at hp;cases hp
 |cons w d t=>
  by_cases q:w.k=9
  ·rw[pu q] at h;have:=t h hp;obtain⟨a,f,c,i,j,v,k,n,e,b,l,m,o,h2⟩:=this;exact⟨w::a,f,c,i,j,v,k,n,e,b,by rw[l];rfl,m,by rw[pu q];exact o,h2⟩
  ·rw[mF q] at h;refine lB h ?_;clear h;rintro n x e y s rfl rfl h
   by_cases g:w.o=I/\p=x
   ·obtain⟨b,rfl⟩:=g;exact⟨[],w,d,[],y,[],s,n,e,b,J,J,⟨J,J⟩,h⟩
   ·have:=t h (by
     by_cases b:w.o=I
     ·rw[aN b] at hp;exact(d2.mp hp).resolve_left λe=>g ⟨b,e⟩
     ·rwa [a9 b] at hp)
    obtain⟨a,f,c,i,j,v,k,z,A,b,l,m,o,h2⟩:=this;exact⟨w::a,f,c,_::i,j,_,k,z,A,b,by rw[l];rfl,by rw[m];rfl,yF q o,h2⟩
noncomputable def gC(a:List W):List W:=sg [123]::sp::(a++[sp,sg [125]])
theorem UY{u:List aj}{os:List Int}{p:Int}{e:aj}(Y:i<=2)(h:K C 0 i .j ks s)(V:tk (gC s) u os)(hp:p∈os)(hd:(u.map aj.aJ).Nodup)(Z:e.aJ≠p)(G:e.aq=0):
  ∃b l H,wo p 0 (u++[e])=l++[e]/\K I 0 i .j ks b/\tk (gC b) l H/\cl l+1=cl u/\l.length<=u.length/\cb l=cb u:=by
 have hb:cY (3*i+1) (gC s):=cY.cons J<|cY.cons J<|(IV h).j<|.cons J<|.cons J .nil;refine dn λf=>?_;obtain⟨a,w,c,k,uc,oa,oc,n,en,ho,L,rfl,h1,h2⟩:=I1 V hp;clear V;obtain⟨rfl,x,d,rfl,M,b,N,hk⟩:=(.cons J (.cons J<|.j ((UR h<|L1 Y).au λx h=>aD x J h)<|.i<|by simp[sg,sp]):g6 (λx=>∃b,x=gC b/\K I 0 i .j ks b)<|gC s) a w c ho L;obtain⟨m,u3,ox,o3,rfl,rfl,A,h4⟩:=vM h2;replace h4:=Ce h4;clear h2;refine u7 h4 ?_;clear h4;rintro B E F g rfl h4;refine f ?_;have gZ:∀q,q∈k++(m++g)->q.aJ≠p:=by
  intro q hq o;rw[dz,iP,mY] at hd;refine dn λf=>ly hd λd1 X d3=>f ?_;rw[iQ] at X;simp only[eT] at hq;have:q∈k∨q∈m++(⟨5,[41],B,E,F,C⟩::g):=by
   rcases hq with hq|hq|hq
   ·exact .inl hq
   ·exact .inr<|by simp[hq]
   ·exact .inr<|by simp[hq]
  rcases this with hq|hq
  ·exact d3 q.aJ (om hq) p (by simp[pt]) o
  ·exact X.1<|eh.mpr<|aD q hq o
 have z:=UV (ua:=k) (ud:=g++[e]) (n:=n) (e:=en) (n':=B) (p':=E) (e':=F)
  (λt ht=>gZ t<|by simp[ht]) (λt ht=>gZ t<|by simp[ht])
  (λt ht=>by rcases eT.mp ht with ht|ht;exact gZ t (by simp[ht]);rw[iv.mp ht];exact Z)
  ⟨(CO A).trans M.z,λy z q=>by
   rw[q] at A;refine dn λf=>?_;obtain⟨P,Q,o1,o2,R,S,_⟩:=I0 A;refine f ?_;rw[CO S];exact(M.p P Q R).1⟩
  (λy z q=>by
   have j:∀y z,g=y++z-> -98<=kH y:=by
    intro y z q;rw[q] at h4;refine dn λf=>?_;obtain⟨P,Q,o1,o2,R,S,_⟩:=I0 h4;refine f ?_;rw[CO S];have b1:=hb.p a _ L;have b2:=hb.p (a++(pt::(x++(sg [41]::P)))) Q (by rw[L,R];simp);rw[t5,nU,t5,nU,M.z] at b2;have c1:dw pt=1:=J;have c2:dw (sg [41])= -1:=J;rw[c1,c2] at b2;lia
   rcases EU.mp q with⟨v,e1,e2⟩|⟨v,e1,e2⟩
   ·induction v using aW with
    |nil=>rw[cM] at e1;exact j y []<|by rw[e1,cM]
    |cons t v=>
     injection e2 with e2 e3
     refine dn λf=>?_;subst e2;have:=(xz.mp e3.symm).1;refine f ?_;rw[e1,UU];have:=j g []<|by simp
     have:kH [e]=0:=by show dt e+0=0;simp[dt,aj.is,G]
     lia
   ·exact j y v e1)
 refine u5 b (k++(m++g)) (oa++(ox++o3)) ?_ hk ?_ ?_ ?_ ?_
 ·have e1:(k++(⟨5,[40],n,p,en,C⟩::(m++⟨5,[41],B,E,F,C⟩::g)))++[e]=k++⟨5,[40],n,p,en,C⟩::(m++⟨5,[41],B,E,F,C⟩::(g++[e])):=by simp
  rw[e1,z];simp
 ·rw[<-N];exact yY h1<|yY A h4
 ·rw[wm,wm,wm,yB,wm,yB,a9 (sP),aN (by rfl)];exact by simp+arith only
 ·simp;exact by simp+arith only
 ·rw[vY,vY,vY,rU,vY,rU,a9 (by exact sP),a9 (by exact sP)];exact by simp+arith only
noncomputable def mK(pv nx:aj):Bool:= !(decide (nx.aq=5)&&(decide (nx.aP=[40])||decide (nx.aP=[60])))&&(!(decide (pv.aP=f6)||decide (pv.aP=gv))&&(!decide (pv.aP=dP)|| !decide (nx.aP=eW)))
noncomputable def en(m:Nat):aj->Bool->List aj->List aj
 |_,_,[]=>[]
 |pv,fr,t::r=>
  if t.is 5 [59]&&decide (0<m) then
   if m=1 then⟨5,[44],0,t.aJ,t.jv,C⟩::en m t fr r
   else if mK pv (r.headD kY) then en m t I r
   else{t with cC:=fr}::en m t C r
  else{t with cC:=fr}::en m t C r
theorem UZ{m:Nat}:en m pv fr []=[]:=rfl
theorem qE{m:Nat}{pv t:aj}{r:List aj}:en m pv fr (t::r)=if(t.is 5 [59]&&decide (0<m))=I then(if m=1 then⟨5,[44],0,t.aJ,t.jv,C⟩::en m t fr r else if mK pv (r.headD kY)=I then en m t I r else{t with cC:=fr}::en m t C r) else{t with cC:=fr}::en m t C r:=rfl
noncomputable def j5(pv:aj)(u:List aj):aj:=u.getLastD pv
theorem I2(pv:aj)(a c:List aj):j5 pv (a++c)=j5 (j5 pv a) c:=by
 unfold j5
 cases h:c with
 |nil=>simp
 |cons t r=>simp[acT,uM,No]
theorem U0(pv t:aj)(r:List aj):j5 pv (t::r)=j5 t r:=by unfold j5;rw[List.getLastD_cons]
structure Em(m:Nat)(ws ws':List W):Prop where
 t:∀u os,tk ws u os->∀pv z r,∃v,en m pv false (u++z::r)=v++en m (j5 pv u) false (z::r)/\tk ws' v os
 l:ws.getLast?.map W.x=ws'.getLast?.map W.x
 h:ws.head? =ws'.head?
section
variable{m:Nat}{a F c B:List W}{w:W}
theorem Em.nil:Em m [] []:=⟨λu os h b z r=>aD [] (by rw[(mG h).1];rfl) (by obtain⟨rfl,rfl⟩:=mG h;exact⟨J,J⟩),J,J⟩
theorem Em.j(h:Em m a F)(b:Em m c B):Em m (a++c) (F++B):=by
 refine⟨λu os k i z r=>?_,?_,?_⟩
 ·refine dn λl=>?_;obtain⟨j,d,o1,o,rfl,rfl,s,h2⟩:=vM k;obtain⟨f,g,e⟩:∃f g,d++z::r=f::g:=by
   induction d using aW with
   |nil=>exact gH _ _ J
   |cons t v=>exact gH _ _ J
  refine aB (h.t j o1 s i f g) λv1 e1 k1=>aB (b.t d o h2 (j5 i j) z r) λv2 e2 x=>l<|aD (v1++v2) ?_ (yY k1 x);rw[b6,e,e1,<-e,e2,I2,b6]
 ·rw[uM,uM];have h2:=b.l
  cases p:c.getLast? <;>cases q:B.getLast? <;>rw[p,q] at h2
  ·simpa using h.l
  ·exact ba h2
  ·exact u9 h2
  ·simpa using h2
 ·rw[EV,EV,h.h,b.h]
theorem t8{t:aj}(ht:t.is 5 [59]=C)(pv:aj)(fr:Bool)(r:List aj):en m pv fr (t::r)={t with cC:=fr}::en m t C r:=by
 rw[qE,ht];rfl
theorem Em.eE(g:w.l=C)(hs:w.x≠[59]):Em m [w] [w]:=by
 refine⟨λu os b k z r=>?_,J,J⟩
 by_cases d:w.k=9
 ·rw[pu d] at b;refine dn λi=>?_;obtain⟨rfl,rfl⟩:=mG b;exact i<|aD [] J (by rw[pu d];exact⟨J,J⟩)
 ·have f:=b;rw[mF d] at b;refine lB b ?_;clear b;rintro n p e l j rfl rfl h;obtain⟨rfl,rfl⟩:=mG h;refine aD [⟨w.k,w.x,n,p,e,w.l⟩] ?_ f;have ns:(aj.mk w.k w.x n p e w.l).is 5 [59]=false:=by simp[t0,hs]
  refine(t8 ns ..).trans ?_;rw[g]
  rfl
theorem Em.cons(b:w.l=C)(hs:w.x≠[59])(h:Em m c B):Em m (w::c) (w::B):=(Em.eE b hs).j h
theorem Em.i(h:∀w∈a,w.l=C/\w.x≠[59]):Em m a a:=by
 induction a with
 |nil=>exact .nil
 |cons w a b=>exact .cons (h w<|by simp).1 (h w<|by simp).2<|b λx d=>h x<|by simp[d]
end
theorem r7{P:W->Prop}(h:P x):∀y∈[x],P y:=λb e=>iv.mp e▸h
theorem qF{P:W->Prop}(h:P x)(hr:∀y∈r,P y):∀y∈x::r,P y:=λy e=>(d2.mp e).elim (λe=>e▸h)<|hr y
theorem CP{w:List W}{fl:Int}(h:n∈dY∨n=wd bH∨n=st bH fO)(b:fT n w fl):∀x∈w,x.l=C/\x.x≠[59]:=by
 have e:=yT (P:=λn=>n.l=C/\n.x≠[59]) (D J) h;have s:sp.l=C/\sp.x≠[59]:=by decide
 have q:(sg [63]).l=C/\(sg [63]).x≠[59]:=by decide
 have r:(nm fN).l=C/\(nm fN).x≠[59]:=by decide
 induction b with
 |gh=>exact r7 e
 |i=>exact qF e<|r7 q
 |ro=>exact qF r<|qF s<|r7 e
 |j=>exact qF r<|qF s<|qF e<|r7 q
theorem I3{w:List W}{a:List Nat}{fl:Int}(b:fH w a fl):∀x∈w,x.l=C/\x.x≠[59]:=by
 have A:∀a∈nJ,a≠[59]:=by decide
 induction b with
 |this=>decide
 |dots h=>exact qF (D J)<|r7 ⟨J,A _ h⟩
 |i h=>exact qF ⟨J,A _ h⟩<|r7<|D J
 |gh h=>exact r7 ⟨J,A _ h⟩
theorem I4{a:List Nat}(h:a∈iB∨a=gG):∀x∈d6 a,x.l=C/\x.x≠[59]:=by
 have A:∀a∈iB++[gG],∀x∈d6 a,x.l=C/\x.x≠[59]:=by decide
 exact A a<|eT.mpr<|h.imp id iv.mpr
theorem U1{a:List Nat}(h:a∈qB):a≠[59]:=(by decide:∀a∈qB,a≠[59]) a h
theorem CQ{a:List Nat}(h:a∈hY):a≠[59]:=(by decide:∀a∈hY,a≠[59]) a h
noncomputable def wp(b:List W):Prop:=∃x r,b=x::r/\x.k≠9/\x.x≠[59]/\(x.k=5∨x.x≠[40]/\x.x≠[60])
theorem wp.j{w v:List W}(h:wp w):wp (w++v):=h.elim λx h=>h.elim λr h=>cJ x (r++v) (by rw[h.1];rfl) h.2
theorem CR{w:List W}{fl:Int}(h:n∈dY∨n=wd bH∨n=st bH fO)(b:fT n w fl):wp w:=by
 have A:=yT (P:=λn=>n.k≠9/\n.x≠[59]/\(n.k=5∨n.x≠[40]/\n.x≠[60])) (D J) h
 induction b with
 |gh=>exact cJ _ _ J A
 |i=>exact cJ _ _ J A
 |ro=>exact cJ _ _ J<|D J
 |j=>exact cJ _ _ J<|D J
theorem U2{m i:Nat}{c:gw}(h:K b m i c ks j):c=.i∨c=.j->wp j:=by
 induction h with
 |iI a d=>exactλf=>CR (g5 a) d
 |ig a d _ _=>exactλf=>(CR (g5 a) d).j
 |g4 a d _ _ _=>exactλf=>(CR (nT a) d).j
 |ii k _=>exactλf=>(pJ k).elim λx h=>h.elim λr h=>m1 _ r h.1 (by decide:(5:Int)≠9) (h.2.elim (λe=>e▸(by decide:[40]≠[59])) λe=>e▸(by decide:[60]≠[59]))<|.inl J
 |ij _ _=>exactλf=>cJ _ _ J<|D J
 |ik l _ _ _=>exactλf=>l.elim (λh=>h.1▸(cJ _ _ J<|D J)) λh=>h.1▸(cJ _ _ J<|D J)
 |ms1 _ g=>exactλf=>g<|.inl J
 |gB _ _ _ g _=>exactλf=>(g<|.inl J).j
 |iJ _ _ _ g _=>exactλf=>(g<|.inl J).j
 |iK _ _ _ _ g _=>exactλf=>(g<|.inl J).j
 |_=>exactλe=>e.elim (λe=>nomatch e) λe=>(nomatch e)
theorem U3{p:aj}{a c:List W}{x:W}{n q e:Int}(h:p.aP=hZ a)(i:c=x::r)(j:x.k=5∨x.x≠[40]/\x.x≠[60]):mK p ⟨x.k,x.x,n,q,e,x.l⟩=I↔mI a c:=by
 subst i;have l:(decide (x.k=5)&&(decide (x.x=[40])||decide (x.x=[60])))=(decide (x.x=[40])||decide (x.x=[60])):=by
  rcases j with h|h
  ·rw[h];rfl
  ·rw[dO h.1,dO h.2];exact mW _
 unfold mK mI;simp only[h,l,List.head?_cons,Option.mem_some_iff,forall_eq',ol,Ae,uK,kl,decide_eq_false_iff_not];exact⟨λ⟨b,⟨d,f⟩,g⟩=>⟨d,f,b.1,b.2,λk=>g.elim (λq=>q k.1) λq=>q k.2⟩,λ⟨b,d,f,g,o⟩=>⟨⟨f,g⟩,⟨b,d⟩,Decidable.not_and_iff_not_or_not.mp o⟩⟩
theorem U4{a c:List W}{x:W}{r:List W}(f:La a)(k:c=x::r)(l:x.k≠9/\x.x≠[59]/\(x.k=5∨x.x≠[40]/\x.x≠[60])){o g:List aj}{t o1:List Int}{pv z:aj}{r':List aj}(q:tk c o t)(d:tk a g o1):(mK (j5 pv g) ((o++z::r').headD kY)=I↔mI a c):=by
 have e1:(j5 pv g).aP=hZ a:=by
  rw[<-Uj d f];refine dn λh=>eB f ?_;clear f;rintro y A rfl u;obtain⟨B,E,_,_,rfl,_,_,i⟩:=vM d;rw[mF u] at i;clear d;refine lB i ?_;clear i;rintro n p e v j rfl _ s;obtain⟨rfl,_⟩:=mG s;refine h ?_;simp[j5,lt]
 have b:=q;rw[k,mF l.1] at b;refine dn λh=>?_;clear d q;refine lB b ?_;clear b;rintro n p e v j rfl _ s;exact h<|U3 e1 k l.2.2
theorem U5{m:Nat}{a F c B:List W}{x:W}(h:Em m a F)(j:Em m c B)(S:La a)(M:c=x::r)(N:x.k≠9/\x.x≠[59]/\(x.k=5∨x.x≠[40]/\x.x≠[60])):
  (m=0->Em m (a++sg [59]::sp::c) (F++sg [59]::sp::B))/\(m=1->Em m (a++sg [59]::sp::c) (F++sg [44]::sp::B))/\
  (m=2->mI a c->Em m (a++sg [59]::sp::c) (F++sp::d9 I B))/\(m=2->¬mI a c->Em m (a++sg [59]::sp::c) (F++sg [59]::sp::B)):=by
 have o:∀s,(∀b d n p e,tk c b d->∀f o1,tk a f o1->∀i z r,∃v,en m (j5 i f) C (⟨5,[59],n,p,e,C⟩::(b++z::r))=v++en m (j5 ⟨5,[59],n,p,e,C⟩ b) C (z::r)/\tk s v d)->
   (a++sg [59]::sp::c).getLast?.map W.x=(F++s).getLast?.map W.x->(a++sg [59]::sp::c).head? =(F++s).head? ->Em m (a++sg [59]::sp::c) (F++s):=by
  intro s hs P L;refine⟨λu os hu i z r=>?_,P,L⟩;exact ta hu λf u2 o1 o2 k h2=>ts h2 λn p e b h2=>(h.t f o1 k i ⟨5,[59],n,p,e,C⟩<|b++z::r).elim λv1 T=>(hs b o2 n p e (SH h2) f o1 k i z r).elim λv V=>aD (v1++v) (by rw[b6,kR,T.1,V.1,b6,I2,U0])<|yY T.2 V.2
 have lc:∀(y z:List W),B.getLast? =B.getLast? ->(a++sg [59]::sp::c).getLast?.map W.x=c.getLast?.map W.x:=λξ ξ ξ=>by
  rw[show a++sg [59]::sp::c=(a++[sg [59],sp])++c by simp,uM,M];simp[No]
 have E:B≠[]:=by
  intro e0;have:=j.h;rw[M,e0] at this;exact u9 this
 have G:∀y:List W,(y++B).getLast?.map W.x=B.getLast?.map W.x:=λy=>by
  rw[uM]
  cases q:B.getLast? with
  |none=>exact ax (Nj.mp q) E
  |some t=>rfl
 have L:∀y:List W,(a++sg [59]::sp::c).head? =(F++y).head? :=λy=>by
  refine dn λH=>eB S ?_;clear S;rintro X wa rfl _;obtain⟨t,e⟩:∃t,(X++[wa]).head? =O t:=by cases X<;>simp
  refine H ?_;have e1:(X++[wa]++sg [59]::sp::c).head? =O t:=by rw[EV,e];rfl
  have e2:(F++y).head? =O t:=by rw[EV,<-h.h,e];rfl
  rw[e1,e2]
 have Q:∀l,(d9 l B).getLast?.map W.x=B.getLast?.map W.x:=λl=>by
  induction B using aW with
  |nil=>rfl
  |cons x r=>cases r<;>simp[d9,No]
 --Y tokens' K is Y words'
 have cond:∀b d,tk c b d->∀f o1,tk a f o1->∀i z r,(mK (j5 i f) ((b++z::r).headD kY)=I↔mI a c):=λb d g f o1 k i z R=>U4 S M N g k;refine⟨λem=>?_,λem=>?_,λem P=>?_,λem P=>?_⟩
 ·subst em;refine o _ (λb d n p e g f o1 k i z r=>?_) (by rw[lc [] [] J,j.l,show F++sg [59]::sp::B=(F++[sg [59],sp])++B by simp,G])<|L _;refine aB (j.t b d g ⟨5,[59],n,p,e,C⟩ z r) λv e2 A=>⟨⟨5,[59],n,p,e,C⟩::v,?_,n,p,e,v,d,J,J,A⟩;rw[qE,a9 (by simp),e2];rfl
 ·subst em;refine o _ (λb d n p e g f o1 k i z r=>?_) (by rw[lc [] [] J,j.l,show F++sg [44]::sp::B=(F++[sg [44],sp])++B by simp,G])<|L _;refine aB (j.t b d g ⟨5,[59],n,p,e,C⟩ z r) λv e2 A=>⟨⟨5,[44],0,p,e,C⟩::v,?_,0,p,e,v,d,J,J,A⟩;rw[qE,aN (by simp[t0]),aN J,e2];rfl
 ·refine dn λH=>?_;subst em;refine H<|o _ (λb d n p e g f o1 k i z r=>?_) (by rw[lc [] [] J,j.l,show F++sp::d9 I B=(F++[sp])++d9 I B by simp,uM,<-Q I];cases q:(d9 true B).getLast? with
   |none=>exfalso;have:=Nj.mp q;induction B using aW with|nil=>exact E rfl|cons=>exact ju this
   |some t=>rfl)<|L _
  refine dn λH=>aB (j.t b d g ⟨5,[59],n,p,e,C⟩ z r) λv e2 A=>?_;have Z:=g;rw[M,mF N.1] at g;refine lB g ?_;clear g;rintro n3 p3 e3 u' os' rfl _ h6;have ns:(aj.mk x.k x.x n3 p3 e3 x.l).is 5 [59]=false:=by simp[t0,N.2.1]
  rw[kR,t8 ns] at e2;obtain⟨x',R,ex⟩:∃x' R,B=x'::R:=by induction B using aW with|nil=>exact ax rfl E|cons x r=>exact gH x r rfl
  have exx:x=x':=by have:=j.h;rw[M,ex] at this;exact cS this
  subst exx;rw[ex,mF N.1] at A;refine lB A ?_;clear A;rintro n4 p4 e4 v' os4 rfl eo k6;refine H ?_;injection e2 with e5 e6
  injection e5 with T V q3 q4 q5 q6
  subst q4;subst q5;refine aD (⟨x.k,x.x,n3,p3,e3,I⟩::v') ?_ ?_
  ·rw[qE,aN (by simp[t0]),a9 (D J),aN ((cond _ _ Z f o1 k i z r).mpr P),kR,t8 ns,e6];rfl
  ·rw[ex];rw[show d9 I (x::R)={x with l:=I}::R from J,mF (w:={x with l:=I}) N.1];exact u8 n3 p3 e3 v' os4 J eo k6
 ·refine dn λH=>?_;subst em;refine H<|o _ (λb d n p e g f o1 k i z r=>?_) (by rw[lc [] [] J,j.l,show F++sg [59]::sp::B=(F++[sg [59],sp])++B by simp,G])<|L _;refine aB (j.t b d g ⟨5,[59],n,p,e,C⟩ z r) λv e2 A=>⟨⟨5,[59],n,p,e,C⟩::v,?_,n,p,e,v,d,J,J,A⟩;rw[qE,aN (by simp[t0]),a9 (D J),a9 (λq=>P<|(cond _ _ g f o1 k i z r).mp q),e2];rfl
theorem U6(h:Em m a b)(f:Em m c d):mI a c↔mI b d:=by
 have e:hZ a=hZ b:=by unfold hZ;rw[h.l]
 unfold mI;rw[e,f.h]
theorem U7{m i:Nat}(hm:m<=2){c:gw}{ks:List T}{E:List W}(h:K C 0 i c ks E):∃t,K C m i c ks t/\Em m E t:=by
 have S:∀{m:Nat} {c u:List W} {a:List Nat},a≠[59]->Em m c u->Em m (sg a::c) (sg a::u):=λh e=>.cons J h e;have N:∀{m:Nat} {c u:List W} {a:List Nat},a≠[59]->Em m c u->Em m (nm a::c) (nm a::u):=λh e=>.cons J h e;have b:∀{m:Nat} {c u:List W} {a:List Nat},a≠[59]->Em m c u->Em m (wd a::c) (wd a::u):=λh e=>.cons J h e;have P:∀{m:Nat} {c u:List W},Em m c u->Em m (sp::c) (sp::u):=λe=>.cons J (by simp[sp]) e;have v:∀{m:Nat} {a:List Nat},a≠[59]->Em m [sg a] [sg a]:=λh=>.eE J h
 induction h with
 |i9 a=>exact aD _ (.i9 a)<|.eE J<|U1 a
 |ae a=>exact aD _ (.ae a)<|.i<|I4 a
 |ja a _ d g=>exact g.elim λw h=>aD _ (.ja a h.1 d)<|(Em.i<|I4 a).j<|S (D J)<|h.2.j<|v<|D J
 |gN _ g=>exact g.elim λw h=>aD _ (.gN h.1)<|S (D J)<|h.2.j<|v<|D J
 |jD=>exact aD _ .jD<|S (D J)<|v<|D J
 |gk _ n g=>exact g.elim λw h=>aD _ (.gk h.1 n)<|S (D J)<|P<|h.2.j<|P<|v<|D J
 |gi _ g=>exact g.elim λw h=>aD _ (.gi h.1)<|h.2.j<|S (D J)<|v<|D J
 |aa _ _ g l=>exact g.elim λw h=>l.elim λy s=>aD _ (.aa h.1 s.1)<|h.2.j<|P<|S (D J)<|P s.2
 |un _ _ d g l=>exact g.elim λw h=>l.elim λy s=>aD _ (.un h.1 s.1 d)<|h.2.j<|P<|S (D J)<|P s.2
 | @fn i w fl o p r E t X d _ _ _ z A B=>
  refine dn λH=>aB z λw1 k1 e1=>?_;refine aB A λw2 L e2=>?_;refine aB B λw3 M Q=>?_;refine H ?_;have F:Em m w w:=by
   rcases d with⟨rfl,_⟩|⟨rfl,_⟩
   ·exact .nil
   ·exact b (D rfl)<|P .nil
  exact aD _ (.fn d k1 L M)<|F.j<|e1.j<|e2.j<|P<|S (D J)<|P Q
 |iD d _ g=>exact g.elim λw h=>aD _ (.iD d h.1) h.2
 |jb d _ g=>exact g.elim λw h=>aD _ (.jb d h.1)<|Em.cons J (by simp[pt])<|h.2.j<|v<|D J
 |iE _ g=>exact g.elim λw h=>aD _ (.iE h.1) h.2
 |h9 _ _ g l=>exact g.elim λw h=>l.elim λy s=>aD _ (.h9 h.1 s.1)<|h.2.j<|P<|S (D J)<|P s.2
 |iF _ g=>exact g.elim λw h=>aD _ (.iF h.1) h.2
 |ia _ _ g l=>exact g.elim λw h=>l.elim λy s=>aD _ (.ia h.1 s.1)<|h.2.j<|S (D J)<|P s.2
 |i=>exact aD _ .i .nil
 |iG a=>exact aD _ (.iG a)<|S (D J)<|N (D J)<|P<|N (CQ a)<|v<|D J
 |ib a _ g=>exact g.elim λw h=>aD _ (.ib a h.1)<|S (D J)<|N (CQ a)<|P<|b (D J)<|P<|h.2.j<|v<|D J
 |ic a _ g=>
  exact aB g λw k e=>aD _ (.ic a k)<|S (D J)<|b (D J)<|P<|N (CQ a)<|S (D J)<|P<|b (D J)<|P<|N (D J)<|P<|N (D J)<|P<|b (D J)<|P<|N (D J)<|P<|S (D J)<|P<|e.j<|v<|D J
 |jE a=>exact aD _ (.jE a)<|.i<|I3 a
 |jc a _ g=>exact g.elim λw h=>aD _ (.jc a h.1)<|(Em.i<|I3 a).j<|S (D J)<|P h.2
 |j=>exact aD _ .j .nil
 |jd _ a d g=>exact g.elim λw h=>aD _ (.jd h.1 a d) h.2
 |iH _ a d f _ g l=>exact g.elim λw h=>l.elim λy s=>aD _ (.iH h.1 a d f s.1)<|h.2.j<|S (D J)<|P s.2
 |ps _ n g=>exact g.elim λw h=>aD _ (.ps h.1 n)<|S (D J)<|h.2.j<|v<|D J
 |ef _ g=>exact g.elim λw h=>aD _ (.ef h.1) h.2
 |je _ g=>exact g.elim λw h=>aD _ (.je h.1)<|N (D J)<|P<|N (D J)<|P h.2
 |q=>exact aD _ .q<|N (D J)<|P<|N (D J) .nil
 |jf _ g=>exact g.elim λw h=>aD _ (.jf h.1)<|N (D J)<|P<|b (D J)<|P<|N (D J)<|P h.2
 |jg _ g=>exact g.elim λw h=>aD _ (.jg h.1)<|N (D J)<|P<|N (D J)<|P h.2
 |ie _ _ g l=>exact g.elim λw h=>l.elim λy s=>aD _ (.ie h.1 s.1)<|h.2.j s.2
 |g3 _ _ _ z A B=>refine aB z λw1 k1 e1=>?_;refine aB A λw2 L e2=>?_;refine aB B λw3 M Q=>?_;exact aD _ (.g3 k1 L M)<|e1.j<|e2.j<|S (D J)<|P Q
 |iI a d=>exact aD _ (.iI a d)<|.i<|CP (g5 a) d
 |ig a d _ g=>exact g.elim λw h=>aD _ (.ig a d h.1)<|(Em.i<|CP (g5 a) d).j<|S (D J)<|P h.2
 |g4 a d f _ g=>exact g.elim λw h=>aD _ (.g4 a d f h.1)<|(Em.i<|CP (nT a) d).j h.2
 |ii _ g=>exact g.elim λw h=>aD _ (.ii h.1) h.2
 |ij _ g=>exact g.elim λw h=>aD _ (.ij h.1)<|b (D J)<|P h.2
 | @ik i w fl a k E F d _ g=>
  refine aB g λy k e=>?_;have R:Em m w w:=by
   rcases F with⟨rfl,_⟩|⟨rfl,_⟩
   ·exact .nil
   ·exact N (D rfl)<|P .nil
  exact aD _ (.ik F d k)<|R.j<|S (D J)<|N (by rcases d with rfl|rfl<;>decide)<|S (D J)<|P<|N (D J)<|S (D J)<|S (D J)<|P e
 |ms1 _ g=>exact g.elim λw h=>aD _ (.ms1 h.1) h.2
 | @gB i k ks E t _ Z h2 g l=>
  refine dn λH=>aB g λw k e=>?_;refine aB l λy G Y=>?_;refine eB (U2 h2<|.inr J) λx r ex hx=>u0 (U5 e Y (jF Z) ex hx) λz0 z1 z2 z3=>H ?_
  rcases(by lia:m=0∨m=1∨m=2) with q|q|q
  ·exact aD _ (.gB (.inl q) k G)<|z0 q
  ·exact aD _ (.iJ q k G)<|z1 q
  ·by_cases V:mI E t
   ·exact aD _ (.iK q k G<|(U6 e Y).mp V)<|z2 q V
   ·exact aD _ (.gB (.inr q) k G)<|z3 q V
 |iJ a=>exact ax a<|D J
 |iK a=>exact ax a<|D J
theorem U8(hm:m<=2){os:List Int}{e pv:aj}(h:K false 0 i .j ks b)(f:tk (gC b) u os)(c:e.aq=0)(g:e.cC=false):
  ∃a d,en m pv false (u++[e])=d++[e]/\K false m i .j ks a/\tk (gC a) d os:=by
 refine aB (U7 hm h) λa j o=>aB ((.cons rfl (by simp[sg]) (.cons rfl (by simp[sp])<|o.j<|.cons rfl (by simp[sp])<|.eE rfl<|by simp[sg]):Em m (gC b)<|gC a).t u os f pv e []) λv e1 k1=>cK a v ?_ j k1;rw[e1,t8 (by simp[aj.is,c])];clear e1 c;obtain⟨k,x,n,p,q,l⟩:=e
 cases g
 rfl
noncomputable def Gr(H B:Hp):Prop:=∃l,B=H++l
theorem Gr.refl{H:Hp}:Gr H H:=⟨[],(cM _).symm⟩
theorem Gr.q{H B c:Hp}(a:Gr H B)(b:Gr B c):Gr H c:=by
 obtain⟨l,rfl⟩:=a;obtain⟨d,rfl⟩:=b;exact⟨l++d,b6 ..⟩
theorem Gr.j{H l:Hp}:Gr H (H++l):=⟨l,J⟩
noncomputable def aY(a:List W):List Nat:=(a.map W.w).flatten
theorem gO(a c:List W):aY (a++c)=aY a++aY c:=by unfold aY;rw[dz,List.flatten_append]
theorem f2(w:W)(c:List W):aY (w::c)=w.w++aY c:=rfl
noncomputable def dg:Nat:=16000000
theorem I5{n:Nat}(h:n<=dg):n<=bg:=aE h<|D J
theorem cr{a c:List Nat}(h:(a++c).length<=dg):a.length<=dg:=aE (by rw[bx];exact d7 ..) h
theorem dE{a c:List Nat}(h:(a++c).length<=dg):c.length<=dg:=aE (by rw[bx];exact hG ..) h
noncomputable def Wr(N:Nat)(f:Fn)(as:List V)(s:List Nat):Prop:=∀n,N<=n->∀H,∃B,ag n f as H=.ok (.ah s) B/\Gr H B
theorem Wr.au{N M:Nat}{s:List Nat}(h:Wr N f as s)(e:N<=M):Wr M f as s:=λn a=>h n<|aE e a
noncomputable def PW(s:List Nat)(H:Hp)(r:R<|Fl×Lc):Prop:=∃B,r.i ef=.ok (.ah s) B/\Gr H B
theorem fU{N:Nat}{as:List V}{s:List Nat}(hb:iX f=(np,nl,body))(a:as.length=np)(h:∀n H,N<=n->Jd (PW s H) n (.s body [] (as.map O++jp (nl-np) U) H)):Wr (N+1) f as s
 |n+1,b,H=>by rw[qp n hb a];exact h n H<|jT b
section
variable{n N:Nat}{X:R (Fl×Lc)->Prop}{F:Cf}{K:List Kf}{l:Lc}{H i B:Hp}{s x y:List Nat}
theorem gl(h:Wr N f a s)(b:N<=n)(e:go F=.ao f a K l H)(q:∀B,Gr H B->Jd X n (.v (.ah s) K l B)):Jd X n F:=aB (h n b H) λB c g=>bn e c<|q B g
theorem da(e:go F=.v (.ah y) (.nq .i (.ah x)::K) l H)(h:(x++y).length<=dg)(q:Jd X n<|.v (.ah<|x++y) K l H):Jd X n F:=ck e (ym<|I5 h) q
theorem eR(e:go F=.fl (.am<|.ah s) [] l H)(g:Gr i H):Jd (PW s i) n F:=aL e<|aD H J g
class inductive A2{α β:Type}(P:α->β->Prop):List α->List β->Prop where
 |nil:A2 P [] []
 |cons {a b r s}:P a b->A2 P r s->A2 P (a::r) (b::s)
theorem A2.u{c d:Type}{P Q:c->d->Prop}(h:∀a b,P a b->Q a b){r:List c}{s:List d}(x:A2 P r s):A2 Q r s:=by
 induction x with
 |nil=>exact .nil
 |cons p _ e=>exact .cons (h _ _ p) e
theorem I6(a:List Nat):∀b:List (List Nat),(b.map (·.length)).sum+b.length*a.length<=(dJ a b).length+a.length
 |[]=>by show 0+0*_<=_;rw[Nat.zero_mul];exact dG _
 |[x]=>by show(x.length+0)+1*_<=x.length+_;rw[EW];exact bF _
 |x::y::r=>by
  have:=I6 a<|y::r;show(x.length+((y::r).map (·.length)).sum)+((y::r).length+1)*a.length<=(x++a++dJ a (y::r)).length+_;rw[bx,bx,adc,EW];exact L1 this
theorem U9(a:List<|List Nat):rE (a.map V.ah)=O a:=by
 induction a with
 |nil=>rfl
 |cons s r b=>show(rE<|r.map V.ah).map (s::·)=_;rw[b];rfl
theorem Va{x:Nat}{g:T->List V}(b:N<=n)(c:∀t H,go (.e e [.am] (l.set x<|O t.v) H)=.ao f (g t) [.am] (l.set x<|O t.v) H):∀(ts:List T) (a:List<|List Nat) (H:Hp),A2 (λt s=>Wr N f (g t) s) ts a->∃B,eY (λv H=>az (ag n) e (l.set x<|O v) H) (fj<|ts.map O) H=.ok (a.map V.ah) B/\Gr H B:=by
 intro ts
 induction ts with
 |nil=>
  intro a H h
  cases h;exact aD H J .refl
 |cons t ts d=>
  intro a H h
  cases h with
  | @cons _ s _ a i h2=>
   refine dn λj=>aB (i n b H) λH1 e1 k=>aB (d a H1 h2) λH2 e2 m=>j<|aD H2 ?_ (k.q m);show(match az (ag n) e (l.set x<|O t.v) H with
    |.ok u H=>(eY _ (fj<|ts.map O) H).i λo H=>.ok (u::o) H
    |_=>.j)=_
   rw[c8 (bn (c t H) e1<|aL J J)]
   dsimp only
   rw[e2]
   rfl
theorem CS{i:Nat}{g:T->List V}{ts:List T}{a:List Nat}(e:go F=.v (.ah a) (.dK .jW [.i c i it]::K) l H)(d:az (ag n) it l H=.ok (.af<|fj<|ts.map O) H)(j:N<=n)(k:∀t H,go (.e c [.am] (l.set i<|O t.v) H)=.ao f (g t) [.am] (l.set i<|O t.v) H)
  (h:A2 (λt s=>Wr N f (g t) s) ts b)(m:(dJ a b).length<=dg)(hs:a.length<=100)(q:∀B,Gr H B->Jd X n (.v (.ah<|dJ a b) K l B)):Jd X n F:=by
 refine dn λo=>aB (Va j k ts b H h) λH1 e1 p=>o<|bv e<|bf (c':=.v (.ah<|dJ a b) K l<|H1++[.af (b.map V.ah)]) ?_ (q _<|p.q .j);have e2:az (ag n) (.i c i it) l H=.ok (.ae H1.length) (H1++[.af (b.map V.ah)]):=by
  show R.i (az (ag n) it l H) _=_;rw[d];show R.i (eY _ (fj<|ts.map O) H) _=_;rw[e1];rfl
 have r:hS (.ah a) .jW [.ae H1.length] (H1++[.af (b.map V.ah)])=.ok (.ah<|dJ a b) (H1++[.af (b.map V.ah)]):=by
  show(match(H1++[b4.af (b.map V.ah)])[H1.length]? with|some (.af u)=>(match rE u with|some (b:List<|List Nat)=>if(b.map λz:List Nat=>z.length).sum+b.length*a.length<=bg then R.ok (V.ah<|dJ a b) _ else .j|.none=>.j)|_=>.j)=_;rw[cD];dsimp only;rw[U9];dsimp only;exact aN<|aE (I6 a b)<|aE (gq m hs)<|D J
 show R.i (if I=I then(cu (ag n) [.i c i it] l H).i λv H=>hS (.ah a) .jW v H else .j) _=_;rw[aN J,lO,e2];show R.i (hS (.ah a) .jW [.ae H1.length]<|H1++[.af (b.map V.ah)]) _=_;rw[r];rfl
end
theorem yZ{ts:List T}{a:List Nat}(h:A2 (λt s=>Wr N 1021 [t.v] s) ts b)(c:(dJ a b).length<=dg)(hs:a.length<=100):Wr (N+1) 1002 [.af (fj<|ts.map O),.ah a] (dJ a b):=
 fU J J λn H d=>CS J J d (λe e=>J) h c hs λf g=>eR J g
noncomputable def qG(j:Bool):V:=if j then .u [.aa 27,.aa 83,.aa 84] else .u [.aa 27,.aa 83]
theorem I7{k:T}(j:Bool)(h:Wr N 1021 [k.v] s)(c:(if gj j k.aq then([40]++s)++[41] else s).length<=dg):Wr (N+1) 1009 [k.v,qG j] (if gj j k.aq then([40]++s)++[41] else s):=by
 obtain⟨kd,a,ks,f,p⟩:=k;have go:∀b:Bool,gj j kd=b->∀n H d,Gr H d->Jd (PW (if gj j kd then([40]++s)++[41] else s) H) n (.v (.i b) [.bz (.bI .i (.bI .i (.c<|.ah [40])<|.l 2)<|.c<|.ah [41]) (.l 2),.am] [O (T.v<|.nd kd a ks f p),O (qG j),O (.ah s)] d):=by
  intro b hb n H d g;have c:(if gj j kd then([40]++s)++[41] else s).length<=dg:=c;rw[hb] at c⊢
  induction b using xx with
  |false=>exact j1 J bc λi=>eR J g
  |true=>exact j1 J (λi=>da J (cr c)<|da J c<|eR J g) c5
 refine fU J J λn H l=>gl h l J λH1 e=>?_;clear c
 cases j
 ·exact bv J<|go _ (by show(decide (kd=27)||(decide (kd=83)||C))=(decide (27=kd)||(decide (83=kd)||C));rw[pi kd,pi kd]) n H H1 e
 ·exact bv J<|go _ (by show(decide (kd=27)||(decide (kd=83)||decide (kd=84)))=(decide (27=kd)||(decide (83=kd)||(decide (84=kd)||C)));rw[oj,pi kd,pi kd,pi kd]) n H H1 e
inductive OW(N:Nat)(pre:List Nat):Option T->List Nat->Prop where
 |none:OW N pre none []
 |some {t s}:Wr N 1021 [t.v] s->OW N pre (some t) (pre++s)
inductive OL(N:Nat):Option T->List Nat->Prop where
 |none:OL N none []
 |some {ts ss}:A2 (λt s=>Wr N 1021 [t.v] s) ts ss->OL N (some (aK 71 [] ts 0)) ([60]++dJ [44,32] ss++[62])
theorem r8(h:(x++y).length<=dg):iY .i (.ah x) (.ah y) H=.ok (.ah<|x++y) H:=ym<|I5 h
theorem CT{os rs:List Nat}{fl q:Int}(u:OL N o os)(hp:A2 (λt s=>Wr N 1021 [t.v] s) ps g)(hr:OW N b r rs)(i:((os++(([40]++dJ kT g)++[41]))++rs).length<=dg):
  Wr (N+2) 1016 [T.v (.nd 27 a [o,O (aK 71 [] ps 0),r,U] fl q),.ah b] ((os++(([40]++dJ kT g)++[41]))++rs):=by
 have c:=cr i;have d:=dE c;refine fU J J λn H k=>?_;have go:∀H1,Gr H H1->Jd (PW ((os++(([40]++dJ kT g)++[41]))++rs) H) n (.s (F9.drop 2) [] [O (T.v<|.nd 27 a [o,O (aK 71 [] ps 0),r,U] fl q),O (.ah b),O (.ah os),O (ov o),O (aK 71 [] ps 0).v,O (ov r),O .none] H1):=by
  intro H1 j;refine gl (yZ hp (dE<|cr d)<|D J) k J λH2 m=>da J (cr d)<|da J d<|fS J (r8 c) ?_
  induction hr with
  |none=>rw[cM];exact j1 J (λl=>eR J<|j.q m) c5
  | @some t s h=>
   obtain⟨kd,x,ks,f,p⟩:=t;rw[<-b6] at i⊢;exact j1 J bc λl=>da J (cr i)<|gl h (iw k) J λy v=>da J i<|eR J<|(j.q m).q v
 refine vJ J J J ?_
 induction u with
 |none=>exact j1 J (λl=>bf J<|go H .refl) c5
 | @some ts w h=>
  have e:=cr c;exact j1 J bc λl=>gl (yZ h (dE<|cr e)<|D J) k J λH1 j=>da J (cr e)<|da J e<|bf J<|go H1 j
section
variable{N:Nat}{k:T}{ts:List T}{i:List (List Nat)}{s a:List Nat}{fl p:Int}
theorem I8:Wr 1 1021 [(c6 80 a p).v] a:=fU J J λn H b=>cp 100 J<|eR (H:=H) J .refl
theorem I9:Wr 1 1021 [(aK 81 a [] p).v] a:=fU J J λn H b=>cp 100 J<|eR (H:=H) J .refl
theorem Vb(h:A2 (λt s=>Wr N 1021 [t.v] s) ts i)(c:ts≠[])(d:(((a++[60])++dJ kT i)++[62]).length<=dg):Wr (N+2) 1021 [(aK 81 a ts p).v] (((a++[60])++dJ kT i)++[62]):=by
 induction ts using aW with
 |nil=>exact ax J c
 |cons t ts=>
  have b:=cr d;exact fU J J λn H c=>cp 100 J<|da J (cr b)<|gl (yZ h (dE b)<|D J) c J λH1 e=>da J b<|da J d<|eR J e
theorem Vc(h:Wr N 1021 [k.v] s)(b:(([40]++s)++[41]).length<=dg):Wr (N+1) 1021 [(aK 98 [] [k] p).v] (([40]++s)++[41]):=
 fU J J λn H c=>cp 100 J<|gl h c J λH1 d=>da J (cr b)<|da J b<|eR J d
theorem Vd(h:Wr N 1009 [k.v,qG I] s)(b:(s++[91,93]).length<=dg):Wr (N+1) 1021 [(aK 85 [] [k] p).v] (s++[91,93]):=
 fU J J λn H c=>cp 100 J<|gl h c J λH1 d=>da J b<|eR J d
theorem Ve(h:A2 (λt s=>Wr N 1009 [t.v,qG C] s) ts i)(b:(dJ [32,124,32] i).length<=dg):Wr (N+1) 1021 [(aK 83 [] ts p).v] (dJ [32,124,32] i):=
 fU J J λn H c=>cp 100 J<|CS (g:=λt=>[t.v,qG C]) J J c (λd d=>J) h b (D J) λH1 e=>eR J e
theorem Vf(h:A2 (λt s=>Wr N 1009 [t.v,qG I] s) ts i)(b:(dJ [32,38,32] i).length<=dg):Wr (N+1) 1021 [(aK 84 [] ts p).v] (dJ [32,38,32] i):=
 fU J J λn H c=>cp 100 J<|CS (g:=λt=>[t.v,qG I]) J J c (λd d=>J) h b (D J) λH1 e=>eR J e
theorem Vg:Wr 1 1021 [(aK 88 [] [] p).v] [123,125]:=fU J J λn H b=>cp 100 J<|eR (H:=H) J .refl
theorem Ja(h:A2 (λt s=>Wr N 1021 [t.v] s) ts i)(c:ts≠[])(d:(([123,32]++dJ [59,32] i)++[32,125]).length<=dg):Wr (N+2) 1021 [(aK 88 [] ts p).v] (([123,32]++dJ [59,32] i)++[32,125]):=by
 induction ts using aW with
 |nil=>exact ax J c
 |cons t ts=>
  have b:=cr d;exact fU J J λn H c=>cp 100 J<|gl (yZ h (dE b)<|D J) c J λH1 e=>da J b<|da J d<|eR J e
end
section
variable{N n:Nat}{k:T}{ts:List T}{i:List (List Nat)}{s a x rs pre mk:List Nat}{fl p:Int}{o:Option T}{H:Hp}
theorem Jb(h:Wr N 1021 [k.v] s)(b:((a++AS)++s).length<=dg):Wr (N+1) 1021 [(j4 a (O k) 0 p).v] ((a++AS)++s):=by
 obtain⟨kd,e,ks,f,g⟩:=k;exact fU J J λn H c=>cp 120 J<|da J (cr b)<|cp 100 J<|gl h c J λH1 d=>da J b<|eR J d
theorem Vh(b:(AR++a).length<=dg):Wr 1 1021 [(j4 a U 16777216 p).v] (AR++a):=
 fU J J λn H c=>cp 120 J<|da J b<|cp 100 J<|eR J .refl
theorem Vi(h:Wr N 1021 [k.v] s)(b:(((AR++a)++AS)++s).length<=dg):Wr (N+1) 1021 [(j4 a (O k) 16777216 p).v] (((AR++a)++AS)++s):=by
 obtain⟨kd,e,ks,f,g⟩:=k;exact fU J J λn H c=>cp 120 J<|da J (cr<|cr b)<|cp 100 J<|da J (cr b)<|cp 100 J<|gl h c J λH1 d=>da J b<|eR J d
noncomputable def y0(i j:Nat)(b:List Nat):List S:=[.am (.bz (.b9 .j (.y (.q (.l 0) .bO)<|.c<|.aa j)<|.c .none) (.l i)<|.bI .i (.bI .i (.l i)<|.c<|.ah b)<|.ao 1021 [.y (.q (.l 0) .bO) (.c<|.aa j)])]
theorem y1(m:fl=0/\pre=[]∨fl=268435456/\pre=AT∨fl=536870912/\pre=AU∨fl=805306368/\pre=Oz)(h:OW N uZ o rs)(l:OW N [32,61,32] j b)(i:(((pre++a)++rs)++b).length<=dg):Wr (N+1) 1021 [(T.nd 100 a [o,j] fl p).v] (((pre++a)++rs)++b):=by
 have c:=cr i;have d:∀R n H H1,N<=n->Gr H H1->Jd (PW (((pre++a)++rs)++b) H) n (.s (y0 3 1 [32,61,32]) [.j R] [O (T.nd 100 a [o,j] fl p).v,O (.aa 100),U,O (.ah<|(pre++a)++rs),U,U] H1):=λR n H H1 e g=>by
  induction l with
  |none=>rw[cM];exact cp 100 J<|eR J g
  | @some t s l=>
   obtain⟨kd,q,ks,f,r⟩:=t;rw[<-b6] at i⊢;exact cp 100 J<|da J (cr i)<|cp 100 J<|gl l e J λH2 u=>da J i<|eR J<|g.q u
 have mid:∀R n H,N<=n->Jd (PW (((pre++a)++rs)++b) H) n (.s (.db 3 .i (.bz (.b9 .j (.y (.q (.l 0) .bO)<|.c<|.aa 0)<|.c .none) (.c<|.ah [])<|.bI .i (.c<|.ah uZ)<|.ao 1021 [.y (.q (.l 0) .bO) (.c<|.aa 0)])::y0 3 1 [32,61,32]) [.j R] [O (T.nd 100 a [o,j] fl p).v,O (.aa 100),U,O (.ah<|pre++a),U,U] H):=λR n H e=>by
  clear i
  induction h with
  |none=>exact cp 100 J<|fS J (r8 c)<|d R n H H e .refl
  | @some t s h=>
   obtain⟨kd,q,ks,f,r⟩:=t;exact cp 100 J<|gl h e J λH1 v=>da J (dE c)<|fS J (r8 c)<|d R n H H1 e v
 clear d i
 rcases m with⟨rfl,rfl⟩|⟨rfl,rfl⟩|⟨rfl,rfl⟩|⟨rfl,rfl⟩<;>exact fU rfl rfl λn H e=>cp 120 rfl<|da rfl (cr c)<|bf rfl<|mid _ n H e
end
section
variable{N n:Nat}{k:T}{ts:List T}{j:List (List Nat)}{s i a x rs pre mk nw:List Nat}{fl p:Int}{o:Option T}{ks:List (Option T)}{H:Hp}
theorem Vj{b:T}(g:fl=0/\pre=[91]∨fl=131072/\pre=OA)(h:Wr N 1021 [k.v] s)(j:Wr N 1021 [b.v] i)(c:(((((pre++a)++kz)++s)++[93,58,32])++i).length<=dg):Wr (N+1) 1021 [(T.nd 63 a [O k,O b] fl p).v] (((((pre++a)++kz)++s)++[93,58,32])++i):=by
 have d:=cr c;have h2:=cr d;have e:=cr h2
 rcases g with⟨rfl,rfl⟩|⟨rfl,rfl⟩<;>
  exact fU J J λn H f=>cp 150 J<|da J (cr e)<|da J e<|cp 100 J<|gl h f J λH1 l=>da J h2<|da J d<|cp 100 J<|gl j f J λH2 m=>da J c<|eR J<|l.q m
theorem Vk(b:fl=2048/\pre=[]∨fl=3072/\pre=AV)(h:Wr N 1016 [(T.nd 27 a ks fl p).v,.ah [32,61,62,32]] s)(c:(pre++s).length<=dg):Wr (N+1) 1021 [(T.nd 27 a ks fl p).v] (pre++s):=by
 rcases b with⟨rfl,rfl⟩|⟨rfl,rfl⟩<;>
  exact fU J J λn H d=>cp 180 J<|gl h d J λH1 e=>da J c<|eR J e
theorem Jc(b:fl=512/\pre=[]∨fl=1024/\pre=AV)(h:Wr N 1016 [(T.nd 27 a ks fl p).v,.ah kz] s)(c:(pre++s).length<=dg):Wr (N+1) 1021 [(T.nd 27 a ks fl p).v] (pre++s):=by
 rcases b with⟨rfl,rfl⟩|⟨rfl,rfl⟩<;>
  exact fU J J λn H d=>cp 220 J<|gl h d J λH1 e=>da J c<|eR J e
theorem Je(e:fl=32/\mk=[]∨fl=4128/\mk=[63])(b:a=bH/\nw=fO∨a≠bH/\Wr N 997 [.ah a] nw)(h:Wr N 1016 [(T.nd 27 a ks fl p).v,.ah kz] s)(c:((nw++mk)++s).length<=dg):Wr (N+1) 1021 [(T.nd 27 a ks fl p).v] ((nw++mk)++s):=by
 rcases b with⟨rfl,rfl⟩|⟨f,g⟩
 ·rcases e with⟨rfl,rfl⟩|⟨rfl,rfl⟩<;>
   exact fU rfl rfl λn H b=>cp 300 rfl<|da rfl (cr c)<|cp 50 rfl<|gl h b rfl λH1 d=>da rfl c<|eR rfl d
 ·rcases e with⟨rfl,rfl⟩|⟨rfl,rfl⟩<;>
   exact fU J J λn H b=>cp 180 J<|j1 J (λq=>ax (D q) f) λj=>gl g b J λH1 d=>da J (cr c)<|cp 50 J<|gl h b J λH2 i=>da J c<|eR J<|d.q i
theorem Jf(g:fl=0/\pre=[]/\mk=[]∨fl=4096/\pre=[]/\mk=[63]∨fl=8192/\pre=hN/\mk=[])(h:OW N kz o rs)(b:(((pre++a)++mk)++rs).length<=dg):Wr (N+1) 1021 [(lf a o fl 0 p).v] (((pre++a)++mk)++rs):=by
 have c:=cr b;have d:∀R n H,N<=n->Jd (PW (((pre++a)++mk)++rs) H) n (.s (y0 3 1 kz) [.j R] [O (lf a o fl 0 p).v,O (.aa 28),O (.ah mk),O (.ah<|(pre++a)++mk),U,U] H):=λR n H e=>by
  induction h with
  |none=>rw[cM];exact cp 100 J<|eR J .refl
  | @some t s h=>
   obtain⟨kd,j,ks,f,l⟩:=t;rw[<-b6] at b⊢;exact cp 100 J<|da J (cr b)<|cp 100 J<|gl h e J λH2 i=>da J b<|eR J i
 clear b
 rcases g with⟨rfl,rfl,rfl⟩|⟨rfl,rfl,rfl⟩|⟨rfl,rfl,rfl⟩<;>
  exact fU rfl rfl λn H e=>cp 350 rfl<|da rfl (cr c)<|da rfl c<|bf rfl<|d _ n H e
theorem Jg(i:fl=0/\pre=[]/\mk=[]∨fl=4096/\pre=[]/\mk=[63]∨fl=131072/\pre=AW/\mk=[]∨fl=135168/\pre=AW/\mk=[63])(j:Wr N 997 [.ah a] nw)(h:OW N kz o rs)(b:(((pre++nw)++mk)++rs).length<=dg):Wr (N+1) 1021 [(T.nd 99 a [o] fl p).v] (((pre++nw)++mk)++rs):=by
 have c:=cr b;have e:∀n H H1,N<=n->Gr H H1->Jd (PW (((pre++nw)++mk)++rs) H) n (.s (y0 3 0 kz) [] [O (T.nd 99 a [o] fl p).v,O (.aa 99),O (.ah mk),O (.ah<|(pre++nw)++mk),U,U] H1):=λn H H1 d g=>by
  induction h with
  |none=>rw[cM];exact cp 100 J<|eR J g
  | @some t s h=>
   obtain⟨kd,q,ks,f,r⟩:=t;rw[<-b6] at b⊢;exact cp 100 J<|da J (cr b)<|cp 100 J<|gl h d J λH2 l=>da J b<|eR J<|g.q l
 clear b
 rcases i with⟨rfl,rfl,rfl⟩|⟨rfl,rfl,rfl⟩|⟨rfl,rfl,rfl⟩|⟨rfl,rfl,rfl⟩<;>
  exact fU rfl rfl λn H d=>cp 350 rfl<|gl j d rfl λH1 m=>da rfl (cr c)<|da rfl c<|bf rfl<|e n H H1 d m
end
theorem Vl{X:R (Fl×Lc)->Prop}{K:List Kf}{o:Option V}(e:go b=.v (.dct a) (.dK .cN [x,y]::K) l H)(c:az (ag m) x l H=.ok k H)(f:az (ag m) y l H=.ok d H)(h:ng k a=O o)(q:Jd X m<|.v (o.getD d) K l H):Jd X m b:=
 bv e (bf (by
  show R.i (if I=I then(cu (ag m) [x,y] l H).i λg H=>hS (.dct a) .cN g H else .j) _=_;rw[aN J,lO,c,jz,lO,f,jz];show R.i (cG ((ng k a).map (·.getD d)) H) _=_;rw[h];rfl) q)
theorem mL(e:∀H,vL 60 (.s Bg [] [O (.ah x)] H)=.fl (.am<|.ah x) [] [O (.ah x)] H):Wr 1 997 [.ah x] x:=fU J J λn H a=>cp 60 (e H)<|eR J .refl
noncomputable def Jh:List (V×V):=[(.ah [],.ah [34,34]),(.ah AQ,.ah OB)]
theorem wq{o:Option V}(e:∀H,vL 60 (.s Bg [] [O (.ah x)] H)=.v (.dct Jh) [.dK .cN [.l 0,.bI .i (.bI .i (.c<|.ah [34])<|.l 0) (.c<|.ah [34])],.am] [O (.ah x)] H)(a:(([34]++x)++[34]).length<=dg)(h:ng (.ah x) Jh=O o)(b:o.getD (.ah<|([34]++x)++[34])=.ah w):Wr 1 997 [.ah x] w:=
 fU J J λn H c=>cp 60 (e H)<|Vl J J (c8<|da J (cr a)<|da J a<|aL J J) h (by rw[b];exact eR J .refl)
theorem CU{n:W}(h:n∈dY∨n=wd bH):Wr 1 997 [.ah n.x] n.w:=by
 have k:∀n,n∈dY++[wd bH]->Wr 1 997 [.ah n.x] n.w:=by
  unfold dY;simp only[kR,EX,add];exact⟨mL λa=>J,mL λa=>J,mL λa=>J,mL λa=>J,mL λa=>J,wq (λa=>J) (D J) J J,wq (λa=>J) (D J) J J,mL λa=>J,wq (λa=>J) (D J) J J,wq (λa=>J) (D J) J J,mL λa=>J,wq (λa=>J) (D J) J J,mL λa=>J,mL λa=>J,mL λa=>J,mL λa=>J,λn h=>ax h eU⟩
 exact k n<|eT.mpr<|h.imp id iv.mpr
noncomputable abbrev Wx(N:Nat)(t:T)(s:List Nat):Prop:=Wr N 1021 [t.v] s
noncomputable abbrev Wg(N:Nat)(j:Bool)(t:T)(s:List Nat):Prop:=Wr N 1009 [t.v,qG j] s
noncomputable def Ji(i:Nat)(c:gw)(ks:List T)(b:List W):Prop:=match c with
 |.kd=>∀k,ks=[k]->Wx (8*i+2) k (aY b)
 |.u j=>∀k,ks=[k]->Wg (8*i+3) j k (aY b)
 |.nM=>∃a,A2 (Wx<|8*i+2) ks a/\aY b=dJ kT a
 |.nN=>∃a,A2 (Wg (8*i+3) C) ks a/\aY b=dJ [32,124,32] a
 |.q=>OL (8*i+4) ks.head? <|aY b
 |.pm=>∀k,ks=[k]->Wx (8*i+3) k (aY b)
 |.y _ _=>∃a,A2 (Wx<|8*i+3) ks a/\aY b=dJ kT a
 |.ps=>∃ps a,ks=[aK 71 [] ps 0]/\A2 (Wx<|8*i+3) ps a/\aY b=([40]++dJ kT a)++[41]
 |.am=>∀k,ks=[k]->Wx (8*i+3) k (aY b)
 |.sg=>∀k,ks=[k]->Wr (8*i+6) 1016 [k.v,.ah kz] (aY b)
 |.i=>∀k,ks=[k]->Wx (8*i+7) k (aY b)
 |.j=>∃a,A2 (Wx<|8*i+7) ks a/\aY b=dJ [59,32] a
theorem Jj(h:a∈iB∨a=gG):aY (d6 a)=a:=by
 unfold d6;split
 ·rename_i e;rw[e];rfl
 ·exact cM a
theorem fy{c:Type}{P:c->Prop}{a:c}(h:P a):∀b,[a]=[b]->P b:=λb e=>by cases e;exact h
theorem Vm(h:b≠[]):dJ a (s::b)=s++a++dJ a b:=by
 induction b using aW with
 |nil=>exact ax J h
 |cons x r=>rfl
theorem A2.i{a b:Type}{P:a->b->Prop}{r:List a}{s:List b}(x:A2 P r s)(h:r≠[]):s≠[]:=by induction x;exact ax J h;nofun
theorem Jk{fl:Int}(b:fH w a fl):∃pre mk,(fl=0/\pre=[]/\mk=[]∨fl=4096/\pre=[]/\mk=[63]∨fl=8192/\pre=hN/\mk=[])/\aY w=(pre++a)++mk:=by
 induction b with
 |dots h=>exact cJ _ _ (.inr<|.inr ⟨J,J,J⟩) J
 |i h=>exact cJ _ _ (.inr<|.inl ⟨J,J,J⟩) J
 |gh h=>exact cJ _ _ (.inl ⟨J,J,J⟩) J
 |this=>exact cJ _ _ (.inl ⟨J,J,J⟩) J
theorem Jl{n:W}{fl:Int}(a:fT n w fl):∃pre mk,(fl=0/\pre=[]/\mk=[]∨fl=4096/\pre=[]/\mk=[63]∨fl=131072/\pre=AW/\mk=[]∨fl=135168/\pre=AW/\mk=[63])/\aY w=(pre++n.w)++mk:=by
 induction a with
 |gh=>exact cJ _ _ (.inl ⟨J,J,J⟩) J
 |i=>exact cJ _ _ (.inr<|.inl ⟨J,J,J⟩)<|by rfl
 |ro=>exact cJ _ _ (.inr<|.inr<|.inl ⟨J,J,J⟩) J
 |j=>exact cJ _ _ (.inr<|.inr<|.inr ⟨J,J,J⟩) (by show fN++([32]++(n.w++([63]++[])))=_;rfl)
section
variable{M N:Nat}{f:Fn}{as:List V}{s j i:List Nat}{x y z:W}{B v u:List W}{P:T->List Nat->Prop}{k:T}{ks:List T}
theorem wx(e:j=s)(h:s.length<=dg->Wr N f as s)(a:N<=M)(b:j.length<=dg):Wr M f as j:=by
 subst e;exact(h b).au a
theorem rB:aY (x::(B++[y]))=(x.w++aY B)++(y.w++[]):=by rw[f2,gO,b6];rfl
theorem rS:aY (B++x::y::v)=(aY B++(x.w++y.w))++aY v:=by rw[gO,f2,f2,b6,b6]
theorem CV:aY (B++x::y::z::v)=(aY B++(x.w++(y.w++z.w)))++aY v:=by rw[gO,f2,f2,f2,b6,b6,b6]
theorem wr(e:aY u=(aY B++i)++aY v)(d:(aY B).length<=dg->P k (aY B))(h2:(aY v).length<=dg->∃a,A2 P ks a/\aY v=dJ i a)(g:ks≠[])(b:(aY u).length<=dg):∃a,A2 P (k::ks) a/\aY u=dJ i a:=by
 rw[e] at b⊢;exact dn λh=>aB (h2<|dE b) λa c e2=>h<|aD (aY B::a) (.cons (d<|cr<|cr b) c)<|by rw[e2,Vm (c.i g)]
theorem y2(h:P k s):∃a,A2 P [k] a/\s=dJ i a:=aD [s] (.cons h .nil) J
end
noncomputable def Vn(c:gw)(ks:List T):Prop:=match c with
 |.nN=>ks≠[]
 |.nM=>ks≠[]
 |.j=>ks≠[]
 |_=>True
theorem t9{m i:Nat}{ks:List T}{B:List W}(h:K b m i c ks B):Vn c ks:=by
 induction h with
 |iE|h9|iF|ia|ms1|gB|iJ|iK=>exact ac9 _ _
 |_=>exact dr
theorem Vo{i:Nat}{ks:List T}{B:List W}(h:K C 0 i c ks B):(aY B).length<=dg->Ji i c ks B:=by
 have L:∀{x y:List Nat},x=y->x.length<=dg->y.length<=dg:=λe h=>e▸h
 induction h with
 | @i9 i a h=>exactλG=>fy (by rw[show aY [nm a]=a from cM a];exact I8.au<|hG ..)
 |ae h=>exactλG=>fy (by rw[Jj h];exact I9.au<|hG ..)
 | @ja i a ks B h t H d=>
  intro b;have e:aY (d6 a++sg [60]::(B++[sg [62]]))=((a++[60])++aY B)++[62]:=by rw[gO,rB,Jj h,<-b6,<-b6 a];rfl
  have b:=L e b;exact(d<|dE<|cr b).elim λS Z=>fy (by
   rw[Z.2] at b e;rw[e];exact(Vb Z.1 H.1 b).au<|d7 _ 6)
 | @gN i k B t d=>exactλb=>fy<|wx rB (λb=>Vc (d (dE<|cr b) k J) b) (d7 _ 7) b
 |jD=>exactλG=>fy (Vg.au (hG ..):Wx _ _ _)
 | @gk i ks B t _ d=>
  intro b;have e:aY (sg [123]::sp::(B++[sp,sg [125]]))=([123,32]++aY B)++[32,125]:=by rw[f2,f2,gO];rfl
  have b:=L e b;exact(d<|dE<|cr b).elim λS Z=>fy (by
   rw[Z.2] at b e;rw[e];exact(Ja Z.1 (t9 t) b).au<|by simp+arith only)
 | @gi i k B t d=>exactλb=>fy<|wx (gO ..) (λb=>Vd (d (cr b) k J) b) (by simp+arith only) b
 | @aa i k k' B m R h2 g l=>
  exactλb=>fy<|wx CV (λb=>Vf (.cons (g (cr<|cr b) k J)<|.cons (l (dE b) k' J) .nil) b) (by simp+arith only) b
 | @un i k ks B m R h2 Q g l=>
  exactλb=>(wr CV (λb=>g b k J) l (t9 h2) b).elim λS h=>fy<|wx h.2 (λb=>Ve h.1 b) (by simp+arith only) b
 | @fn i w fl o p r B m A E R h2 Q g l X=>
  intro b;have e:aY (w++(B++(m++sp::sg fB::sp::A)))=aY w++((aY B++aY m)++([32,61,62,32]++aY A)):=by rw[gO,gO,gO,f2,f2,f2,b6 (aY B)];rfl
  have b:=L e b;have F:=dE b;refine dn λkk=>cU (l<|dE<|cr F) λps S ep Y e2=>?_
  cases ep
  refine kk ?_;rw[e2] at b F e;have s:=CT (a:=[]) (fl:=fl) (q:=0) (g<|cr<|cr F) (Y.u λG G z=>z.au<|et _) (.some<|(X (dE<|dE F) r J).au<|et _) F;exact fy<|wx e (Vk (E.elim (λh=>.inl ⟨h.2,h.1▸J⟩) λh=>.inr ⟨h.2,h.1▸J⟩) s) (by simp+arith only)<|e▸b
 | @iD i j k B hb t d=>
  intro b;have hb:=hb.resolve_left λe=>bc e;have hg:=I7 j (d b k J) (by rw[hb];exact b);rw[hb] at hg;exact fy hg
 | @jb i j k B hb t d=>
  exactλb=>fy<|wx rB (λb=>by
   have hg:=I7 j (d (dE<|cr b) k J) (by rw[hb];exact b);rw[hb] at hg;exact hg) (bF _) b
 | @iE i k B t d=>exactλb=>y2<|d b k J
 | @h9 i k ks B m R h2 g l=>exact wr CV (λb=>g b k J) l<|t9 h2
 | @iF i k B t d=>exactλb=>y2<|d b k J
 | @ia i k ks B m R h2 g l=>exact wr rS (λb=>g b k J) l<|t9 h2
 |i=>exactλG=>.none
 | @iG i a h=>
  intro b;have e:aY [sg [60],nm fc,sp,nm a,sg [62]]=([60]++dJ kT [((AU++a)++[])++[]])++[62]:=by show 60::(AU++(a++[62]))=60::((((AU++a)++[])++[])++[62]);rw[cM,cM,b6]
  have b:=L e b;show OL _ _ (aY _);rw[e];exact .some<|.cons ((y1 (.inr<|.inr<|.inl ⟨J,J⟩) (.none (N:=0)) .none<|dE<|cr b).au<|by simp+arith only) .nil
 | @ib i a k B h t d=>
  intro b;have e:aY (sg [60]::nm a::sp::wd iS::sp::(B++[sg [62]]))=([60]++dJ kT [(([]++a)++(uZ++aY B))++[]])++[62]:=by
   rw[f2,f2,f2,f2,f2,gO];show 60::(a++(uZ++(aY B++[62])))=60::(((a++(uZ++aY B))++[])++[62]);rw[cM,b6,b6]
  have b:=L e b;have Q:=dE<|cr b;show OL _ _ (aY _);rw[e];exact .some<|.cons ((y1 (.inl ⟨J,J⟩) (.some<|d (dE<|dE<|cr Q) k J) .none Q).au<|by simp+arith only) .nil
 | @ic i a k B h t d=>
  intro b;have e:aY (sg [60]::wd f5::sp::nm a::sg [44]::sp::wd f5::sp::nm fc::sp::nm fc::sp::wd iS::sp::nm [84]::sp::sg [61]::sp::(B++[sg [62]]))=([60]++dJ kT [((AT++a)++[])++[],((Oz++fc)++(uZ++[84]))++([32,61,32]++aY B)])++[62]:=by
   show 60::(AT++(a++([44,32,105,110,32,111,117,116,32,111,117,116,32,101,120,116,101,110,100,115,32,84,32,61,32]++aY (B++[sg [62]]))))=60::((((((AT++a)++[])++[])++kT)++([105,110,32,111,117,116,32,111,117,116,32,101,120,116,101,110,100,115,32,84,32,61,32]++aY B))++[62]);rw[gO,cM,cM,b6,b6,b6];rfl
  have b:=L e b;have Q:=dE<|cr b;show OL _ _ (aY _);rw[e];exact .some<|.cons ((y1 (.inr<|.inl ⟨J,J⟩) (.none (N:=0)) .none<|cr<|cr Q).au<|by simp+arith only)<|.cons ((y1 (N:=8*i+2) (.inr<|.inr<|.inr ⟨J,J⟩) (.some<|I9.au<|hG ..) (.some<|d (dE<|dE<|dE Q) k J)<|dE Q).au<|by simp+arith only) .nil
 | @jE i a fl w E=>exact(Jk E).elim λpre h=>h.elim λmk h b=>fy<|wx (h.2.trans (cM _).symm) (λb=>Jf h.1 (.none (N:=0)) b) (by simp+arith only) b
 | @jc i a fl k w B E t d=>exact(Jk E).elim λpre h=>h.elim λmk h b=>fy<|wx (by rw[gO,h.2];rfl) (λb=>Jf h.1 (.some<|d (dE<|dE b) k J) b) (d7 _ 0) b
 |j=>exactλG=>aD [] .nil J
 | @jd i a lax p B hp R h2 d=>exactλb=>y2<|d b p J
 | @iH i a lax p q ks B m hp R h2 Q t g l=>exact wr rS (λb=>g b p J) l (λe=>ju e)
 | @ps i ks B t _ d=>
  exactλb=>have e:=rB
   (d<|dE<|cr<|L e b).elim λS h=>cK ks S J h.1<|h.2▸e
 | @ef i k B t d=>exactλb=>fy<|(d b k J).au<|et _
 | @je i k B t d=>exactλb=>fy<|Jb (d (dE (a:=[120,32,105,115,32]) b) k J) b
 |q=>exactλb=>fy ((Vh b).au (by simp+arith only):Wx _ _ _)
 | @jf i k B t d=>exactλb=>fy<|Vi (d (dE (a:=[97,115,115,101,114,116,115,32,116,104,105,115,32,105,115,32]) b) k J) b
 | @jg i k B t d=>exactλb=>fy<|Jb (d (dE (a:=[97,115,115,101,114,116,115,32,105,115,32]) b) k J) b
 | @ie i a fl o p B m R h2 g l=>
  intro b;have e:aY (B++m)=(aY B++aY m)++[]:=by rw[gO,cM]
  have b:=L e b;refine dn λkk=>cU (l<|dE<|cr b) λps S ep Y e2=>?_
  cases ep
  rw[e2] at b e;exact kk<|fy<|e▸CT (g<|cr<|cr b) (Y.u λG G z=>z.au<|et _) .none b
 | @g3 i a fl o p r B m A R h2 Q g l X=>
  intro b;have e:aY (B++(m++sg [58]::sp::A))=(aY B++aY m)++(kz++aY A):=by rw[gO,gO,f2,f2,b6];rfl
  have b:=L e b;refine dn λkk=>cU (l<|dE<|cr b) λps S ep Y e2=>?_
  cases ep
  rw[e2] at b e;exact kk<|fy<|e▸CT (g<|cr<|cr b) (Y.u λG G z=>z.au<|et _) (.some<|(X (dE<|dE b) r J).au<|et _) b
 | @iI i n w fl H E=>exact(Jl E).elim λpre h=>h.elim λmk h b=>fy<|wx (h.2.trans (cM _).symm) (λb=>Jg h.1 (CU H) .none b) (by simp+arith only) b
 | @ig i n w fl k B H E t d=>exact(Jl E).elim λpre h=>h.elim λmk h b=>fy<|wx (by rw[gO,h.2];rfl) (λb=>Jg h.1 ((CU H).au<|hG ..) (.some<|(d (dE<|dE b) k J).au ((by simp+arith only):_<=8*i+5+1)) b) (d7 _ 0) b
 | @g4 i n w fl ks B H E hf t d=>
  intro b;rw[gO] at b;have s:=d (dE b) _ J;have hq:fl+32=32/\aY w=n.w++[]∨fl+32=4128/\aY w=n.w++[63]:=by
   rcases hf with rfl|rfl
   ·cases E;exact .inl ⟨rfl,rfl⟩
   ·cases E;exact .inr ⟨rfl,rfl⟩
  have hm:n.x=bH/\n.w=fO∨n.x≠bH/\Wr (8*i+6) 997 [.ah n.x] n.w:=by
   rcases H with H|rfl
   ·refine .inr ⟨?_,(CU<|.inl H).au<|hG ..⟩;have:∀n∈dY,n.x≠bH:=by decide
    exact this n H
   ·exact .inl ⟨rfl,rfl⟩
  refine fy ?_;rw[gO]
  rcases hq with⟨e1,e2⟩|⟨e1,e2⟩<;>rw[e2] at b⊢
  ·exact(Je (.inl ⟨e1,rfl⟩) hm s b)
  ·exact(Je (.inr ⟨e1,J⟩) hm s b)
 | @ii i ks B t d=>exactλb=>fy<|Jc (.inl ⟨J,J⟩) (d b _ J) b
 | @ij i ks B t d=>exactλb=>fy<|Jc (s:=aY B) (.inr ⟨J,J⟩) (d (dE (a:=AV) b) _ J) b
 | @ik i w fl a k B E Y t d=>
  intro b;have key:∀pre,(fl=0/\pre=[91]∨fl=131072/\pre=OA)->aY (w++[sg [91]])=pre->Ji i .i [.nd 63 a [O (c6 80 kS 0),O k] fl 0] (w++sg [91]::nm a::sg [58]::sp::nm kS::sg [93]::sg [58]::sp::B):=λpre hf e1=>by
   have e:aY (w++sg [91]::nm a::sg [58]::sp::nm kS::sg [93]::sg [58]::sp::B)=((((pre++a)++kz)++kS)++[93,58,32])++aY B:=by
    rw[kP,gO,e1,b6,b6,b6,b6];rfl
   have b:=L e b;exact fy (by rw[e];exact(Vj hf (I8.au<|by simp+arith only) (d (dE b) k J) b).au<|by simp+arith only)
  rcases E with⟨rfl,rfl⟩|⟨rfl,rfl⟩
  ·exact key _ (.inl ⟨rfl,rfl⟩) rfl
  ·exact key _ (.inr ⟨J,J⟩) J
 | @ms1 i k B t d=>exactλb=>y2<|d b k J
 | @gB i k ks B m hm R h2 g l=>exact wr rS (λb=>g b k J) l<|t9 h2
 |iJ hm=>exact ax hm (λe=>ax e<|D J)
 |iK hm=>exact ax hm λe=>ax e<|D J
noncomputable def kI:List Nat:=AX
noncomputable def y3:List Nat:=[48,49,50,51,52,53,54,55,56,57]
noncomputable def wt:List (List Nat):=[iS,xT,xU,f5,bH,eV]
class inductive j6:List Nat->List Nat->Prop where
 |nil:j6 [] []
 |gh {c e x}:c≠34->c≠92->j6 e x->j6 (c::e) (c::x)
 |Jm {e x}:j6 e x->j6 (92::120::48::50::e) (2::x)
 |nl {e x}:j6 e x->j6 (92::110::e) (10::x)
 |wu {c e x}:c≠120->c≠110->j6 e x->j6 (92::c::e) (c::x)
inductive jH:W->Prop where
 |sp:jH sp
 |i {k c r}:k=1∨k=2->y3.contains c=false->(c::r).all kI.contains=true->wt.contains (c::r)=decide (k=2)->jH ⟨k,c::r,c::r,false,false⟩
 |kA {x}:x=[48]∨x=[52,50]->jH (nu x)
 |ah {e x}:j6 e x->jH (st x (34::(e++[34])))
 |sg {c o}:kI.contains c=false->c≠32->c≠34->jH ⟨5,[c],[c],false,o⟩
 |dots:jH (sg [46,46,46])
 |j:jH (sg [61,62])
noncomputable def Jn(w:W):Prop:=w.k=1∨w.k=2∨w.k=3
noncomputable def lg(s:List Nat):Prop:=∀c∈s.head?,kI.contains c=C
noncomputable def Lx:List W->Prop
 |[]=>True
 |w::r=>jH w/\(Jn w->lg (aY r))/\(w.x=[46]->r≠[]/\∀c∈(aY r).head?,c≠46)/\(w.x=[61]->r≠[]/\∀c∈(aY r).head?,c≠62)/\Lx r
theorem Jo{w:W}(h:jH w):w.w≠[]:=by
 induction h with
 |kA h=>rcases h with rfl|rfl<;>nofun
 |_=>nofun
theorem Vp:∀{r:List W},Lx r->r≠[]->∃c t,aY r=c::t
 |w::r,h,_=>by
  rw[f2]
  cases e:w.w with
  |nil=>exact ax e<|Jo h.1
  |cons c t=>exact gH c (t++aY r) J
theorem Lx.j(hb:Lx b)(hs:lg<|aY b):∀{a:List W},Lx a->Lx (a++b):=by
 intro r
 induction r with
 |nil=>
  intro j;exact hb
 |cons w r f=>
  intro g;obtain⟨h,h2,i,h4,d⟩:=g;have hd:r≠[]->(aY<|r++b).head? =(aY r).head? :=λhr=>by
   refine jV (Vp d hr) λc t e=>?_;rw[gO,e];rfl
  refine⟨h,λq=>?_,λq=>?_,λq=>?_,f d⟩
  ·induction r using aW with
   |nil=>exact hs
   |cons v r=>show∀c∈(aY<|v::r++b).head?,kI.contains c=C;rw[hd ju];exact h2 q
  ·obtain⟨x,y⟩:=i q;exact⟨λz=>x (xz.mp z).1,by show∀c∈(aY<|r++b).head?,c≠46;rw[hd x];exact y⟩
  ·obtain⟨x,y⟩:=h4 q;exact⟨λz=>x (xz.mp z).1,by show∀c∈(aY<|r++b).head?,c≠62;rw[hd x];exact y⟩
theorem Lx.sg(h:(!kI.contains c&&(c !=32&&(c !=34&&(c !=46&&c !=61))))=I)(hr:Lx r):Lx (⟨5,[c],[c],C,o⟩::r):=by
 simp only[ol,Ae,bne_iff_ne] at h;refine dn λa=>OE h λb h2 d h4 e=>a<|⟨.sg b h2 d,λq=>?_,λq=>ax (mV q).1 h4,λq=>ax (mV q).1 e,hr⟩
 rcases q with q|q|q<;>exact ax q<|show¬(5:Int)=_ by decide
theorem Lx.sp(hr:Lx r):Lx (sp::r):=⟨.sp,λq=>by rcases q with q|q|q<;>exact ax q (show¬(9:Int)=_ by decide),λq=>ax q (show¬[32]=[46] by decide),λq=>ax q (show¬[32]=[61] by decide),hr⟩
theorem Lx.wd{w:W}(h:jH w)(a:w.x≠[46])(h2:w.x≠[61])(hs:lg<|aY r)(hr:Lx r):Lx (w::r):=⟨h,λb=>hs,λq=>ax q a,λq=>ax q h2,hr⟩
section
variable{m n:Nat}{X:R (Fl×Lc)->Prop}{i:Cf}{K:List Kf}{l:Lc}{H j:Hp}{pre t r s:List Nat}{c:Nat}
theorem kJ(e:go i=.v v (.rD u a::K) l H)(h:lI u a v H=.ok w H')(q:Jd X m<|.v w K l H'):Jd X m i:=
 bv e (bf (c':=.v w K l H') (by show(lI u a v H).i _=_;rw[h];rfl) q)
theorem jI:f9 (.ah<|pre++c::t) (.aa pre.length) H=.ok (.ah [c]) H:=by
 have e:fR (pre.length:Int) (pre++c::t).length=O pre.length:=by
  unfold fR;rw[aN (qa _),aN (uI.mpr (by rw[bx,gS];exact by simp+arith only))];rfl
 show cG ((fR (pre.length:Int) (pre++c::t).length).bind λj=>((pre++c::t)[j]?).map λc=>V.ah [c]) H=_;rw[e];show cG (((pre++c::t)[pre.length]?).map λc=>V.ah [c]) H=_;rw[qY (bF _),p9];rfl
theorem CW:decide ((pre.length:Int)<((pre++c::t).length:Nat))=true:=dH (by rw[bx,gS];lia)
theorem nV{d:Nat}:lI (.ah<|pre++t) (.aa pre.length) (.aa ((pre.length+d:Nat):Int)) H=.ok (.ah<|t.take d) H:=by
 refine(aN ⟨d7 ..,by rw[bx];exact d7 ..⟩:(if pre.length<=pre.length+d/\pre.length<=(pre++t).length then R.ok (V.ah<|((pre++t).take<|pre.length+d).drop pre.length) H else .j)=_).trans ?_;rw[List.take_append,ade (d7 ..),M9,List.drop_append_of_le_length (bF _),Np];rfl
noncomputable def Jp:E:=.bN (.b9 .lt (.l 2)<|.bi .bK [.l 0])<|.b9 .i (.y (.l 0)<|.l 2)<|.c<|.ah kI
noncomputable def Jq:List S:=[.db 2 .i (.c<|.aa 1)]
noncomputable abbrev gm(s:List Nat)(a b:Nat)(d e f g:Option V):Lc:=[O (.ah s),O (.ae a),O (.aa b),d,e,f,g]
theorem y4:ga .bK [.ah s] H=.ok (.aa s.length) H:=rfl
theorem Vq{R:List S}{l3 g l5 i:Option V}(hs:lg t):∀(r:List Nat) (n:Nat) (pre:List Nat),s=pre++(r++t)->r.all kI.contains=I->r.length<n->Jd X m (.s R K (gm s a (pre.length+r.length) l3 g l5 i) H)->Jd X m (.lp n Jp Jq R K (gm s a pre.length l3 g l5 i) H):=by
 intro r
 induction r with
 |nil=>
  intro n pre e b b q
  induction n using fW with
  |zero=>exact ax ‹_+1<=0› (kQ _)
  |succ n=>
  refine i5<|fF J y4 ?_
  induction t using aW with
  |nil=>exact eg J (λz=>ax (D z) (by rw[e];simp)) λb=>gA J bc λb=>q
  |cons d t=>
   subst e;exact eg (b:=decide ((pre.length:Int)<((pre++d::t).length:Nat))) J (λb=>b5 J jI<|gA J (λz=>ax (z.symm.trans<|hs d J) c5) λb=>q) λz=>ax (CW.symm.trans z) c5
 |cons c r f=>
  intro n pre e h j q
  induction n using fW with
  |zero=>exact ax ‹_+1<=0› (kQ _)
  |succ n=>
  obtain⟨hc,hr⟩:=ec.mp h;have f:=f n (pre++[c]) (e.trans<|kP ..) hr (Nq j) (by
   rw[bx,kn,km [c].length];exact q)
  rw[bx] at f;clear q;subst e;exact i5<|fF J y4<|eg J (λb=>b5 J jI<|gA J (λb=>fS J J<|bv J f) λz=>ax (hc.symm.trans z) c5) λz=>ax (CW.symm.trans z) c5
noncomputable def j7:E:=.b9 .lt (.l 2)<|.bi .bK [.l 0]
noncomputable def CX:List S:=[.gJ Jp Jq,.i 5 (.slc (.l 0) (.l 3)<|.l 2),.bQ (.b9 .i (.l 4)<|.c<|.ah y3) [.ex (.aO (.l 1) .q [.ce .j [.c (.aa 3),.l 5,.bi .aa [.l 5],.l 3,.l 2,.c (.i C)]])] [.ex (.aO (.l 1) .q [.ce .j [.bz (.b9 .i (.l 5)<|.c<|.u [.ah iS,.ah xT,.ah xU,.ah f5,.ah bH,.ah eV]) (.c<|.aa 2) (.c<|.aa 1),.l 5,.c (.aa 0),.l 3,.l 2,.c (.i C)]])]]
noncomputable def y5:E:=.b9 .ne (.y (.l 0)<|.l 2)<|.c<|.ah [34]
noncomputable def y6:List S:=[.bQ (.b9 .eq (.y (.l 0)<|.l 2)<|.c<|.ah [92]) [.db 2 .i (.c<|.aa 1),.bQ (.b9 .eq (.slc (.l 0) (.l 2)<|.bI .i (.l 2)<|.c<|.aa 3)<|.c<|.ah [120,48,50]) [.db 6 .i (.c<|.ah [2]),.db 2 .i (.c<|.aa 3)] [.db 6 .i (.bz (.b9 .eq (.y (.l 0)<|.l 2)<|.c<|.ah [110]) (.c<|.ah [10])<|.y (.l 0)<|.l 2),.db 2 .i (.c<|.aa 1)]] [.db 6 .i (.y (.l 0)<|.l 2),.db 2 .i (.c<|.aa 1)]]
noncomputable def Jr:List S:=[.i 6 (.c<|.ah []),.gJ y5 y6,.db 2 .i (.c<|.aa 1),.ex (.aO (.l 1) .q [.ce .j [.c (.aa 4),.l 6,.c (.aa 0),.l 3,.l 2,.c (.i C)]])]
noncomputable def Vr:List S:=[.bQ (.b9 .eq (.slc (.l 0) (.l 3)<|.bI .i (.l 3)<|.c<|.aa 3)<|.c<|.ah hN) [.i 2 (.bI .i (.l 3)<|.c<|.aa 3)] [.bQ (.b9 .eq (.slc (.l 0) (.l 3)<|.bI .i (.l 3)<|.c<|.aa 2)<|.c<|.ah fB) [.i 2 (.bI .i (.l 3)<|.c<|.aa 2)] []],.ex (.aO (.l 1) .q [.ce .j [.c (.aa 5),.slc (.l 0) (.l 3) (.l 2),.c (.aa 0),.l 3,.l 2,.c (.i C)]])]
noncomputable def jJ:List S:=[.i 3 (.l 2),.i 4 (.y (.l 0)<|.l 2),.db 2 .i (.c<|.aa 1),.bQ (.b9 .eq (.l 4)<|.c<|.ah [32]) [.q] [],.bQ (.b9 .i (.l 4)<|.c<|.ah kI) CX [.bQ (.b9 .eq (.l 4)<|.c<|.ah [34]) Jr Vr]]
noncomputable def jK:List S:=[.ex (.aO (.l 1) .q [.ce .j [.c (.aa 0),.c (.ah []),.c (.aa 0),.l 2,.l 2,.c (.i C)]]),.am (.l 1)]
theorem pM{a:List aj}{tok:aj}{i:Cf}{R:List S}{l:Lc}(e:go i=.v v (.ce .j b []:: .hV (.ae j.length) .q [] []:: .ex R::K) l (j++[.af (a.map aj.v)]))(h:b++[v]=[.aa tok.aq,.ah tok.aP,.aa tok.kA,.aa tok.aJ,.aa tok.jv,.i tok.cC])(d:a.length<bg)(q:Jd X m<|.s R K l<|j++[.af ((a++[tok]).map aj.v)]):Jd X m i:=
 lP e (by rw[h];rfl) (i6 (c:=.v tok.v (.hV (.ae j.length) .q [] []:: .ex R::K) l<|j++[.af (a.map aj.v)]) J cD (by rw[c3];exact d)<|bf (by rw[iA,dz];rfl) q)
end
section
variable{m n:Nat}{X:R (Fl×Lc)->Prop}{q:Cf}{K:List Kf}{l:Lc}{H i:Hp}{pre t r s:List Nat}{c:Nat}{j:List aj}{B F y u:Option V}
theorem qH{a b:Nat}{x y:List Nat}(h:a≠b):decide ((a::x)=(b::y))=false:=dO λz=>h (mV z).1
noncomputable abbrev Hz(i:Hp)(j:List aj):Hp:=i++[.af (j.map aj.v)]
theorem ub(q:Jd X m<|.s (jJ.drop 3) [.lN n j7 jJ jK] (gm (pre++c::t) i.length (pre.length+1) (O<|.aa pre.length) (O<|.ah [c]) y u)<|Hz i j):Jd X m (.lp (n+1) j7 jJ jK [] (gm (pre++c::t) i.length pre.length B F y u)<|Hz i j):=
 i5 (fF J y4<|gA J (λa=>b5 J jI<|fS J J<|bf J q) λz=>ax (CW.symm.trans z) c5)
noncomputable abbrev Nx(X:R (Fl×Lc)->Prop)(m n:Nat)(s:List Nat)(i:Hp)(a:Nat)(j:List aj):Prop:=∀B F y u,Jd X m (.lp n j7 jJ jK [] (gm s i.length a B F y u)<|Hz i j)
theorem Vs(q:Nx X m n (pre++32::t) i (pre.length+1) j):Jd X m (.lp (n+1) j7 jJ jK [] (gm (pre++32::t) i.length pre.length B F y u)<|Hz i j):=
 ub (cy J J<|bv J<|q ..)
theorem Vt(x:List Nat):vn (.ah x) (.u [.ah iS,.ah xT,.ah xU,.ah f5,.ah bH,.ah eV])=O (wt.contains x):=by
 have f:∀a:List (List Nat),rC (.ah x) (a.map V.ah)=O (a.contains x):=λa=>by
  induction a with
  |nil=>rfl
  |cons w r d=>
   show acY (O<|decide (w=x)) (λb=>(rC (.ah x)<|r.map V.ah).map (b||·))=_;rw[d,nB,Ag,yn];rfl
 exact f wt
theorem CY{w:List Nat}(d:w=c::r)(f:w.all kI.contains=true)(a:c≠32)(hs:lg t)(q:∀u,Jd X m<|.s (CX.drop 2) [.j [],.lN n j7 jJ jK] (gm (pre++(w++t)) i.length (pre.length+w.length) (some<|.aa pre.length) (some<|.ah [c]) (some<|.ah w) u)<|Hz i j)(g:r.length<hT):
  Jd X m (.lp (n+1) j7 jJ jK [] (gm (pre++(w++t)) i.length pre.length B F y u)<|Hz i j):=by
 subst d;obtain⟨hc,hr⟩:=ec.mp<|f;have e:(pre++[c]).length+r.length=pre.length+(c::r).length:=by simp only[bx,gS,lj];exact by simp+arith only
 have sc:=Vq (s:=pre++(c::r++t)) (R:=CX.drop 1) (l3:=some<|.aa pre.length) (l5:=y) hs r hT (pre++[c]) (kP ..) hr g (by
  rw[e];have b:=nV (H:=Hz i j) (pre:=pre) (t:=c::r++t) (d:=(c::r).length);rw[List.take_left] at b;exact kJ rfl b<|bf rfl<|q u)
 rw[bx] at sc;exact ub<|bh rfl (qH a)<|cy rfl hc<|bv rfl sc
theorem Vu{k:Int}(f:k=1∨k=2)(hd:y3.contains c=C)(g:(c::r).all kI.contains=I)(d:wt.contains (c::r)=decide (k=2))(a:c≠32)(hs:lg t)(h:r.length<hT)(e:j.length<bg)
  (q:Nx X m n (pre++(c::r++t)) i (pre.length+(c::r).length)<|j++[⟨k,c::r,0,pre.length,(pre.length+(c::r).length:Nat),C⟩]):Jd X m (.lp (n+1) j7 jJ jK [] (gm (pre++(c::r++t)) i.length pre.length B F y u)<|Hz i j):=by
 have hb:=cS<|Vt<|c::r;refine CY J g a hs (λu=>bh J hd<|f1 J cD<|j1 J (λz=>?_) λz=>?_) h
 ·refine dn λb=>?_;obtain rfl:k=2:=D<|d▸hb▸z;exact b<|pM J J e<|bv J<|q ..
 ·refine dn λb=>?_;obtain rfl:k=1:=f.resolve_right<|jt<|d▸hb▸z;exact b<|pM J J e<|bv J<|q ..
theorem Vv{x:List Nat}(b:x=[48]∨x=[52,50])(hs:lg t)(a:j.length<bg)
  (q:∀k,Nx X m n (pre++(x++t)) i (pre.length+x.length)<|j++[⟨3,x,k,pre.length,(pre.length+x.length:Nat),C⟩]):Jd X m (.lp (n+1) j7 jJ jK [] (gm (pre++(x++t)) i.length pre.length B F y u)<|Hz i j):=by
 rcases b with rfl|rfl
 ·exact CY rfl rfl (D rfl) hs (λu=>cy rfl rfl<|f1 rfl cD<|fF rfl rfl<|pM rfl rfl a<|bv rfl<|q 0 ..)<|D J
 ·exact CY J J (D J) hs (λu=>cy J J<|f1 J cD<|fF J J<|pM J J a<|bv J<|q 42 ..)<|D J
end
section
variable{m n:Nat}{X:R (Fl×Lc)->Prop}{q:Cf}{K:List Kf}{l:Lc}{H i:Hp}{pre t r s:List Nat}{c:Nat}{j:List aj}{l3 l4 l5 u:Option V}
theorem Vw{x:List Nat}(h:c≠34):(!decide ([c]=[34]))=true:=by rw[qH h];rfl
theorem nS{P:Nat->List Nat->List Nat->Prop}(f:∀n a c,k<n+1->P (n+1) a c):∀n a c,k<n->P n a c:=λn=>n.casesOn (λa c h=>ax h<|Nb _) f
theorem Vx{R:List S}{a:Nat}{e x:List Nat}(h:j6 e x):∀(n:Nat) (pre b:List Nat),e.length<n->(b++x).length<=dg->Jd X m (.s R K (gm (pre++(e++34::t)) a (pre.length+e.length) l3 l4 l5 (some (.ah (b++x)))) H)->Jd X m (.lp n y5 y6 R K (gm (pre++(e++34::t)) a pre.length l3 l4 l5 (some (.ah b))) H):=by
 have j:∀{d:Nat} {e x:List Nat} {n:Nat} {pre b pf:List Nat},(∀pre b,(b++x).length<=dg->Jd X m (.s R K (gm (pre++(e++34::t)) a (pre.length+e.length) l3 l4 l5 (some (.ah (b++x)))) H)->Jd X m (.lp n y5 y6 R K (gm (pre++(e++34::t)) a pre.length l3 l4 l5 (some (.ah b))) H))->(b++(d::x)).length<=dg->
   Jd X m (.s R K (gm (pre++((pf++e)++34::t)) a (pre.length+(pf++e).length) l3 l4 l5 (some (.ah (b++(d::x))))) H)->Jd X m (.lp n y5 y6 R K (gm (pre++((pf++e)++34::t)) a (pre.length+pf.length) l3 l4 l5 (some (.ah (b++[d])))) H):=λ{d e x n pre b pf} o f q=>by
  have e1:pre++((pf++e)++34::t)=(pre++pf)++(e++34::t):=by simp only[b6]
  rw[e1] at q⊢
  rw[(kP .. :b++(d::x)=(b++[d])++x)] at q f
  rw[bx,<-kn] at q
  have:=o (pre++pf) (b++[d])
  rw[bx (as:=pre)] at this
  exact this f q
 induction h with
 |nil=>exact nS λn pre b _ _ q=>i5 (b5 rfl jI (gA rfl bc λv=>by rw[cM] at q;exact q))
 | @gh c e x y h2 A o=>exact nS λn pre b i f q=>i5 (b5 rfl jI (gA rfl (λv=>b5 rfl jI (bh rfl (qH h2) (b5 rfl jI (fS rfl (r8 (cr (by rw[<-kP];exact f))) (fS rfl rfl (bv rfl (j (pf:=[c]) (λp k=>o n p k (Nq i)) f q))))))) λz=>absurd ((Vw (x:=[]) y).symm.trans z) c5))
 | @Jm e x A o=>
  exact nS λn pre b i f q=>by
   have u:=nV (H:=H) (pre:=pre++[92]) (t:=120::48::50::(e++34::t)) (d:=3)
   rw[<-kP,bx] at u
   refine i5 (b5 rfl jI (gA rfl (λv=>b5 rfl jI (cy rfl rfl (fS rfl rfl (kJ rfl u (cy rfl rfl (fS rfl (r8 (cr (by rw[<-kP];exact f))) (fS rfl rfl (bv rfl (j (pf:=[92,120,48,50]) (λp k=>o n p k ?_) f q))))))))) c5))
   simp only[gS] at i;exact L1 i
 | @nl e x A o=>
  exact nS λn pre b i f q=>by
   have u:=nV (H:=H) (pre:=pre++[92]) (t:=110::(e++34::t)) (d:=3)
   have g:=jI (H:=H) (pre:=pre++[92]) (c:=110) (t:=e++34::t)
   rw[<-kP,bx] at u g
   refine i5 (b5 rfl jI (gA rfl (λv=>b5 rfl jI (cy rfl rfl (fS rfl rfl (kJ rfl u (bh rfl (qH (by decide)) (b5 rfl g (j1 rfl (λv=>fS rfl (r8 (cr (by rw[<-kP];exact f))) (fS rfl rfl (bv rfl (j (pf:=[92,110]) (λp k=>o n p k ?_) f q)))) c5))))))) c5))
   simp only[gS] at i;exact L1 i
 | @wu c e x y h2 A o=>
  exact nS λn pre b i f q=>by
   have u:=nV (H:=H) (pre:=pre++[92]) (t:=c::(e++34::t)) (d:=3)
   have g:=jI (H:=H) (pre:=pre++[92]) (c:=c) (t:=e++34::t)
   rw[<-kP,bx] at u g
   refine i5 (b5 rfl jI (gA rfl (λv=>b5 rfl jI (cy rfl rfl (fS rfl rfl (kJ rfl u (bh rfl (qH y) (b5 rfl g (j1 rfl (λz=>absurd (of_decide_eq_true z) λw=>h2 (mV w).1) λv=>b5 rfl g (fS rfl (r8 (cr (by rw[<-kP];exact f))) (fS rfl rfl (bv rfl (j (pf:=[92,c]) (λp k=>o n p k ?_) f q))))))))))) c5))
   simp only[gS] at i;exact L1 i
theorem Vy{e x:List Nat}(h:j6 e x)(d:e.length<hT)(f:x.length<=dg)(g:j.length<bg)
  (q:Nx X m n (pre++(34::(e++[34])++t)) i (pre.length+(34::(e++[34])).length)<|j++[⟨4,x,0,pre.length,(pre.length+(34::(e++[34])).length:Nat),C⟩]):Jd X m (.lp (n+1) j7 jJ jK [] (gm (pre++(34::(e++[34])++t)) i.length pre.length l3 l4 l5 u)<|Hz i j):=by
 have a:pre++(34::(e++[34])++t)=(pre++[34])++(e++34::t):=by simp only[b6,kR,EX]
 have e1:(pre++[34]).length+e.length+1=pre.length+(34::(e++[34])).length:=by simp only[bx,gS,lj];exact by simp+arith only
 have b:=Vx (K:=[.j [],.j [],.lN n j7 jJ jK]) (R:=Jr.drop 2) (l3:=O<|.aa pre.length) (l4:=O<|.ah [34]) (l5:=l5) h hT (pre++[34]) [] d f<|fS J J<|f1 J cD<|pM (tok:=⟨4,x,0,pre.length,((pre++[34]).length+e.length+1:Nat),C⟩) J J g<|bv (c':=.lp n j7 jJ jK [] (gm ((pre++[34])++(e++34::t)) i.length ((pre++[34]).length+e.length+1) _ _ _ _) _) J (by rw[e1,<-a];exact q ..);rw[<-a,bx] at b;exact ub<|bh J J<|bh J J<|cy J J<|bv J b
theorem Vz(hc:kI.contains c=C)(a:c≠32)(b:c≠34)(hd:c=46->∀d∈t.head?,d≠46)(e:c=61->∀d∈t.head?,d≠62)(f:j.length<bg)
  (q:Nx X m n (pre++c::t) i (pre.length+1)<|j++[⟨5,[c],0,pre.length,(pre.length+1:Nat),C⟩]):Jd X m (.lp (n+1) j7 jJ jK [] (gm (pre++c::t) i.length pre.length l3 l4 l5 u)<|Hz i j):=by
 have n3:decide ((c::t).take 3=hN)=false:=dO λz=>by
  induction t using aW with
  |nil=>cases z
  |cons d t=>exact hd (mV z).1 d J (mV (mV z).2).1
 have n2:decide ((c::t).take 2=fB)=false:=dO λz=>by
  clear hd
  induction t using aW with
  |nil=>cases z
  |cons d t=>exact e (mV z).1 d J (mV (mV z).2).1
 exact ub<|bh J (qH a)<|bh J hc<|bh J (qH b)<|kJ J (nV)<|bh J n3<|kJ J (nV)<|bh J n2<|f1 J cD<|kJ J (nV)<|pM J J f<|bv J<|q ..
theorem VA(b:j.length<bg)(q:Nx X m n (pre++46::46::46::t) i (pre.length+3)<|j++[⟨5,hN,0,pre.length,(pre.length+3:Nat),C⟩]):Jd X m (.lp (n+1) j7 jJ jK [] (gm (pre++46::46::46::t) i.length pre.length l3 l4 l5 u)<|Hz i j):=by
 have a:=nV (H:=Hz i j) (pre:=pre) (t:=46::46::46::t) (d:=3);exact ub<|bh J J<|bh J J<|bh J J<|kJ J a<|cy J J<|f1 J cD<|kJ J a<|pM J J b<|bv J<|q ..
theorem VB(b:j.length<bg)(q:Nx X m n (pre++61::62::t) i (pre.length+2)<|j++[⟨5,fB,0,pre.length,(pre.length+2:Nat),C⟩]):Jd X m (.lp (n+1) j7 jJ jK [] (gm (pre++61::62::t) i.length pre.length l3 l4 l5 u)<|Hz i j):=by
 have a:=nV (H:=Hz i j) (pre:=pre) (t:=61::62::t) (d:=2);exact ub<|bh J J<|bh J J<|bh J J<|kJ J (nV)<|bh J (qH<|D J)<|kJ J a<|cy J J<|f1 J cD<|kJ J a<|pM J J b<|bv J<|q ..
end
noncomputable def Ps(q:Int):Int->List aj->Prop
 |_,[]=>True
 |p,t::r=>p<=t.aJ/\t.aJ<q/\Ps q (t.aJ+1) r
theorem Ps.nE{q p a:Int}(h:a<=p):∀{u:List aj},Ps q p u->Ps q a u:=by
 intro r
 induction r with
 |nil=>
  intro b;exact dr
 |cons t r c=>
  intro x;exact⟨EY h x.1,x.2⟩
theorem Ps.dW{q:Int}(u:List aj):∀{p:Int},Ps q p u->∀t∈u,p<=t.aJ/\t.aJ<q:=by
 induction u with
 |nil=>exactλa a h=>ax h eU
 |cons t r b=>
  intro p x s hs
  rcases d2.mp hs with rfl|hs
  ·exact⟨x.1,x.2.1⟩
  ·have:=b x.2.2 s hs;exact⟨EY x.1<|EY (Int.le_add_one<|Nm _) this.1,this.2⟩
theorem Ps.i{q:Int}(u:List aj):∀{p:Int},Ps q p u->(u.map aj.aJ).Nodup:=by
 induction u with
 |nil=>exactλb=>xB
 |cons t r a=>
  intro p x;refine iQ.mpr ⟨λh=>?_,a x.2.2⟩;exact aB (eh.mp h) λs hs e=>ax (Ps.dW r x.2.2 s hs).1<|EZ.mpr<|e▸Int.lt_succ _
section
variable{m:Nat}{X:R (Fl×Lc)->Prop}{j:Hp}{s:List Nat}
theorem VC:∀(F:List W) (pre:List Nat) (n:Nat) (d:List aj) (f g l p:Option V),Lx F->s=pre++aY F->s.length<=dg->(aY F).length<n->d.length<=pre.length->
  (∀u os f g l p,tk F u os->Ps s.length pre.length u->Jd X m (.s jK [] (gm s j.length s.length f g l p)<|Hz j<|d++u))->Jd X m (.lp n j7 jJ jK [] (gm s j.length pre.length f g l p)<|Hz j d):=by
 intro r
 induction r with
 |nil=>
  intro pre n d f g l p G e G G G q
  induction n using fW with
  |zero=>exact ax ‹_+1<=0› (kQ _)
  |succ n=>
  have e:=e.trans<|cM pre;subst e;have q:=q [] [] f g l p ⟨J,J⟩ dr;rw[cM] at q;exact i5<|fF J y4<|gA J (λz=>ax (D z)<|Int.lt_irrefl _) λG=>q
 |cons w r Z=>
  intro pre n d f g l p p8 e H K Q q;obtain⟨S,h2,h3,h4,h5⟩:=p8;rw[f2] at e K;have t:=List.length_pos_iff.mpr<|Jo S;rw[bx] at K;obtain⟨n,rfl⟩:∃k,n=k+1:=⟨n-1,by lia⟩;have y:s.length=pre.length+(w.w.length+(aY r).length):=by rw[e,bx,bx]
  have hb:d.length<bg:=jq (aE Q<|aE (L1<|b7 y.symm) H)<|D J;have A:∀{k:Nat},k<=w.w.length->k<hT:=λ{k} h=>jq (aE h<|aE (L1<|b7 y.symm) H)<|D J;have nx:∀B:List aj,B.length<=d.length+1->(∀u os,tk r u os->Ps s.length (pre++w.w).length u->∃v ov,d++v=B++u/\tk (w::r) v ov/\Ps s.length pre.length v)->Nx X m n (pre++(w.w++aY r)) j (pre.length+w.w.length) B:=λB hy hv f g l p=>by
   have:=Z (pre++w.w) n B f g l p h5 (e.trans (b6 ..).symm) H (L2 t K) (by rw[bx];exact L3 Q t hy) λu os f g l p ht hp=>by
    refine cU (hv u os ht hp) λv ov e1 e2 e3=>?_;rw[<-e1];exact q v ov f g l p e2 e3
   rw[bx,e] at this;exact this
  have a:∀k,decide (w.k=9)=C->w.l=C->Nx X m n (pre++(w.w++aY r)) j (pre.length+w.w.length) (d++[⟨w.k,w.x,k,pre.length,(pre.length+w.w.length:Nat),C⟩]):=λk b L=>nx _ (by rw[bx];exact bF _) λu os ht hp=>by
   refine⟨⟨w.k,w.x,k,pre.length,(pre.length+w.w.length:Nat),w.l⟩::u,if w.o then(pre.length:Int)::os else os,by rw[L];exact kP ..,?_,Nm _,by lia,hp.nE (by rw[bx];lia)⟩;rw[tk,a9 (jt b)];exact u8 _ _ _ _ _ J J ht
  subst e
  induction S with
  |sp=>exact Vs (nx d (et _) λu os ht hp=>cK u os J ht<|hp.nE (by rw[bx];lia))
  |i b hd E T=>exact Vu b hd E T (λz=>ax (ec.mp<|E).1 (by rw[z];decide)) (h2<|by rcases b with b|b<;>simp[Jn,b]) (A<|et _) hb<|a 0 (by rcases b with b|b<;>rw[b]<;>rfl) J
  |kA M=>exact Vv M (h2<|.inr<|.inr J) hb λk=>a k J J
  | @ah e x Y=>
   refine Vy Y (A (by show e.length<=(34::(e++[34])).length;simp;exact by simp+arith only)) ?_ hb<|a 0 J J;have wu:∀{e x},j6 e x->x.length<=e.length:=λh=>by
    induction h with
    |nil=>exact bF _
    |_=>simp only[gS] at*;exact L1 a_ih
   have:=wu Y;have:e.length+2<=(34::(e++[34])).length:=by simp
   have T:(st x<|34::(e++[34])).w.length=(34::(e++[34])).length:=J;lia
  | @sg c o hc N P=>exact Vz hc N P (λz=>(h3<|by rw[z]).2) (λz=>(h4<|by rw[z]).2) hb<|a 0 J J
  |dots=>exact VA hb<|a 0 J J
  |j=>exact VB hb<|a 0 J J
noncomputable def CZ(n:Nat):aj:=⟨0,[],0,n,n,C⟩
theorem VD(h:Lx a)(b:(aY a).length<=dg)(H:Hp):∃u os,tk a u os/\Ps (aY a).length 0 u/\ag (m+1) 1028 [.ah (aY a)] H=.ok (.ae H.length) (H++[.af ((u++[CZ (aY a).length]).map aj.v)]):=by
 have c:Jd (λr=>∃u os,tk a u os/\Ps (aY a).length 0 u/\r.i ef=.ok (.ae H.length) (H++[.af ((u++[CZ (aY a).length]).map aj.v)])) m (.s Ga [] [O (.ah<|aY a),U,U,U,U,U,U] H):=by
  refine bv J<|VC a [] hT [] U U U U h J b (jq b<|D J) (bF _) λu os k l o q ht hp=>?_;have e:∀{p:Int} {u:List aj},Ps (aY a).length p u->0<=p->p+u.length<=(aY a).length∨u=[]:=λ{p u}=>by
   induction u generalizing p with
   |nil=>exactλf f=>.inr J
   |cons t r g=>
    intro x v;have d:=x.1;have h2:=x.2.1
    left
    rcases g x.2.2 (by lia) with h|h
    ·rw[gS];lia
    ·rw[h];simp only[gS,lj];lia
  have hb:u.length<=(aY a).length:=by
   rcases e hp (D rfl) with h|h
   ·have h:=h;lia
   ·rw[h];exact dG _
  refine f1 J cD<|pM J J (jq (aE hb b)<|show dg<bg by decide)<|aL J<|cK u os ht hp J
 exact dn λi=>cU c λu os d h2 j=>i<|cK u os d h2<|(qp m J J).trans j
end
noncomputable def ue(a:List Nat):Bool:=match a with
 |[]=>C
 |c::r=> !y3.contains c&&((c::r).all kI.contains&& !wt.contains (c::r))
theorem qI(h:ue a=I):jH (nm a):=by
 induction a using aW with
 |nil=>exact bc h
 |cons c r=>
  obtain⟨b,h2⟩:=ec.mp<|h;obtain⟨h2,d⟩:=ec.mp h2;exact .i (.inl J) (by simpa using b) h2<|by simpa using d
noncomputable def y7(a:List Nat):Bool:=decide (a=[46])||decide (a=[61])
theorem Lx.i{w:W}(h:jH w)(b:(decide (w.k=1)||(decide (w.k=2)||decide (w.k=3)))=C)(c:y7 w.x=C)(hr:Lx r):Lx (w::r):=by
 obtain⟨k1,a⟩:=kl.mp b;obtain⟨a,d⟩:=kl.mp a;obtain⟨e,f⟩:=kl.mp c;exact⟨h,λq=>by rcases q with q|q|q;exact ax q (jt k1);exact ax q (jt a);exact ax q<|jt d,λq=>ax q<|jt e,λq=>ax q<|jt f,hr⟩
theorem Lx.w{w:W}(h:jH w)(a:y7 w.x=C)(hs:lg<|aY r)(hr:Lx r):Lx (w::r):=by
 obtain⟨b,c⟩:=kl.mp a;exact .wd h (jt b) (jt c) hs hr
theorem cI{w:W}(e:w.w=c::x)(h:kI.contains c=C):lg (aY<|w::r):=λd hd=>by
 rw[f2,e] at hd
 cases hd;exact h
theorem Lx.nil:Lx []:=dr
theorem pN:lg (aY []):=(λ_=>ba)
theorem Lx.nm(h:ue a=I)(hs:lg<|aY r)(hr:Lx r):Lx (nm a::r):=.w (qI h) (by
 induction a using aW with
 |nil=>exact bc h
 |cons c t=>
  obtain⟨_,h2⟩:=ec.mp<|h;have h2:=(ec.mp<|(ec.mp h2).1).1;have n:∀d,kI.contains d=C->decide ((c::t)=[d])=false:=λd hd=>dO λz=>by rw[(mV z).1,hd] at h2;exact bc h2
  show(decide ((c::t)=[46])||decide ((c::t)=[61]))=C;rw[n 46 J,n 61 J];rfl) hs hr
theorem y8:jH (wd f5):=.i (.inr J) J J J
theorem VE{n:W}(h:n∈dY∨n=wd bH∨n=st bH fO):jH n/\y7 n.x=false:=by
 have p:∀{c e x},(c !=34&&c !=92)=I->j6 e x->j6 (c::e) (c::x):=λh=>by
  simp only[ol,bne_iff_ne] at h;exact .gh h.1 h.2
 have k:∀n∈dY++[wd bH,st bH fO],jH n/\y7 n.x=false:=by
  unfold dY;simp only[kR,EX,add];exact⟨⟨qI J,J⟩,⟨qI J,J⟩,⟨qI J,J⟩,⟨qI J,J⟩,⟨qI J,J⟩,⟨.ah<|p J<|p J<|p J .nil,J⟩,⟨.ah .nil,J⟩,⟨.kA<|.inl J,J⟩,⟨.ah<|p J<|p J .nil,J⟩,⟨.ah<|p J<|p J<|p J .nil,J⟩,⟨y8,J⟩,⟨.ah<|.wu (D J) (D J)<|.wu (D J) (D J)<|.nl<|.Jm .nil,J⟩,⟨qI J,J⟩,⟨.kA<|.inr J,J⟩,⟨qI J,J⟩,⟨.i (.inr J) J J J,J⟩,⟨.ah<|p J<|p J<|p J .nil,J⟩,λ_ h=>ax h eU⟩
 exact k n<|eT.mpr (h.imp id λh=>by rcases h with rfl|rfl;exact .head _;exact .tail _<|.head _)
theorem Js(h:a∈iB∨a=gG):Lx (d6 a):=by
 unfold d6;split
 ·exact .nm J (cI J J) ⟨.sg J (D J)<|D J,λq=>(by rcases q with q|q|q<;>exact ax q<|show¬(5:Int)=_ by decide),λc=>⟨ju,λd hd=>by cases hd;decide⟩,λq=>ax q<|D J,.w y8 J pN .nil⟩
 ·rename_i b
  have k:∀a∈iB,ue a=true:=by decide
  exact .nm (k a<|h.resolve_right b) pN .nil
theorem Jt{fl:Int}(b:fH w a fl):Lx w:=by
 have k:∀a∈nJ,ue a=true:=by decide
 cases b with
 |dots h=>exact .i .dots J J<|.nm (k a h) pN .nil
 |i h=>exact .nm (k a h) (cI J J)<|.sg J .nil
 |gh h=>exact .nm (k a h) pN .nil
 |this=>exact .w (.i (.inr J) J J J) J pN .nil
theorem C0{fl:Int}(h:n∈dY∨n=wd bH∨n=st bH fO)(a:fT n w fl):Lx w:=by
 obtain⟨o,x⟩:=VE h
 induction a with
 |gh=>exact .w o x pN .nil
 |i=>exact .w o x (cI J J)<|.sg J .nil
 |ro=>exact .nm J (cI J J)<|.sp<|.w o x pN .nil
 |j=>exact .nm J (cI J J)<|.sp<|.w o x (cI J J)<|.sg J .nil
theorem VF(h:K C 0 i c ks t):Lx t:=by
 have u:∀a∈qB,ue a=true:=by decide
 have A:∀a∈hY,ue a=true:=by decide
 induction h with
 |i9 h=>exact .nm (u _ h) pN .nil
 |ae h=>exact Js h
 |ja h _ _ f=>exact .j (.sg J<|.j (.sg J .nil) (cI J J) f) (cI J J)<|Js h
 |gN _ f=>exact .sg J<|.j (.sg J .nil) (cI J J) f
 |jD=>exact .sg J<|.sg J .nil
 |gk _ _ f=>exact .sg J<|.sp<|.j (.sp<|.sg J .nil) (cI J J) f
 |gi _ f=>exact .j (.sg J<|.sg J .nil) (cI J J) f
 |aa _ _ g l=>exact .j (.sp<|.sg J<|.sp l) (cI J J) g
 |un _ _ _ g l=>exact .j (.sp<|.sg J<|.sp l) (cI J J) g
 | @fn i w fl o p r t v E m B h2 G g l s=>
  obtain⟨r,e⟩:=pJ h2;have F:∀z,lg (aY<|v++z):=λz=>by rw[e];exact cI J J
  have b1:=Lx.j (.j (.sp<|.i .j J J<|.sp s) (cI J J) l) (F _) g;have N:∀z,lg (aY<|t++(v++z)):=λz=>by
   rcases pJ B with e1|⟨P,e1⟩
   ·rw[e1];exact F _
   ·rw[e1];exact cI J J
  rcases m with⟨rfl,_⟩|⟨rfl,_⟩
  ·exact b1
  ·exact .w (.i (.inr rfl) rfl rfl rfl) rfl (cI rfl rfl)<|.sp b1
 |iD _ _ f=>exact f
 |jb _ _ f=>exact .sg J<|.j (.sg J .nil) (cI J J) f
 |iE _ f=>exact f
 |h9 _ _ g l=>exact .j (.sp<|.sg J<|.sp l) (cI J J) g
 |iF _ f=>exact f
 |ia _ _ g l=>exact .j (.sg J<|.sp l) (cI J J) g
 |i=>exact Lx.nil
 |iG h=>exact .sg J<|.nm J (cI J J)<|.sp<|.nm (A _ h) (cI J J)<|.sg J .nil
 |ib h _ f=>exact .sg J<|.nm (A _ h) (cI J J)<|.sp<|.w (.i (.inr J) J J J) J (cI J J)<|.sp<|.j (.sg J .nil) (cI J J) f
 |ic h _ f=>
  exact .sg J<|.w y8 J (cI J J)<|.sp<|.nm (A _ h) (cI J J)<|.sg J<|.sp<|.w y8 J (cI J J)<|.sp<|.nm J (cI J J)<|.sp<|.nm J (cI J J)<|.sp<|.w (.i (.inr J) J J J) J (cI J J)<|.sp<|.nm J (cI J J)<|.sp ⟨.sg J (D J)<|D J,λq=>(by rcases q with q|q|q<;>exact ax q<|show¬(5:Int)=_ by decide),λq=>ax q<|D J,λQ=>⟨ju,λd hd=>by cases hd;decide⟩,.sp<|.j (.sg J .nil) (cI J J) f⟩
 |jE m=>exact Jt m
 |jc m _ f=>exact .j (.sg J<|.sp f) (cI J J)<|Jt m
 |j=>exact Lx.nil
 |jd _ _ _ f=>exact f
 |iH _ _ _ _ _ g l=>exact .j (.sg J<|.sp l) (cI J J) g
 |ps _ _ f=>exact .sg J<|.j (.sg J .nil) (cI J J) f
 |ef _ f=>exact f
 |je _ f=>exact .nm J (cI J J)<|.sp<|.nm J (cI J J)<|.sp f
 |q=>exact .nm J (cI J J)<|.sp<|.nm J pN .nil
 |jf _ f=>exact .nm J (cI J J)<|.sp<|.w (.i (.inr J) J J J) J (cI J J)<|.sp<|.nm J (cI J J)<|.sp f
 |jg _ f=>exact .nm J (cI J J)<|.sp<|.nm J (cI J J)<|.sp f
 |ie B h2 g l=>
  obtain⟨r,e⟩:=pJ h2;exact .j l (by rw[e];exact cI J J) g
 |g3 B h2 G g l s=>
  refine dn λu=>?_;obtain⟨r,e⟩:=pJ h2;exact u<|.j (.j (.sg J<|.sp s) (cI J J) l) (by rw[e];exact cI J J) g
 |iI y m=>exact C0 (g5 y) m
 |ig y m _ f=>exact .j (.sg J<|.sp f) (cI J J)<|C0 (g5 y) m
 |g4 y m R H f=>
  exact dn λu=>eB (pJ H) λx r e L=>u<|.j f (by rw[e];rcases L with rfl|rfl<;>exact cI rfl rfl)<|C0 (nT y) m
 |ii _ f=>exact f
 |ij _ f=>exact .w (.i (.inr J) J J J) J (cI J J)<|.sp f
 | @ik i w fl a k t m M _ f=>
  have b:Lx (sg [91]::nm a::sg [58]::sp::nm kS::sg [93]::sg [58]::sp::t):=.sg J<|.nm (by rcases M with rfl|rfl<;>rfl) (cI J J)<|.sg J<|.sp<|.nm J (cI J J)<|.sg J<|.sg J<|.sp f
  rcases m with⟨rfl,_⟩|⟨rfl,_⟩
  ·exact b
  ·exact .nm rfl (cI rfl rfl)<|.sp b
 |ms1 _ f=>exact f
 |gB _ _ _ g l=>exact .j (.sg J<|.sp l) (cI J J) g
 |iJ hm=>exact ax hm (λh=>ax h<|D J)
 |iK hm=>exact ax hm λh=>ax h<|D J
theorem VG(h:Lx a):Lx (gC a):=.sg J<|.sp<|.j (.sp<|.sg J .nil) (cI J J) h
theorem VH{m i:Nat}(h:K b m i c ks r):K b m (i+1) c ks r:=by
 induction h with
 |i9 h=>exact .i9 h
 |ae h=>exact .ae h
 |ja h _ g e=>exact .ja h e g
 |gN _ e=>exact .gN e
 |jD=>exact .jD
 |gk _ n e=>exact .gk e n
 |gi _ e=>exact .gi e
 |aa _ _ a c=>exact .aa a c
 |un _ _ g a c=>exact .un a c g
 |fn s _ _ _ a c d=>exact .fn s a c d
 |iD h _ e=>exact .iD h e
 |jb h _ e=>exact .jb h e
 |iE _ e=>exact .iE e
 |h9 _ _ a c=>exact .h9 a c
 |iF _ e=>exact .iF e
 |ia _ _ a c=>exact .ia a c
 |i=>exact .i
 |iG h=>exact .iG h
 |ib h _ e=>exact .ib h e
 |ic h _ e=>exact .ic h e
 |jE h=>exact .jE h
 |jc h _ e=>exact .jc h e
 |j=>exact .j
 |jd _ k h2 e=>exact .jd e k h2
 |iH _ k h2 t _ a c=>exact .iH a k h2 t c
 |ps _ n e=>exact .ps e n
 |ef _ e=>exact .ef e
 |je _ e=>exact .je e
 |q=>exact .q
 |jf _ e=>exact .jf e
 |jg _ e=>exact .jg e
 |ie _ _ a c=>exact .ie a c
 |g3 _ _ _ a c d=>exact .g3 a c d
 |iI h f=>exact .iI h f
 |ig h f _ e=>exact .ig h f e
 |g4 h f p _ e=>exact .g4 h f p e
 |ii _ e=>exact .ii e
 |ij _ e=>exact .ij e
 |ik h f _ e=>exact .ik h f e
 |ms1 _ e=>exact .ms1 e
 |gB h _ _ a c=>exact .gB h a c
 |iJ h _ _ a c=>exact .iJ h a c
 |iK h _ _ f a c=>exact .iK h a c f
mutual
noncomputable def br:T->Nat
 |.nd k _ ks _ _=>eZ ks+if k=85∨k=63 then 1 else 0
noncomputable def eZ:List (Option T)->Nat
 |[]=>0
 |o::r=>j8 o+eZ r
noncomputable def j8:Option T->Nat
 |none=>0
 |some t=>br t
end
noncomputable def Kd(i:Nat)(k:T):Prop:=∃b,K C 0 i .kd [k] b
theorem Kd.up{i j:Nat}(h:Kd i k)(e:i<=j):Kd j k:=by
 induction e with
 |refl=>exact h
 |step _ b=>obtain⟨c,x⟩:=b;exact⟨c,VH x⟩
structure Kp(P:Nat->Prop)(H F:Hp):Prop where
 bK:H.length<=F.length
 jA:∀i,i<H.length->¬P i->F[i]? =H[i]?
section
variable{P:Nat->Prop}{H F B:Hp}{a:Nat}{o:b4}
theorem Kp.refl:Kp P H H:=⟨bF _,λb b b=>J⟩
theorem Kp.q(x:Kp P H F)(y:Kp P F B):Kp P H B:=⟨aE x.bK y.bK,λi h n=>(y.jA i (iO h x.bK) n).trans<|x.jA i h n⟩
theorem Kp.j{l:Hp}:Kp P H (H++l):=⟨by rw[bx];exact d7 ..,λi h b=>p7 h⟩
theorem Kp.y(h:P a∨H.length<=a)(x:Kp P H F):Kp P H (F.set a o):=⟨(sK ..).symm▸x.bK,λi b n=>(mS (λe=>by
 subst e;exact h.elim n λh=>ax b<|rb.mpr h)).trans<|x.jA i b n⟩
theorem Kp.cN{i:Nat}(x:Kp P H F)(h:H[i]? =O o)(n:¬P i):F[i]? =O o:=(x.jA i (hW h) n).trans h
theorem Kp.u{Q:Nat->Prop}(x:Kp P H F)(h:∀i,i<H.length->P i->Q i):Kp Q H F:=⟨x.bK,λi b n=>x.jA i b λp=>n<|h i b p⟩
theorem Gr.kp(g:Gr H F):Kp P H F:=by obtain⟨l,rfl⟩:=g;exact .j
end
noncomputable def GX(P:V->Hp->Prop)(r:R<|Fl×Lc):Prop:=∃v F,r.i ef=.ok v F/\P v F
section
variable{m n i:Nat}{X:R (Fl×Lc)->Prop}{P M:V->Hp->Prop}{G:Cf}{K:List Kf}{l:Lc}{H F:Hp}{v:V}{a:Nat}
theorem iL{as:List V}(hb:iX f=(np,nl,body))(b:as.length=np)(q:Jd (GX P) m<|.s body [] (as.map O++jp (nl-np) U) H):∃v F,ag (m+1) f as H=.ok v F/\P v F:=by
 rw[qp m hb b];exact q
theorem pO(e:go G=.ao f b K l H)(h:∃v F,ag m f b H=.ok v F/\M v F)(q:∀v F,M v F->Jd X m (.v v K l F)):Jd X m G:=dn λc=>eB h λv F d p=>c<|bn e d<|q v F p
theorem gn(e:go G=.fl (.am v) [] l H)(p:P v H):Jd (GX P) m G:=aL e<|cJ v H J p
theorem C1(x:List Nat):ag (m+2) 1042 [.ah x] H=.ok (aK 81 x [] 0).v (H++[.i]):=cR J J<|qr [] J<|aL J J
noncomputable def Ju:Option T->List V
 |none=>[]
 |some k=>[k.v]
noncomputable def Jv(j:Nat):E:=.bz (.b9 .gt (.bi .bK [.l j])<|.c<|.aa 0) (.aO (.l j) .hO [])<|.ao 1042 [.c (.ah [65])]
theorem nW{b:List V}(h:H[a]? =O (.af b)):ga .bK [.ae a] H=.ok (.aa b.length) H:=by
 show cG ((match H[a]? with|some (.af b)=>O b|_=>U).map λ(b:List V)=>V.aa b.length) H=_;rw[h];rfl
theorem Jw:Kd i (aK 81 [65] [] 0):=⟨_,.ae<|.inl<|D J⟩
theorem C2{j B:Nat}(c:l[j]? =O (O<|.ae a))(b:H[a]? =O (.af<|Ju rest))(d:∀k,rest=O k->Kd i k)(e:j8 rest<=B)(q:∀k F,Kd i k->br k<=B->F[a]? =O (.af [])->Kp (·=a) H F->Jd X (m+2) (.v k.v K l F)):Jd X (m+2) (.e (Jv j) K l H):=by
 refine kE 3 J<|gL (k7 c)<|fF J (nW b) ?_
 induction rest using gD with
 |none=>exact j1 J bc λf=>bn J (C1 [65])<|q _ _ Jw (dG _) (cQ b) .j
 |some k=>exact j1 J (λf=>kE 1 J<|gL (k7 c)<|yx J b<|q _ _ (d k J) e (fo b)<|.y (.inl J) .refl) c5
end
section
variable{m n i:Nat}{X:R (Fl×Lc)->Prop}{u:Cf}{q:List Kf}{l:Lc}{H j:Hp}{v:V}{a:Nat}{rest:Option T}
theorem C3{d:Int}(h:0<=d/\d<7):d=0∨d=1∨d=2∨d=3∨d=4∨d=5∨d=6:=by lia
noncomputable def j9(i B:Nat)(a:Nat)(H:Hp):Prop:=∃rest:Option T,H[a]? =O (.af<|Ju rest)/\(∀k,rest=O k->Kd i k)/\j8 rest<=B
theorem j9.kp{P:Nat->Prop}(h:j9 i B a H)(x:Kp P H j)(n:¬P a):j9 i B a j:=aB h λr b h2=>aD r (x.cN b n) h2
theorem C4(h:H[a]? =O (.af [])):j9 i B a H:=df U h (λ_=>ba)<|dG _
theorem Jx(k:T):0+(0+br k)=br k:=by rw[c9,c9]
noncomputable def Jy(i B a:Nat)(H:Hp)(v:V)(j:Hp):Prop:=∃o c b,v=ov o.head? /\K C 0 i .q o c/\j8 o.head? +b<=B/\j9 i b a j/\Kp (·=a) H j
theorem VI{B:Nat}{d:Int}{nm:List Nat}(hd:0<=d/\d<7)(g:nm∈hY)(c:j9 i B a H):∃v j,ag (m+3) 1049 [.aa d,.ah nm,.ae a] H=.ok v j/\Jy i B a H v j:=by
 refine cF c λrest c e f=>?_;have lo:∀d:Int,(d=0∨d=1∨d=2∨d=3)->Jd (GX<|Jy i B a H) (m+2) (.s F8 [] [O (.aa d),O (.ah nm),O (.ae a),U,U] H):=λd h=>by
  rcases h with rfl|rfl|rfl|rfl<;>exact cy rfl rfl<|gn rfl<|m2 [] [] B rfl .i (b7<|c9 B) (df rest c e f) .refl
 rcases C3 hd with rfl|rfl|rfl|rfl|rfl|rfl|rfl
 ·exact iL rfl rfl<|lo 0<|D rfl
 ·exact iL rfl rfl<|lo 1<|D rfl
 ·exact iL rfl rfl<|lo 2<|D rfl
 ·exact iL rfl rfl<|lo 3<|D rfl
 ·refine iL rfl rfl<|bh rfl rfl<|cy rfl rfl<|gY [none,none] rfl<|bn rfl (qq (ks:=[some (.nd 100 nm [none,none] 536870912 0)]) cD 0)<|gn rfl<|m2 [aK 71 [] [.nd 100 nm [none,none] 536870912 0] 0] _ B rfl (.iG g) (b7<|c9 B) (df rest ?_ e f) ?_
  ·rw[iA];exact cQ<|cQ c
  ·rw[iA];exact Kp.j.q .j
 ·refine iL J J<|bh J J<|bh J J<|kE 3 J<|C2 J c e f λk H1 b b1 e1 o=>?_;obtain⟨p,b⟩:=b;refine cy J J<|gY [O k,U] J<|bn J (qq (ks:=[O (.nd 100 nm [O k,U] 0 0)]) cD 0)<|gn J<|m2 [aK 71 [] [.nd 100 nm [O k,U] 0 0] 0] _ 0 J (.ib g b) b1 (C4 ?_) ?_
  ·rw[iA];exact cQ<|cQ e1
  ·rw[iA];exact o.q<|Kp.j.q .j
 ·refine iL J J<|bh J J<|bh J J<|kE 3 J<|C2 J c e f λk H1 b b1 e1 o=>?_;obtain⟨p,b⟩:=b;refine(bh J J<|bn J (C1 [84])<|gY [O (aK 81 [84] [] 0),O k] J<|gY [U,U] J<|bn J (qq (ks:=[O (.nd 100 nm [U,U] 268435456 0),O (.nd 100 fc [O (aK 81 [84] [] 0),O k] 805306368 0)]) cD 0)<|gn J<|m2 [aK 71 [] [.nd 100 nm [U,U] 268435456 0,.nd 100 fc [O (aK 81 [84] [] 0),O k] 805306368 0] 0] _ 0 J (.ic g b) (aE (b7<|Jx k) b1) (C4 ?_) ?_)
  ·rw[iA];exact cQ<|cQ<|cQ<|cQ e1
  ·rw[iA];exact o.q<|Kp.j.q<|Kp.j.q<|Kp.j.q .j
noncomputable def Jz(i B a:Nat)(b:Bool)(H:Hp)(v:V)(j:Hp):Prop:=∃r:Option T,v=ov r/\j8 r<=B/\(b=I->r≠U)/\(∀k,r=O k->∃c,K C 0 i .am [k] c)/\Kp (·=a) H j
theorem VJ{d fl:Int}(hd:0<=d/\d<7)(r:decide (fl%4096<2048)= !p)(q:j9 i B a H):∃v j,ag (m+3) 1063 [.aa d,.aa fl,.ae a] H=.ok v j/\Jz i B a p H v j:=by
 refine cF q λrest q u w=>?_;have f:∀{k:T} {H1 H2:Hp},Kp (·=a) H H1->Gr H1 H2->br k<=B->(∃o,K C 0 i .am [k] o)->Jz i B a p H k.v H2:=λ{k _ _} x g b y=>FW (O k) J b (λs=>u9) (λA e=>(by cases e;exact y))<|x.q g.kp;refine iL J J<|kE 1 (c':=.e (Jv 2) [.i 3 (F7.drop 1)] [O (.aa d),O (.aa fl),O (.ae a),U] H) J<|C2 J q u w λk H1 c b1 e1 h=>?_;obtain⟨o,c⟩:=c
 rcases C3 hd with rfl|rfl|rfl|rfl|rfl|rfl|rfl
 ·exact cp 140 rfl<|gn rfl<|f h .refl b1 ⟨o,.ef c⟩
 ·refine eg rfl (λs=>ck rfl rfl<|ck rfl rfl<|ek (b:=decide (fl%4096<2048)) rfl (λz=>gn rfl<|FW none rfl (dG _) (λt=>?_) (λ_=>ba) h) λs=>cp 140 rfl<|gn rfl<|f h .refl b1 ⟨o,.ef c⟩) c5;rw[z,t] at r;exact c5 r
 ·exact cp 140 rfl<|gn rfl<|f h .refl b1 ⟨o,.ef c⟩
 ·exact cp 140 rfl<|qr [some k] rfl<|gn rfl<|f h .j b1 ⟨_,.je c⟩
 ·exact cp 140 rfl<|gY [none] rfl<|gn rfl<|f h .j (dG _) ⟨_,.q⟩
 ·exact cp 140 J<|gY [O k] J<|gn J<|f h .j b1 ⟨_,.jf c⟩
 ·exact cp 140 J<|qr [O k] J<|gn J<|f h .j b1 ⟨_,.jg c⟩
end
section
variable{m n u:Nat}{X:R (Fl×Lc)->Prop}{i:Cf}{j:List Kf}{l:Lc}{H y:Hp}{v:V}{a b o:Nat}
noncomputable def BX(P:Lc->Hp->Prop)(r:R<|Fl×Lc):Prop:=∃c y,r=.ok (.aU,c) y/\P c y
theorem C5{P:Lc->Hp->Prop}(q:Jd (BX P) m<|.s r [] l H):∃c y,aZ (ag m) r l H=.ok (.aU,c) y/\P c y:=dn λd=>eB q λc y e p=>d<|cJ c y (qs e) p
theorem C6{P:Lc->Hp->Prop}(e:go i=.fl .aU [] l H)(p:P l H):Jd (BX P) m i:=aL e<|cJ l H J p
theorem uf{xs:List V}{j:Int}(f:0<=j)(c:j<xs.length):∃v∈xs,f9 (.u xs) (.aa j) H=.ok v H:=by
 obtain⟨k,rfl⟩:=Al f;have d:=uI.mp c;refine aD (xs[k]) (adf d) ?_;have e:fR (k:Int) xs.length=O k:=by
  unfold fR;rw[aN (qa k),aN c];rfl
 show cG ((fR (k:Int) xs.length).bind λj=>xs[j]?) H=_;rw[e];show cG xs[k]? H=_;rw[li d];rfl
theorem fV{x:Int}{k:Nat}(c:0<k):fQ .y (.aa x) (.aa (k:Int)) H=.ok (.aa<|x%k) H:=aN<|by lia
theorem mM{x:Int}{k:Nat}(c:0<k/\k<bg):fQ .q (.aa x) (.aa (k:Int)) H=.ok (.aa<|x/k) H:=aN<|by lia
theorem r9{x y:Int}(h:x.natAbs<bg*bg/\y.natAbs<bg*bg):fQ .j (.aa x) (.aa y) H=.ok (.aa<|x*y) H:=aN h
theorem jL(x:Int){k:Nat}(c:0<k):0<=x%k/\x%k<k:=⟨Int.emod_nonneg _ (by lia),Int.emod_lt_of_pos _<|by lia⟩
noncomputable def mN:List S:=[.i 6 (.y (.l 0)<|.bI .i (.c<|.aa 2)<|.l 5),.i 7 (.bz (.or (.l 3)<|.or (.b9 .eq (.l 6)<|.c<|.aa 1)<|.b9 .eq (.l 6)<|.c<|.aa 5) (.c<|.aa 4096)<|.c<|.aa 0),.bQ (.bN (.b9 .eq (.l 6)<|.c<|.aa 3)<|.b9 .eq (.l 5)<|.bI .ez (.l 4)<|.c<|.aa 1) [.i 7 (.c<|.aa 8192)] [],.i 3 (.or (.l 3)<|.b9 .eq (.l 7)<|.c<|.aa 4096),.i 8 (.y (.u [.c (.ah [120]),.c (.ah eW),.c (.ah dP),.c (.ah fN),.c (.ah [121]),.c (.ah ri),.c (.ah [36,49])])<|.bI .y (.bI .i (.y (.l 0)<|.c<|.aa 6)<|.bI .j (.c<|.aa 2)<|.l 5)<|.c<|.aa 7),.bQ (.bN (.b9 .eq (.l 6)<|.c<|.aa 4)<|.b9 .eq (.l 5)<|.c<|.aa 0) [.i 8 (.c<|.ah eV)] [],.i 9 (.c .none),.bQ (.bN (.b9 .ne (.l 6)<|.c<|.aa 2)<|.b9 .ne (.l 6)<|.c<|.aa 5) [.i 9 (.ao .c6 [.c (.aa 80),.c (.ah qe),.c (.aa 0)]),.bQ (.bN (.b9 .ne (.l 6)<|.c<|.aa 6)<|.b9 .gt (.bi .bK [.l 1])<|.c<|.aa 0) [.i 9 (.aO (.l 1) .hO [])] []] [],.ex (.aO (.l 2) .q [.ao .i [.c (.aa 28),.c (.ah []),.af [.ao .c6 [.c (.aa 8),.l 8,.c (.aa 0)],.l 9,.c .none],.l 7,.c (.aa 0)]])]
structure JA(u i cnt:Nat)(lax:Bool)(p:T):Prop where
 k:∃ws,K false 0 u .pm [p] ws
 th:k4 p=true->i=0
 lx:lax=true->p.cj≠0
 rs:p.cj=8192->i+1=cnt
noncomputable abbrev mO(b a o:Nat)(c:Bool)(cnt i:Nat)(d e f g:Option V):Lc:=[O (.ae b),O (.ae a),O (.ae o),O (.i c),O (.aa cnt),O (.aa i),d,e,f,g]
theorem JB{a:List Nat}{f:Int}:br (lf a k f 0 0)=j8 k:=c9 _
noncomputable def pP(B u i cnt:Nat)(c:Bool)(b a o:Nat)(ps:List T)(H:Hp)(e:Lc)(y:Hp):Prop:=∃p f g h j,JA u i cnt c p/\e=mO b a o (c||decide (p.cj=4096)) cnt i f g h j/\y[o]? =O (.af<|(ps++[p]).map T.v)/\(∃d,br p+d<=B/\j9 u d a y)/\Kp (λx=>x=a∨x=o) H y
theorem VK{B i cnt:Nat}{c:Bool}{d e:Int}{ds:List V}{ps:List T}{Q l7 E g:Option V}(hd:0<=d/\d<7)(he:0<=e)(hb:H[b]? =O (.af ds))(h2:ds[2+i]? =O (.aa d))(h6:ds[6]? =O (.aa e))(hi:i<=2)(hlx:i=0->c=C)(ha:j9 u B a H)(ho:H[o]? =O (.af<|ps.map T.v))(hps:ps.length<bg)(G:a≠o)(hab:b≠a/\b≠o):
  ∃l' y,aZ (ag<|m+2) mN (mO b a o c cnt i Q l7 E g) H=.ok (.aU,l') y/\pP B u i cnt c b a o ps H l' y:=by
 --S last part:name and aq are told
 have K:∀f nm j Q H1 w,fH w nm f->(nm=eV->i=0)->(c=I->f≠0)->(f=8192->i+1=cnt)->(∀k,j=O k->Kd u k)->(∃W,j8 j+W<=B/\j9 u W a H1)->Kp (λx=>x=a) H H1->
   Jd (BX<|pP B u i cnt c b a o ps H) (m+2) (.s (mN.drop 8) [] (mO b a o (c||decide (f=4096)) cnt i Q (O<|.aa f) (O<|.ah nm)<|O<|ov j) H1):=by
  intro f nm j Q H1 w P Y h2 p h4 ⟨W,hB,hr⟩ x;have L:=x.cN ho<|eG G;refine f1 J L<|bn J (rO 8 nm 0)<|gY [O (c6 8 nm 0),j,U] J<|i6 J (cQ<|cQ L) (by rw[c3];exact hps)<|C6 J<|OI (lf nm j f 0 0) Q _ _ _ ⟨?_,λz=>Y<|D z,h2,p⟩ J ?_ ?_ ?_
  ·induction j using gD with
   |none=>exact⟨_,.jE P⟩
   |some k=>obtain⟨ws,hk⟩:=h4 k J;exact⟨_,.jc P hk⟩
  ·rw[fo (cQ<|cQ L),dz];rfl
  ·exact aB hr λr Z r2=>⟨W,aE (b7 (bJ (·+W) JB)) hB,r,fq (eG G)<|cQ<|cQ Z,r2⟩
  ·exact Kp.y (.inl<|.inr J) ((x.u λs s z=>.inl z).q<|Kp.j.q .j)
 --S aq
 have dv:∀f nm g w,fH w nm f->(nm=eV->i=0)->(c=I->f≠0)->(f=8192->i+1=cnt)->Jd (BX<|pP B u i cnt c b a o ps H) (m+2) (.s (mN.drop 6) [] (mO b a o (c||decide (f=4096)) cnt i (O<|.aa d) (O<|.aa f) (O<|.ah nm) g) H):=by
  intro f nm g w P Y h2 p;have non:Jd (BX<|pP B u i cnt c b a o ps H) (m+2) (.s (mN.drop 8) [] (mO b a o (c||decide (f=4096)) cnt i (O<|.aa d) (O<|.aa f) (O<|.ah nm)<|O<|ov U) H):=K f nm U _ H w P Y h2 p (λ_=>ba) (aD B (b7<|c9 B) ha) .refl;have num:Jd (BX<|pP B u i cnt c b a o ps H) (m+2) (.s (mN.drop 8) [] (mO b a o (c||decide (f=4096)) cnt i (O<|.aa d) (O<|.aa f) (O<|.ah nm)<|O<|ov<|O<|c6 80 qe 0)<|H++[.i]):=K f nm (O _) _ _ w P Y h2 p (λk e=>by cases e;exact⟨_,.i9<|D J⟩) (aD B (b7<|c9 B)<|ha.kp (P:=λx=>x=o) .j G) .j;have t:(d=0∨d=1∨d=3∨d=4)->Jd (BX<|pP B u i cnt c b a o ps H) (m+2) (.s (mN.drop 6) [] (mO b a o (c||decide (f=4096)) cnt i (O<|.aa d) (O<|.aa f) (O<|.ah nm) g) H):=λhq=>by
   refine cF ha λr Z r2 r3=>?_;have go2:Jd (BX<|pP B u i cnt c b a o ps H) (m+2) (.e (.bi .bK [.l 1]) [.b9 .gt (.c<|.aa 0),.bQ [.i 9 (.aO (.l 1) .hO [])] [] [],.j (mN.drop 8)] (mO b a o (c||decide (f=4096)) cnt i (O<|.aa d) (O<|.aa f) (O<|.ah nm)<|O (c6 80 qe 0).v)<|H++[.i]):=by
    refine fF J (nW<|cQ Z) ?_
    induction r using gD with
    |none=>exact bh J J<|bf J num
    |some k=>exact cy J J<|yx J (cQ Z)<|bf J<|K f nm (O k) _ _ w P Y h2 p (λk' e=>by cases e;exact r2 k J) (aD 0 r3<|C4<|fo<|cQ Z)<|Kp.y (.inl J) .j
   rcases hq with rfl|rfl|rfl|rfl<;>exact cp 28 rfl<|bn rfl (rO 80 _ 0)<|cp 10 rfl go2
  rcases C3 hd with h|h|h|h|h|h|h
  ·exact t<|.inl h
  ·exact t<|.inr<|.inl h
  ·subst h;exact cp 14 rfl non
  ·exact t<|.inr<|.inr<|.inl h
  ·exact t<|.inr<|.inr<|.inr h
  ·subst h;exact cp 19 rfl non
  ·subst h;exact cp 28 rfl (bn rfl (rO 80 _ 0)<|cp 14 rfl num)
 --S name
 have M:∀f E g,(f=0∨f=4096∨f=8192)->(c=true->f≠0)->(f=8192->i+1=cnt)->(d=4->i=0->f=0)->Jd (BX<|pP B u i cnt c b a o ps H) (m+2) (.s (mN.drop 3) [] (mO b a o c cnt i (O<|.aa d) (O<|.aa f) E g) H):=by
  intro f E g hf N p h4;refine dQ J J<|aB (uf (H:=H) (xs:=nJ.map V.ah) (j:=(e+2*(i:Int))%7) (jL _ (k:=7)<|D J).1 (jL _ (k:=7)<|D J).2) λv hv ev=>aB (eh.mp hv) ?_;rintro nm A rfl;have hth:nm≠eV:=by
   have:∀nm∈nJ,nm≠eV:=by decide
   exact this nm A
  refine b5 J (hX hb h6)<|ck J (r9 ⟨by decide,by unfold bg;lia⟩)<|ck J (fV<|D J)<|b5 J ev ?_;have pw:∃w,fH w nm f:=by
   rcases hf with rfl|rfl|rfl
   ·exact⟨_,.gh A⟩
   ·exact⟨_,.i A⟩
   ·exact⟨_,.dots A⟩
  clear hf;obtain⟨w,pw⟩:=pw;refine eg rfl (λz=>ek rfl (λz2=>?_) λs=>bf rfl<|dv f nm g w pw (λz=>ax z hth) N p) λs=>bh rfl rfl<|bf rfl<|dv f nm g w pw (λz=>ax z hth) N p;have hi0:i=0:=by have:=D z2;lia
  have:=h4 (D z) hi0;clear h4;clear pw;subst this;exact bf J<|dv 0 _ g _ .this (λs=>hi0) N p
 refine C5<|b5 J (hX hb h2) ?_;have e7:∀q:Bool,q=(c||(decide (d=1)||decide (d=5)))->Jd (BX<|pP B u i cnt c b a o ps H) (m+2) (.v (.aa<|if q=I then 4096 else 0) [.i 7 (mN.drop 2)] (mO b a o c cnt i (O<|.aa d) l7 E g) H):=by
  intro q hq;have ok0:(if q=I then(4096:Int) else 0)=0∨(if q=I then(4096:Int) else 0)=4096∨(if q=I then(4096:Int) else 0)=8192:=by cases q;exact .inl J;exact .inr<|.inl J
  have F:c=I->(if q=I then(4096:Int) else 0)≠0:=λz=>by rw[hq,z,Bool.true_or];decide
  have h8:(if q=I then(4096:Int) else 0)=8192->i+1=cnt:=λz=>by cases q<;>cases z
  have h44:d=4->i=0->(if q=I then(4096:Int) else 0)=0:=λz z0=>by rw[hq,hlx z0,z];rfl
  refine eg J (λz=>ek J (λz2=>?_) λs=>bf J<|M _ E g ok0 F h8 h44) λs=>bh J J<|bf J<|M _ E g ok0 F h8 h44;exact bf J<|M 8192 E g (.inr<|.inr J) (λs=>by decide) (λs=>by lia) λz3 s=>by lia
 refine dQ J (c8<|dQ J J<|aL J J)<|j1 J (λz=>?_) λz=>?_
 ·have:=e7 I z.symm;exact bf J this
 ·have:=e7 C z.symm;exact bf J this
end
noncomputable def C7(u cnt:Nat):Nat->Bool->List T->Prop
 |_,_,[]=>True
 |i,c,p::r=>JA u i cnt c p/\C7 u cnt (i+1) (c||decide (p.cj=4096)) r
theorem VL{u cnt:Nat}(ps:List T):∀(i:Nat) (c:Bool),C7 u cnt i c ps->i+ps.length=cnt->∃f,K C 0 u (.y (decide (i=0)) c) ps f:=by
 induction ps with
 |nil=>exactλi c h e=>⟨_,.j⟩
 |cons p r d=>
  intro i c h e;refine dn λg=>?_;obtain⟨w,j⟩:=h.1.k
  induction r using aW with
  |nil=>exact g ⟨_,.jd j (λz=>dH<|h.1.th z) h.1.lx⟩
  |cons q r=>
   have e:i+(r.length+1+1)=cnt:=e;obtain⟨f,d⟩:=d (i+1) _ h.2 (by show i+1+(r.length+1)=cnt;exact Am (L1<|b7 e)<|L1<|b7 e.symm);exact g ⟨_,.iH j (λz=>dH<|h.1.th z) h.1.lx (λz=>F2 (b7 e)<|b7 (h.1.rs z).symm) d⟩
section
variable{m n u:Nat}{H j:Hp}{a b o:Nat}
theorem VM{cnt:Nat}{t:List V}{e:Int}(X:0<=e)(w:∀i,i<=2->∃d:Int,(0<=d/\d<7)/\t[2+i]? =O (.aa d))(h6:t[6]? =O (.aa e))(hc:cnt<=3)(y:a≠o)(f:b≠a/\b≠o):∀(k i:Nat) (c:Bool) (ps:List T) (H:Hp) (A h q r s:Option V) (B:Nat),i+k=cnt->(i=0->c=C)->H[b]? =O (.af t)->j9 u B a H->H[o]? =O (.af<|ps.map T.v)->ps.length+k<=3->
  ∃Y j,dm (λv l H=>aZ (ag<|m+2) mN (l.set 5<|O v) H) ((ll i k).map λ(i:Nat)=>V.aa (i:Int)) [O (.ae b),O (.ae a),O (.ae o),O (.i c),O (.aa cnt),A,h,q,r,s] H=.ok (.aU,O (.ae b)::O (.ae a)::O (.ae o)::Y) j/\
   ∃g,C7 u cnt i c g/\g.length=k/\j[o]? =O (.af<|(ps++g).map T.v)/\(∃R,eZ (g.map O)+R<=B/\j9 u R a j)/\Kp (λx=>x=a∨x=o) H j:=by
 intro k
 induction k with
 |zero=>
  intro i c ps H A h q r s B S S hb E F S;exact⟨_,H,J,[],dr,J,by rw[cM];exact F,aD B (b7<|c9 B) E,.refl⟩
 |succ k Z=>
  intro i c ps H A h q r s B e1 hl hb E F hp;refine dn λkk=>aB (w i<|L2 hc<|b7 e1) λd hd h2=>?_;obtain⟨l1,H1,r1,p,m6,m7,m8,m9,G,rfl,K,⟨B1,L,M⟩,W⟩:=VK hd X hb h2 h6 (L2 hc<|b7 e1) hl E F (jq (m:=3) (L1 hp)<|D J) y f;obtain⟨l2,H2,r2,g,hq,hlen,N,⟨B2,P,Q⟩,x2⟩:=Z (i+1) (c||decide (p.cj=4096)) (ps++[p]) H1 (O<|.aa i) m6 m7 m8 m9 B1 (Am (L1<|b7 e1)<|L1<|b7 e1.symm) nofun (W.cN hb λz=>z.elim f.1 f.2) M K (by rw[bx];simp only[gS,lj];exact L1 hp);refine kk<|⟨l2,H2,?_,p::g,⟨G,hq⟩,by rw[gS,hlen],by rw[kP];exact N,aD B2 (aE (b7<|kn ..)<|aE (jo P _) L) Q,W.q x2⟩;show(match aZ (ag<|m+2) mN (mO b a o c cnt i h q r s) H with|.ok (.aU,l) H=>_|.ok (.q,l) H=>_|.ok (.u,l) H=>_|.ok (.am v,l) H=>_|_=>_)=_;rw[r1];exact r2
noncomputable def VN(i B a:Nat)(H:Hp)(v:V)(j:Hp):Prop:=∃p d c,v=T.v p/\K C 0 i .ps [p] d/\br p+c<=B/\j9 i c a j/\Kp (·=a) H j
theorem VO{k:List V}{l e:Int}(F:k[1]? =O (.aa l))(G:0<=e)(p:∀i,i<=2->∃d:Int,(0<=d/\d<7)/\k[2+i]? =O (.aa d))(h6:k[6]? =O (.aa e))(hb:H[b]? =O (.af k))(A:j9 u B a H)(q:b≠a):
  ∃v j,ag (m+3) 1056 [.ae b,.ae a] H=.ok v j/\VN u B a H v j:=by
 have f:a<H.length:=by refine aB A λs h s=>?_;exact hW h
 refine dn λt=>?_;obtain⟨c,g⟩:=Al (jL l (k:=4)<|D J).1;have hc:c<=3:=by have:=(jL l (k:=4)<|D J).2;lia
 obtain⟨K,j,e1,E,L,hlen,M,⟨N,w,y⟩,x⟩:=VM (H:=H++[.af []]) G p h6 hc (e9 f) ⟨q,e9<|hW hb⟩ c 0 C [] U U U U U B (c9 _) (λs=>J) (cQ hb) (A.kp (P:=λs=>False) .j id) cD<|by simpa using hc
 obtain⟨W,P⟩:=VL E 0 C L<|by rw[c9,hlen]
 refine t<|iL J J<|b5 J (hX (cQ hb) F)<|ck J (fV<|D J)<|vH (l':=O (.ae b)::O (.ae a)::O (.ae H.length)::K) J (by rw[g];rfl) (aE hc<|D J) ?_ (bn J (qq (by rw[pj];exact M) 0)<|gn J<|m2 (aK 71 [] E 0) _ N J (.ps P<|aE (b7 hlen) hc) w ?_ ?_)
 ·rw[g,xy];exact e1
 ·exact dn λt=>aB y λr Q R=>t<|aD r (fq (mU f) Q) R
 ·have S:=Kp.j.q x;exact Kp.y (.inr<|bF _)<|S.u λi T z=>z.resolve_right<|e9 T
end
section
variable{m n i:Nat}{H q:Hp}{a b o:Nat}{X:R (Fl×Lc)->Prop}{u:Cf}{j:List Kf}{l:Lc}
theorem JC{f:V->Hp->R V}{g:V->V}:∀{c:List V},(∀x∈c,f x H=.ok (g x) H)->eY f c H=.ok (c.map g) H:=by
 intro r
 induction r with
 |nil=>
  intro k;exact J
 |cons x r d=>
  intro h;show(match f x H with|.ok u H=>(eY f r H).i λe H=>.ok (u::e) H|_=>.j)=_;rw[h x (.head _)];show R.i (eY f r H) _=_;rw[d λy j=>h y (.tail _ j)];rfl
theorem JD{i k:Nat}{H1:Hp}(d:az (ag m) x l H=.ok (.aa k) H)(f:k<=bg)(h:eY (λv H=>az (ag m) e (l.set i<|O v) H) ((kj k).map λ(i:Nat)=>V.aa (i:Int)) H=.ok c H1):az (ag m) (.lE e i x) l H=.ok (.ae H1.length) (H1++[.af c]):=by
 show R.i (az (ag m) x l H) _=_;rw[d];refine(aN ⟨qa k,sN.mpr f⟩).trans ?_;rw[h];rfl
noncomputable def nX(r:Int):List V:=(kj 7).map λi=>V.aa<|r/((7^i:Nat):Int)%((7:Nat):Int)
noncomputable def JE:E:=.bI .y (.bI .q (.l 2)<|.bI .ry (.c<|.aa 7)<|.l 8)<|.c<|.aa 7
theorem VP{r:Int}:az (ag m) (.lE JE 8<|.c<|.aa 7) [O d,O v1,O (.aa r),O v3,U,U,U,U,U] H=.ok (.ae H.length) (H++[.af (nX r)]):=by
 refine JD J (D J) ?_;have e:nX r=((kj 7).map λ(i:Nat)=>V.aa (i:Int)).map λv=>match v with|.aa i=>V.aa (r/((7^i.toNat:Nat):Int)%((7:Nat):Int))|v=>v:=by
  rfl
 rw[e];refine JC λx f=>aB (eh.mp f) ?_;rintro j c rfl;have c:=adg.mp c;have hp:∀j,j<7->0<7^j/\7^j<bg:=by decide
 exact c8<|ck J ((aN ⟨by decide,by decide,by lia,by lia⟩).trans<|by rfl)<|ck J (mM<|hp j c)<|ck J (fV<|D J)<|aL J J
theorem wv{r:Int}:∀i,i<=6->∃d:Int,(0<=d/\d<7)/\(nX r)[i]? =O (.aa d):=λi c=>⟨_,jL _<|D J,by
 rw[qb,List.getElem?_range (Nat.lt_succ_of_le c)];rfl⟩
noncomputable def y9(i B:Nat)(nm:List Nat)(fl:Int)(e:Bool)(H:Hp)(v:V)(q:Hp):Prop:=∃o p r f d,v=T.v (.nd 27 nm [o.head?,O p,r,U] fl 0)/\K C 0 i .q o f/\K C 0 i .ps [p] d/\(e=I->r≠U)/\(∀k,r=O k->∃c,K C 0 i .am [k] c)/\j8 o.head? +(br p+j8 r)<=B/\Kp (λg=>False) H q
theorem ww{nm:List Nat}{fl r:Int}{ty:Bool}{k:T}(M:Kd i k)(N:decide (fl%4096<2048)= !ty):∃v q,ag (m+4) 1068 [.ah nm,.aa fl,.aa r,k.v] H=.ok v q/\y9 i (br k) nm fl ty H v q:=by
 refine dn λh=>aB (wv (r:=r) 0<|D J) λd0 q0 P=>aB (wv (r:=r) 1<|D J) λd1 q1 e1=>aB (wv (r:=r) 5<|D J) λd5 Q S=>aB (wv (r:=r) 6<|D J) λA W B=>h<|iL J J<|kE 1 (c':=.e (.lE JE 8<|.c<|.aa 7) [.i 4 (F6.drop 1)] _ H) J<|gL VP ?_;have hb:((H++[b4.af (nX r)])++[b4.af [k.v]])[H.length]? =O (.af<|nX r):=cQ cD;have c:H.length≠(H++[b4.af (nX r)]).length:=by rw[bx];exact e9<|sM _
 refine dn λh=>aB (uf (H:=(H++[b4.af (nX r)])++[b4.af [k.v]]) (xs:=hY.map V.ah) (jL A<|D J).1 (jL A<|D J).2) λnv Y en=>aB (eh.mp Y) ?_;rintro tn s rfl;refine h ?_;have d:∀{H1 H2:Hp},Kp (λE=>False) H H1->Kp (·=(H++[b4.af (nX r)]).length) H1 H2->Kp (λE=>False) H H2:=λx y=>by
  refine⟨aE x.bK y.bK,λj f E=>(y.jA j (iO f x.bK) λe=>?_).trans<|x.jA j f id⟩;rw[e,bx] at f;exact ax f<|rb.mpr<|d7 ..
 refine b5 J (hX hb P)<|b5 J (hX hb B)<|ck J (fV<|D J)<|b5 J en<|pO J (VI q0 s (df (O k) cD (λk' e=>(by cases e;exact M)) (bF _):j9 i (br k) (H++[b4.af (nX r)]).length<|(H++[b4.af (nX r)])++[b4.af [k.v]])) λv1 H1 F=>?_;refine xY F ?_;clear F;rintro o Z B1 rfl ko b1 t G;have g:=G.cN hb c;refine pO J (VO e1 W.1 (λj f=>by rw[km];exact wv (j+2)<|L1 f) B g t c) λv2 H2 h2=>xY h2 ?_;clear h2;rintro p u B2 rfl kp b2 w K;have z:=K.cN g c;refine b5 J (hX z S)<|pO J (VJ Q N w) λv3 H3 h3=>?_;obtain⟨L,rfl,b3,t1,t2,x3⟩:=h3;exact gY [o.head?,O p,L,U] J<|gn J<|OJ o p L Z u J ko kp t1 t2 (aE (jo (aE (jo b3 _) b2) _) b1)<|(d (d (d (Kp.j.q .j) G) K) x3).q .j
end
noncomputable def C8:List (List Nat):=[[97],fN,bH,f6,gv,eW,[97,45,98],[],[48],[48,55],[49,101,51],f5,AQ,fc,[52,50],[36,95]]
theorem VQ(h:x∈C8):x∈dY.map W.x∨x=bH:=by
 have:∀x∈C8,x∈dY.map W.x∨x=bH:=by decide
 exact this x h
section
variable{m n i:Nat}{H u:Hp}
theorem JF(k:T):0+br k+1=br k+1:=by rw[c9]
noncomputable def VR(i B:Nat)(H:Hp)(v:V)(u:Hp):Prop:=∃t a,v=T.v t/\K C 0 i .i [t] a/\br t<=B+1/\Kp (λb=>False) H u
theorem za(x:Int):x%((2:Nat):Int)=0∨x%((2:Nat):Int)=1:=by lia
theorem C9{B:Nat}{nm:List Nat}{fl:Int}{v:V}(q:y9 i B nm fl C H v u):∃ks a,v=T.v (.nd 27 nm ks fl 0)/\K C 0 i .sg [.nd 27 nm ks fl 0] a/\br (.nd 27 nm ks fl 0)<=B+1/\Kp (λh=>False) H u:=by
 refine dn λf=>?_;obtain⟨o,p,r,a,g,e,c,kp,_,kr,b,x⟩:=q;refine f ?_
 induction r using gD with
 |none=>exact m1 _ _ e (.ie c kp) (f4 b) x
 |some k=>obtain⟨d,kr⟩:=kr k J;exact m1 _ _ e (.g3 c kp kr) (f4 b) x
theorem JG{d:Int}{k:T}(g:Kd i k):∃v u,ag (m+5) 1075 [.aa d,k.v] H=.ok v u/\VR i (br k) H v u:=by
 refine dn λe=>aB (uf (H:=H) (xs:=C8.map V.ah) (j:=d/((6:Nat):Int)%((16:Nat):Int)) (jL _<|D J).1 (jL _<|D J).2) λB s en=>aB (eh.mp s) ?_;rintro x o rfl;refine e ?_;have o:=VQ o;refine iL J J<|ck J (mM<|D J)<|ck J (fV<|D J)<|b5 J en<|ck J (mM<|D J)<|ck J (fV<|D J)<|ek J (λj=>?_) λj=>?_
 all_goals generalize d/((96:Nat):Int)=c
 ·refine ck J (fV (k:=2)<|D J)<|ck J (r9 ⟨by decide,by unfold bg;lia⟩)<|ck J (mM (k:=2)<|D J)<|ck J (fV (k:=2)<|D J)<|ck J (r9 ⟨by decide,by unfold bg;lia⟩)<|ck J (mM<|D J)<|ck J (fV<|D J) ?_;have l:∀w,∃p,fT w p (4096*(c%((2:Nat):Int))+131072*(c/((2:Nat):Int)%((2:Nat):Int))):=λw=>by
   rcases za c with h|h<;>rcases za (c/((2:Nat):Int)) with h'|h'<;>rw[h,h']
   ·exact⟨_,.gh⟩
   ·exact⟨_,.ro⟩
   ·exact⟨_,.i⟩
   ·exact⟨_,.j⟩
  have f:∃n,(n∈dY∨n=wd bH)/\n.x=x:=o.elim (λh=>by
   refine aB (eh.mp h) λn y h2=>?_;exact aD n (.inl y) h2) λh=>aD _ (.inr J) h.symm
  refine dn λe=>aB f ?_;clear f;rintro n f rfl;obtain⟨w,l⟩:=l n;obtain⟨p,g⟩:=g;exact e<|j1 J (λj=>gY [U] J<|gn J<|m1 _ w J (.iI f l) (dG _) .j) λj=>gY [O k] J<|gn J<|m1 _ _ J (.ig f l g) (et _) .j
 refine ck J (fV<|D J)<|ek J (λj=>?_) λj=>?_
 ·refine ck J (fV (k:=2)<|D J)<|ck J (r9 ⟨by decide,by unfold bg;lia⟩)<|ck J (mM (k:=2)<|D J)<|pO J (ww (ty:=C) g<|dH<|by lia) λv u q=>gn J ?_;refine dn λe=>?_;clear s en;refine A0 (C9 q) ?_;rintro ks p rfl q b r;have f:∃n,(n∈dY∨n=st bH fO)/\n.x=x:=o.elim (λh=>by
   refine aB (eh.mp h) λn y h2=>?_;exact aD n (.inl y) h2) λh=>aD _ (.inr J) h.symm
  clear o;clear o;refine aB f ?_;clear f;rintro n f rfl;refine e ?_
  rcases za c with h|h<;>rw[h] at q⊢
  ·exact m1 _ _ J (.g4 f .gh (.inl J) q) b r
  ·exact m1 _ _ J (.g4 f .i (.inr J) q) b r
 refine ck J (fV<|D J)<|ek J (λj=>?_) λj=>?_
 ·refine pO J (ww (ty:=C) g J) λv u q=>gn J<|dn λe=>A0 (C9 q) ?_;rintro ks p rfl q b r;exact e<|m1 _ _ J (.ii q) b r
 refine ck J (fV<|D J)<|ek J (λj=>?_) λj=>?_
 ·refine pO J (ww (ty:=C) g J) λv u q=>gn J<|dn λe=>A0 (C9 q) ?_;rintro ks p rfl q b r;exact e<|m1 _ _ J (.ij q) b r
 refine dn λe=>aB (uf (H:=H) (xs:=[.ah [107],.ah fN]) (j:=c/((2:Nat):Int)%((2:Nat):Int)) (jL _<|D J).1 (jL _<|D J).2) λav z A=>?_;have t:∃a,av=.ah a/\(a=[107]∨a=fN):=by
  cases z with
  |head=>exact aD _ J<|.inl J
  |tail _ h=>cases h with
   |head=>exact aD _ J<|.inr J
   |tail _ h=>cases h
 refine aB t ?_;clear t;rintro a rfl t;have l:∃w,w=[]/\131072*(c%((2:Nat):Int))=0∨w=[nm fN,sp]/\131072*(c%((2:Nat):Int))=131072:=by
  rcases za c with h|h<;>rw[h]
  ·exact⟨_,.inl ⟨J,J⟩⟩
  ·exact⟨_,.inr ⟨J,J⟩⟩
 obtain⟨w,l⟩:=l;obtain⟨p,g⟩:=g;exact e<|ck J (mM (k:=2)<|D J)<|ck J (fV<|D J)<|b5 J A<|bn J (rO 80 _ 0)<|ck J (fV (k:=2)<|D J)<|ck J (r9 ⟨by decide,by unfold bg;lia⟩)<|gY [O (c6 80 kS 0),O k] J<|gn J<|m1 _ _ J (.ik l t g) (b7<|JF _)<|Kp.j.q .j
end
theorem wy:∀(a b:List<|Option T),eZ (a++b)=eZ a+eZ b:=by
 intro r
 induction r with
 |nil=>
  intro b;exact(c9 _).symm
 |cons o r c=>
  intro b;show j8 o+eZ (r++b)=j8 o+eZ r+eZ b;rw[c b,kn]
noncomputable def sb(p:T×Nat):V:=.u [p.1.v,.aa p.2]
noncomputable def JH(p:T×Nat):Option T:=O p.1
structure VS(a b n B:Nat)(st:List (T×Nat))(rs:List T)(H:Hp):Prop where
 hs:H[a]? =some (.af (st.map sb))
 hr:H[b]? =some (.af (rs.map T.v))
 ks:∀p∈st,Kd (p.2-1) p.1/\1<=p.2/\p.2<=3
 kr:∀k∈rs,Kd 2 k
 ln:st.length+rs.length<=n
 bb:eZ (st.map JH)+eZ (rs.map some)<=B
inductive SR(a b n B:Nat)(H:Hp):Prop where
 |mk (st:List (T×Nat)) (rs:List T) (h:VS a b n B st rs H)
section
variable{m n i a b o:Nat}{H j:Hp}{X:R (Fl×Lc)->Prop}{u:Cf}{q:List Kf}{l:Lc}{v:V}
theorem SR.kp{P:Nat->Prop}(h:SR a b n B H)(x:Kp P H j)(c:¬P a)(d:¬P b):SR a b n B j:=by
 obtain⟨st,rs,e,h2,f,h4,g,k⟩:=h;exact⟨st,rs,x.cN e c,x.cN h2 d,f,h4,g,k⟩
inductive JI(a b n B:Nat)(H:Hp)(v:V)(j:Hp):Prop where
 |mk (k:T) (h B':Nat) (hv:v=.u [k.v,.aa h]) (hk:Kd (h-1) k) (h1:1<=h/\h<=2) (hB:br k+B'<=B) (hr:SR a b n B' j) (x:Kp (λx=>x=a∨x=b) H j)
theorem VT(h:SR a b n B H)(f:a≠b)(y:n<bg):∃v j,ag (m+3) 1082 [.ae a,.ae b] H=.ok v j/\JI a b n B H v j:=by
 refine dn λA=>?_;obtain⟨st,rs,hs,hr,ks,kr,ln,bb⟩:=h;refine A ?_;have dflt:∀{H1:Hp} {u w:Option V},SR a b n B H1->Kp (λx=>x=a∨x=b) H H1->Jd (GX<|JI a b n B H) (m+2) (.s (F5.drop 1) [] [O (.ae a),O (.ae b),u,w] H1):=λ{H1 u w} E x=>
  bn J (C1 [65]) (gn J ⟨_,1,B,J,Jw,⟨bF _,et _⟩,b7<|c9 B,E.kp (P:=λG=>False) .j id id,x.q .j⟩)
 rcases Nc st with rfl|⟨c,⟨k,h⟩,rfl⟩
 ·exact iL rfl rfl<|fF rfl (nW hs)<|bh rfl rfl<|bf rfl<|dflt ⟨_,rs,hs,hr,ks,kr,ln,bb⟩ .refl
 have e:H[a]? =O (.af<|c.map sb++[sb (k,h)]):=by rw[hs,Ah,dz];rfl
 rw[Ah] at ks ln bb;rw[dz,wy] at bb;rw[bx] at ln;have ka:=ks (k,h)<|dj _<|.head _;have g:∀p∈c,Kd (p.2-1) p.1/\1<=p.2/\p.2<=3:=λp hp=>ks p<|fh _ hp;have q:eZ (c.map JH)+br k+eZ (rs.map O)<=B:=bb;have r:c.length+1+rs.length<=n:=ln;have d:(H.set a<|.af<|c.map sb)[b]? =O (.af<|rs.map T.v):=fq f hr;have s:(H.set a<|.af<|c.map sb)[a]? =O (.af<|c.map sb):=fo hs;refine iL J J<|fF J (nW e)<|cy J (dH ?_)<|yx J e<|vJ J J J<|ek J (λz=>?_) λz=>?_
 ·rw[bx];exact adh.mpr<|Nr _
 ·have z:=D z;exact gn J ⟨k,h,_,J,ka.1,⟨ka.2.1,by lia⟩,by rw[<-kn,km (br k)];exact q,⟨c,rs,s,d,g,kr,L1 ln,bF _⟩,.y (.inl<|.inl J) .refl⟩
 ·have z:=jt z;have F:h=3:=by have:=ka.2.2;lia
  clear e ln bb ks z hs;clear z;subst F;refine f1 J d<|i6 J d (by rw[c3];exact L2 y r)<|bf J<|dflt ⟨c,rs++[k],fq (eG f) s,?_,g,?_,?_,?_⟩ ?_
  ·rw[fo d,dz];rfl
  ·intro K t
   rcases eT.mp t with h|h
   ·exact kr _ h
   ·clear t
    cases h with
    |head=>exact ka.1
    |tail _ h=>cases h
  ·rw[bx];show c.length+(rs.length+1)<=n;exact L1 r
  ·rw[dz,wy];show _+(_+(br k+0))<=B;exact L1 q
  ·exact .y (.inl<|.inr J)<|.y (.inl<|.inl J) .refl
end
noncomputable def Db:List S:=[.iW [11,12] (.ao 1082 [.l 1,.l 2]),.ex (.aO (.l 7) .q [.l 11]),.i 8 (.bi .i [.l 8,.l 12])]
section
variable{m n i a b c:Nat}{H u:Hp}{N y M G F j q:Option V}
noncomputable abbrev kL(a b c f:Nat)(N y M G F g j d e q:Option V):Lc:=[N,O (.ae a),O (.ae b),y,M,G,F,O (.ae c),O (.aa f),g,j,d,e,q]
structure gP(a b c n B:Nat)(ks:List T)(k:Nat)(H u:Hp)(ks':List T)(mx B':Nat):Prop where
 sr:SR a b n B' u
 hc:u[c]? =some (.af (ks'.map T.v))
 kd:∀t∈ks',1<=mx/\Kd (mx-1) t
 hm:mx<=2
 ln:ks'.length=ks.length+k
 bb:eZ (ks'.map some)+B'<=eZ (ks.map some)+B
 kp:Kp (λx=>x=a∨x=b∨x=c) H u
inductive VU(a b c n B:Nat)(ks:List T)(k:Nat)(N y M G F j q:Option V)(H:Hp)(l':Lc)(u:Hp):Prop where
 |mk (ks':List T) (mx B':Nat) (l9 l11 l12:Option V) (hl:l'=kL a b c mx N y M G F l9 j l11 l12 q) (h:gP a b c n B ks k H u ks' mx B')
theorem VV(x y:Nat):ga .i [.aa x,.aa y] H=.ok (.aa ((if x<y then y else x:Nat):Int)) H:=by
 show R.ok (V.aa<|if(x:Int)<y then(y:Int) else x) H=_
 by_cases h:x<y
 ·rw[aN h,aN (uI.mpr h)]
 ·rw[a9 h,a9 λz=>h (uI.mp z)]
theorem VW{ks:List T}(p:a≠b)(hc:a≠c/\b≠c)(E:n<bg)(sr:SR a b n B H)(K:H[c]? =O (.af<|ks.map T.v))(kd:∀t∈ks,1<=g/\Kd (g-1) t)(hm:g<=2)(L:ks.length<bg):
  ∃A u,aZ (ag<|m+3) Db (kL a b c g N y M G F o j d e q) H=.ok (.aU,A) u/\∃r l s o d e,A=kL a b c l N y M G F o j d e q/\gP a b c n B ks 1 H u r l s:=by
 refine C5<|pO J (VT sr p E) λv H1 ⟨k,h,s,P,k1,w,Q,hr,x⟩=>?_;refine dn λR=>?_;subst P;refine R ?_;have f:=x.cN K λz=>z.elim (eG hc.1)<|eG hc.2;refine vJ J J J<|f1 J f<|i6 J f (by rw[c3];exact L)<|fF J (VV g h)<|C6 J ⟨ks++[k],_,s,_,_,_,J,?_,?_,?_,?_,?_,?_,?_⟩
 ·exact hr.kp (P:=(·=c)) (.y (.inl J) .refl) hc.1 hc.2
 ·rw[fo f,dz];rfl
 ·intro t ht
  by_cases z:g<h
  ·rw[aN z];refine⟨w.1,?_⟩
   rcases eT.mp ht with ht|ht
   ·exact(kd t ht).2.up<|by lia
   ·cases ht with
    |head=>exact k1
    |tail _ ht=>cases ht
  ·rw[a9 z];have z:=sL z
   rcases eT.mp ht with ht|ht
   ·exact kd t ht
   ·cases ht with
    |head=>exact⟨aE w.1 z,k1.up<|Nat.sub_le_sub_right z 1⟩
    |tail _ ht=>cases ht
 ·split;exact w.2;exact hm
 ·rw[bx];rfl
 ·rw[dz,wy,kn];exact jo Q _
 ·exact .y (.inl<|.inr<|.inr J)<|x.u λS S z=>z.elim .inl λz=>.inr<|.inl z
theorem VX(o:a≠b)(hc:a≠c/\b≠c)(hn:n<bg):∀(k s:Nat) (ks:List T) (f:Nat) (H:Hp) (h d e:Option V) (B:Nat),SR a b n B H->H[c]? =O (.af<|ks.map T.v)->(∀t∈ks,1<=f/\Kd (f-1) t)->f<=2->ks.length+k<=3->
  ∃l' u,dm (λv l H=>aZ (ag<|m+3) Db (l.set 9<|O v) H) ((ll s k).map λ(i:Nat)=>V.aa (i:Int)) (kL a b c f N y M G F h j d e q) H=.ok (.aU,l') u/\VU a b c n B ks k N y M G F j q H l' u:=by
 intro k
 induction k with
 |zero=>
  intro s ks f H h d e B sr p kd hm r;exact⟨_,H,J,ks,f,B,h,d,e,J,sr,p,kd,hm,J,bF _,.refl⟩
 |succ k ih=>
  intro s ks f H h d e B sr p kd hm r;refine dn λkk=>?_;obtain⟨l1,H1,r1,w,x,B1,m9,z,A,rfl,E,K,L,P,g,Q,x1⟩:=VW o hc hn sr p kd hm<|jq (aE (d7 _ _) r)<|D J;obtain⟨l2,H2,r2,R,S,B2,o9,W,X,rfl,Y,Z,kd2,hm2,ln2,bb2,x2⟩:=ih (s+1) w x H1 m9 z A B1 E K L P<|L2 r<|b7 g;refine kk<|⟨_,H2,?_,R,S,B2,o9,W,X,J,Y,Z,kd2,hm2,by rw[ln2,g,kn,km 1],aE bb2 Q,x1.q x2⟩;show(match aZ (ag<|m+3) Db (kL a b c f N y M G F (O<|.aa s) j d e q) H with|.ok (.aU,l) H=>_|.ok (.q,l) H=>_|.ok (.u,l) H=>_|.ok (.am v,l) H=>_|_=>_)=_;rw[r1];exact r2
end
section
variable{m n i a b c:Nat}{H j:Hp}{l:Lc}
theorem VY{P:T->T->Prop}{f:V->Hp->R V}{ks:List T}(hs:∀(j:Nat) (k:T),ks[j]? =O k->∀H1,Kp (λd=>False) H H1->∃t H2,f (.aa (j:Int)) H1=.ok (T.v t) H2/\P k t/\Kp (λd=>False) H1 H2):∀(r pre:List T) (H1:Hp),ks=pre++r->Kp (λd=>False) H H1->∃ts H2,eY f ((ll pre.length r.length).map λ(i:Nat)=>V.aa (i:Int)) H1=.ok (ts.map T.v) H2/\A2 P r ts/\Kp (λd=>False) H1 H2:=by
 intro r
 induction r with
 |nil=>
  intro pre H1 d d;exact cK [] H1 J .nil .refl
 |cons k r h=>
  intro pre H1 e x;refine dn λo=>cU (hs pre.length k (by rw[e];exact(qY<|bF _).trans (by rw[p9];rfl)) H1 x) λt H2 e1 p g=>cU (h (pre++[k]) H2 (by rw[e,b6];rfl)<|x.q g) λts q e2 rs s=>o<|cK (t::ts) q ?_ (.cons p rs)<|g.q s;show(match f (.aa ((pre.length:Nat):Int)) H1 with|.ok u H=>(eY f ((ll (pre.length+1) r.length).map λ(i:Nat)=>V.aa (i:Int)) H).i λv H=>.ok (u::v) H|_=>.j)=_;rw[e1];rw[bx] at e2;show R.i (eY f ((ll (pre.length+[k].length) r.length).map λ(i:Nat)=>V.aa (i:Int)) H2) _=_;rw[e2];rfl
theorem JJ{P:T->T->Prop}{i:Nat}{ks:List T}(f:az (ag m) x l H=.ok (.aa (ks.length:Nat)) H)(g:ks.length<=bg)(hs:∀(j:Nat) (k:T),ks[j]? =O k->∀H1,Kp (λd=>False) H H1->∃t H2,az (ag m) e (l.set i<|O<|.aa (j:Int)) H1=.ok (T.v t) H2/\P k t/\Kp (λd=>False) H1 H2):
  ∃ts H1,az (ag m) (.lE e i x) l H=.ok (.ae H1.length) (H1++[.af (ts.map T.v)])/\A2 P ks ts/\Kp (λd=>False) H H1:=by
 refine dn λh=>cU (VY (f:=λv H=>az (ag m) e (l.set i<|O v) H) hs ks [] H J .refl) λts H1 e1 rs o=>h<|cK ts H1 ?_ rs o;rw[lj,<-xy] at e1;exact JD f g e1
theorem JK:∀(ks:List T),ks≠[]->(∀k∈ks,Kd i k)->∃d,K C 0 i .nM ks d
 |[],h,_=>ax J h
 |[k],_,h=>by obtain⟨d,h⟩:=h k (.head _);exact⟨_,.iF h⟩
 |k::e::r,_,h=>by
  obtain⟨f,g⟩:=JK (e::r) ju λx j=>h x<|.tail _ j;obtain⟨d,h⟩:=h k (.head _);exact⟨_,.ia h g⟩
theorem ug{j:Bool}(h:Kd i k):∃d,K C 0 i (.u j) [k] d:=by
 refine dn λf=>?_;obtain⟨d,h⟩:=h;refine f ?_
 cases e:gj j k.aq with
 |true=>exact⟨_,.jb e h⟩
 |false=>exact⟨_,.iD (.inr e) h⟩
theorem JL:∀(ks:List T),ks≠[]->(∀k∈ks,Kd i k)->∃d,K C 0 i .nN ks d
 |[],h,_=>ax J h
 |[k],_,h=>by obtain⟨d,h⟩:=ug (h k<|.head _);exact⟨_,.iE h⟩
 |k::e::r,_,h=>by
  obtain⟨f,g⟩:=JL (e::r) ju λx j=>h x<|.tail _ j;obtain⟨d,h⟩:=ug (h k<|.head _);exact⟨_,.h9 h g⟩
structure wz(i:Nat)(k t:T):Prop where
 w:∃ws,K false 0 i .i [t] ws
 b:br t<=br k+1
theorem JM{ks ts:List T}(h:A2 (wz i) ks ts):ks≠[]->∃e,K C 0 i .j ts e:=by
 induction h with
 |nil=>exactλh=>ax J h
 | @cons k t r s h hr d=>
  intro _;obtain⟨e,f⟩:=h.w
  induction hr with
  |nil=>exact⟨_,.ms1 f⟩
  |cons o g=>obtain⟨j,d⟩:=d ju;exact⟨_,.gB (.inl J) f d⟩
theorem JN{ks ts:List T}(h:A2 (wz i) ks ts):eZ (ts.map O)<=eZ (ks.map O)+ks.length/\ts.length=ks.length:=by
 induction h with
 |nil=>exact⟨bF _,J⟩
 | @cons k t r s h hr d=>
  refine⟨?_,bJ (·+1) d.2⟩;have:=h.b;show br t+eZ (s.map O)<=br k+eZ (r.map O)+(r.length+1);exact L2 d.1 this
end
noncomputable def qJ:List S:=match F4 with
 |[_,_,.y _ _ b,_]=>b
 |_=>[]
noncomputable def zb:E:=.u [.l 10,.bI .i (.l 8) (.c<|.aa 1)]
inductive zc(a b:Nat):Lc->Prop where
 |mk (N q l4 Y X l7 l8 M u j y G:Option V):zc a b [N,some (.ae a),some (.ae b),q,l4,Y,X,l7,l8,M,u,j,y,G]
structure sd(a b n B:Nat)(H:Hp)(l':Lc)(F:Hp):Prop where
 lc:zc a b l'
 sr:SR a b n B F
 kp:Kp (λx=>x=a∨x=b) H F
 ne:F[a]? ≠some (.af [])
section
variable{m n i a b c:Nat}{H B F:Hp}{N q l4 Y X M u j y G:Option V}{Q:Cf}
theorem zd{d B g:Nat}{t:T}(e:go Q=.v (.ae a) [.dK .q [zb],.ex []] (kL a b c d N q l4 Y X M (O t.v) j y G) F)(f:a≠b)(k:n<bg)(l:Kd d t)(hm:d<=2)(o:br t+g<=B)(sr:SR a b n g F)(x:Kp (λx=>x=a∨x=b) H F):Jd (BX<|sd a b (n+1) B H) m Q:=by
 refine dn λr=>?_;obtain⟨st,rs,hs,hr,ks,kr,ln,bb⟩:=sr;refine r<|f1 e hs<|i6 (u:=sb (t,d+1)) J hs (by rw[c3];exact L2 k ln)<|C6 J ⟨.mk ..,⟨st++[(t,d+1)],rs,?_,?_,?_,kr,?_,?_⟩,.y (.inl<|.inl J) x,?_⟩
 ·rw[fo hs,dz];rfl
 ·exact fq f hr
 ·intro p hp
  rcases eT.mp hp with hp|hp
  ·exact ks p hp
  ·cases hp with
   |head=>exact⟨l,Nr _,gs hm⟩
   |tail _ h=>cases h
 ·rw[bx];show st.length+1+rs.length<=n+1;exact L1 ln
 ·rw[dz,wy];show _+(br t+0)+_<=B;exact L2 o bb
 ·rw[fo hs];intro h;exact ax (bJ Nt<|by injection cS h) (by rw[bx];exact Nat.succ_ne_zero _)
noncomputable abbrev JO(q:Int):V:=.u [.aa 0,.aa (q%((3:Nat):Int)),.aa (2+q%((2:Nat):Int)),.aa 2,.aa 1,.aa (q%((4:Nat):Int)),.aa 1,.aa 1,.aa 1,.aa 1]
theorem VZ{Q:Lc->Hp->Prop}{x d:Int}{cn B:Nat}(f:a≠b)(t:n<bg)(hd:x%((10:Nat):Int)=d)(v:∀H,f9 (JO<|x/((10:Nat):Int)) (.aa d) H=.ok (.aa (cn:Int)) H)(hc:cn<=3)(sr:SR a b n B H)(g:a<H.length)(k:b<H.length)
  (q:∀ks e l F M j y,gP a b H.length n B [] cn (H++[.af []]) F ks e l->Jd (BX Q) (m+5) (.s (qJ.drop 6) [] (kL a b H.length e N (O<|.aa x) (O<|.aa d) (O<|.aa<|x/((10:Nat):Int)) (O<|.aa (cn:Int)) M u j y G) F)):
  Jd (BX Q) (m+5) (.s qJ [] [N,O (.ae a),O (.ae b),O (.aa x),l4,Y,X,r,s,M,u,j,y,G] H):=by
 refine dn λw=>?_;obtain⟨E,F,e1,ks,e,l,z,o,p,rfl,A⟩:=VX (m:=m+2) f ⟨e9 g,e9 k⟩ t cn 0 [] 0 (H++[.af []]) M j y B (sr.kp (P:=λK=>False) .j id id) cD (λ_ h=>ax h eU) (dG _) (by rw[lj,c9];exact hc);refine w<|ck J ((fV<|D J).trans<|by rw[hd])<|ck J (mM<|D J)<|ck J (fV<|D J)<|ck J (fV<|D J)<|ck J (fV<|D J)<|b5 J (v H)<|vH J J (aE hc<|D J) ?_ (bf J<|q ks e l F z o p A);rw[xy];exact e1
end
section
variable{m n i a b B cn u Q:Nat}{H y:Hp}{l0 X l4 l5 l6 Y N G F M:Option V}{cf:Cf}{ks:List T}{q:Int}
theorem gP.j(c:gP a b H.length n B [] cn (H++[.af []]) y ks u Q):Kp (λx=>x=a∨x=b) H y:=(Kp.j.q c.kp).u λi d z=>z.elim .inl λz=>.inr<|z.resolve_right<|e9 d
theorem gP.br(c:gP a b H.length n B [] cn (H++[.af []]) y ks u Q):eZ (ks.map O)+Q<=B:=aE c.bb<|b7<|c9 B
theorem gP.bK(c:gP a b H.length n B [] cn (H++[.af []]) y ks u Q):ks.length=cn:=c.ln.trans<|c9 cn
theorem gP.up(c:gP a b H.length n B [] cn (H++[.af []]) y ks u Q)(h:ks≠[]):∃j,u=j+1/\∀t∈ks,Kd j t:=by
 induction ks using aW with
 |nil=>exact ax J h
 |cons t r=>exact aD (u-1) (by have:=(c.kd t<|.head _).1;lia) λt ht=>(c.kd t ht).2
theorem wA{k:Int}{nm:List Nat}{h:List Kf}{l:Lc}(e:go cf=.ao .aK [.aa k,.ah nm,.ae H.length,.aa 0] h l y)(j:∀v H2,go (.v v h l H2)=.v (.ae a) [.dK .q [zb],.ex []] (kL a b H.length u l0 X l4 l5 l6 Y (O v) G F M) H2)(d:a≠b)(f:a<H.length)(g:b<H.length)(o:n<bg)
  (c:gP a b H.length n B [] cn (H++[.af []]) y ks u Q)(p:Kd u<|aK k nm ks 0):Jd (BX<|sd a b (n+1) (B+3) H) (m+5) cf:=by
 refine bn e (vC (by rw[pj];exact c.hc) k nm 0) (zd (j _ _) d o p c.hm ?_ (c.sr.kp (P:=(·=H.length)) (.y (.inl J) .refl) (e9 f)<|e9 g)<|.y (.inr<|bF _) c.j);show eZ (ks.map O)+(if k=85∨k=63 then 1 else 0)+Q<=B+3;have:=c.br;split<;>exact L1 this<|by simp+arith only
noncomputable abbrev pQ(m n a b B u:Nat)(H:Hp)(l0 X:Option V)(d q:Int)(cn:Nat)(Y N G F M:Option V)(y:Hp):Prop:=Jd (BX<|sd a b (n+1) (B+3) H) (m+5)<|.s (qJ.drop 6) [] (kL a b H.length u l0 X (O<|.aa d) (O<|.aa q) (O<|.aa (cn:Int)) Y N G F M) y
theorem V0(d:a≠b)(f:n<bg)(c:gP a b H.length n B [] cn (H++[.af []]) y ks u Q):pQ m n a b B u H l0 X 0 q cn Y N G F M y:=by
 refine dn λg=>aB (uf (H:=y) (xs:=(qB.take 4).map V.ah) (j:=q%((4:Nat):Int)) (jL _<|D J).1 (jL _<|D J).2) λj e en=>aB (eh.mp e) ?_;rintro x h rfl;exact g<|cp 20 J<|ck J (fV (k:=4)<|D J)<|b5 J en<|bn J (rO 80 _ 0)<|zd J d f ⟨_,.i9<|adi h⟩ c.hm (by show 0+Q<=B+3;have:=c.br;exact L1 this) (c.sr.kp (P:=λk=>False) .j id id)<|c.j.q .j
theorem V1(e:a≠b)(f:a<H.length)(g:b<H.length)(o:n<bg)(hc:cn<=3)(k:gP a b H.length n B [] cn (H++[.af []]) y ks u Q):pQ m n a b B u H l0 X 1 q cn Y N G F M y:=by
 refine dn λl=>aB (uf (H:=y) (xs:=[[66],gG,eW,ri].map V.ah) (j:=q/((3:Nat):Int)%((4:Nat):Int)) (jL _<|D rfl).1 (jL _<|D rfl).2) λt c en=>aB (eh.mp c) ?_;rintro x d rfl;refine l ?_;have d:x∈iB∨x=gG:=by
  have:∀x∈[[66],gG,eW,ri],x∈iB∨x=gG:=by decide
  exact this x d
 refine cp 20 rfl<|ck rfl (mM (k:=3)<|D rfl)<|ck rfl (fV<|D rfl)<|b5 rfl en<|wA rfl (λp p=>rfl) e f g o k ?_
 by_cases h:ks=[]
 ·subst h;exact⟨_,.ae d⟩
 ·clear l c;refine aB (k.up h) ?_;rintro j rfl r;obtain⟨v,s⟩:=JK ks h r;exact⟨_,.ja d s ⟨h,aE (b7 k.bK) hc⟩⟩
theorem V2(c:a≠b)(d:a<H.length)(e:b<H.length)(l:n<bg)(hc:2<=cn/\cn<=3)(f:gP a b H.length n B [] cn (H++[.af []]) y ks u Q):pQ m n a b B u H l0 X 2 q cn Y N G F M y:=by
 refine cp 200 rfl<|wA rfl (λo o=>rfl) c d e l f ?_;have g:=f.bK
 induction ks using aW with
 |nil=>exact ax g (by show¬0=cn;lia)
 |cons t r=>
  refine aB (f.up ju) ?_;rintro j rfl k
  induction r using aW with
  |nil=>exact ax g (by show¬1=cn;lia)
  |cons p r=>
   obtain⟨z,s⟩:=ug<|k t<|.head _;obtain⟨v,h⟩:=JL (p::r) ju λx w=>k x<|.tail _ w;exact⟨_,.un s h (by have:r.length+1+1=cn:=g;show r.length+1<=2;exact L2 hc.2<|b7 this)⟩
theorem V3(d:a≠b)(e:a<H.length)(f:b<H.length)(k:n<bg)(c:gP a b H.length n B [] 2 (H++[.af []]) y ks u Q):pQ m n a b B u H l0 X 3 q 2 Y N G F M y:=by
 refine cp 200 rfl (wA rfl (λl l=>rfl) d e f k c ?_)
 match ks,c.bK,c with
 |[t,o],_,c=>
  refine aB (c.up ju) ?_;rintro j rfl h;obtain⟨s,p⟩:=ug<|h t<|.head _;obtain⟨r,g⟩:=ug<|h o<|.tail _<|.head _;exact⟨_,.aa p g⟩
theorem V4(d:a≠b)(e:a<H.length)(f:b<H.length)(g:n<bg)(c:gP a b H.length n B [] 1 (H++[.af []]) y ks u Q):pQ m n a b B u H l0 X 4 q 1 Y N G F M y:=by
 refine cp 200 rfl (wA rfl (λh h=>rfl) d e f g c ?_)
 match ks,c.bK,c with
 |[t],_,c=>
  refine aB (c.up ju) ?_;rintro j rfl k;obtain⟨o,l⟩:=ug<|k t<|.head _;exact⟨_,.gi l⟩
theorem V5(d:a≠b)(e:a<H.length)(f:b<H.length)(g:n<bg)(c:gP a b H.length n B [] 1 (H++[.af []]) y ks u Q):pQ m n a b B u H l0 X 8 q 1 Y N G F M y:=by
 refine cp 200 rfl (wA rfl (λh h=>rfl) d e f g c ?_)
 match ks,c.bK,c with
 |[t],_,c=>
  refine aB (c.up ju) ?_;rintro j rfl k;obtain⟨o,l⟩:=k t<|.head _;exact⟨_,.gN l⟩
end
noncomputable def V6:E:=.ao 1075 [.bI .q (.l 5) (.bI .i (.c<|.aa 2)<|.bI .j (.c<|.aa 3)<|.l 9),.y (.l 7) (.l 9)]
section
variable{m n i a b B cn M B':Nat}{H G:Hp}{l0 X l4 j l6 Y Q y u F:Option V}{N:Cf}{ks:List T}{q:Int}
theorem V7{fl:Int}{k:T}{v:V}{H1 H2:Hp}(f:fl=2048∨fl=3072)(h:y9 i (br k) [] fl I H1 v H2):∃t,v=T.v t/\Kd (i+1) t/\br t<=br k/\Kp (λj=>False) H1 H2:=by
 refine dn λc=>?_;obtain⟨o,p,r,l,g,rfl,d,kp,hr,kr,b,x⟩:=h;refine c ?_;clear c
 induction r using gD with
 |none=>exact ax J<|hr J
 |some r=>
  obtain⟨e,kr⟩:=kr r J
  rcases f with rfl|rfl
  ·exact FV _ rfl ⟨_,.fn (.inl ⟨rfl,rfl⟩) d kp kr⟩ b x
  ·exact FV _ rfl ⟨_,.fn (.inr ⟨rfl,rfl⟩) d kp kr⟩ b x
theorem JP{d fl:Int}(hd:d=6/\fl=2048∨d=7/\fl=3072)(g:a≠b)(p:a<H.length)(r:b<H.length)(s:n<bg)(c:gP a b H.length n B [] 1 (H++[.af []]) G ks M B'):pQ m n a b B M H l0 X d q 1 Y Q y u F G:=by
 obtain⟨k,rfl⟩:∃k,ks=[k]:=by
  match ks,c.bK with
  |[t],_=>exact⟨t,J⟩
 refine aB (c.up ju) ?_;rintro j rfl l;have bb:br k+B'<=B:=c.br;have f:∀{fl:Int} {N:Cf} {v:V} {H1:Hp},fl=2048∨fl=3072->y9 j (br k) [] fl I G v H1->go N=.v (.ae a) [.dK .q [zb],.ex []] (kL a b H.length (j+1) l0 X (O<|.aa d) (O<|.aa q) (O<|.aa 1) Y (O v) y u F) H1->Jd (BX<|sd a b (n+1) (B+3) H) (m+5) N:=by
  intro fl N v H1 w h e;refine dn λA=>FU (V7 w h) ?_;rintro t rfl ht E x;exact A<|zd e g s ht c.hm (L2 bb E) (c.sr.kp x id id)<|c.j.q<|x.u λK K z=>z.elim
 have o:f9 (.ae H.length) (.aa 0) G=.ok k.v G:=hX c.hc J
 rcases hd with⟨rfl,rfl⟩|⟨rfl,rfl⟩
 ·exact bh rfl rfl<|bh rfl rfl<|dQ rfl rfl<|bh rfl rfl<|dQ rfl rfl<|cy rfl rfl<|ck (v:=.aa 0) rfl rfl<|ck rfl rfl<|b5 rfl o<|pO rfl (ww (l k<|.head _) rfl) λv H1 h=>f (.inl rfl) h rfl
 ·exact bh J J<|bh J J<|dQ J J<|bh J J<|dQ J J<|cy J J<|ck (H':=G) J J<|ck J J<|b5 J o<|pO J (ww (l k<|.head _) J) λv H1 h=>f (.inr J) h J
theorem V8{j c:Nat}{l:Lc}{H1:Hp}(f:l[5]? =O (O<|.aa q))(g:l[7]? =O (O<|.ae c))(h:l[9]? =O (O<|.aa (j:Int)))(d:j<3)(hc:H1[c]? =O (.af<|ks.map T.v))(o:ks[j]? =O k)(kd:Kd i k):∃t H2,az (ag<|m+5) V6 l H1=.ok (T.v t) H2/\wz i k t/\Kp (λE=>False) H1 H2:=by
 refine dn λp=>?_;obtain⟨v,H2,e1,t,r,rfl,w,s,x⟩:=JG kd (H:=H1);refine p ?_;have e:az (ag<|m+5) (.l 9) l H1=.ok (.aa (j:Int)) H1:=k7 h;have u:az (ag<|m+5) (.bI .q (.l 5)<|.bI .i (.c<|.aa 2)<|.bI .j (.c<|.aa 3)<|.l 9) l H1=.ok (.aa<|q/((2+3*j:Nat):Int)) H1:=by
  have z1:az (ag<|m+5) (.bI .j (.c<|.aa 3)<|.l 9) l H1=.ok (.aa<|3*(j:Int)) H1:=by
   show(az (ag<|m+5) (.l 9) l H1).i (λw H=>fQ .j (.aa 3) w H)=_;rw[e];exact r9 ⟨by decide,by unfold bg;lia⟩
  have y:az (ag<|m+5) (.bI .i (.c<|.aa 2)<|.bI .j (.c<|.aa 3)<|.l 9) l H1=.ok (.aa<|2+3*(j:Int)) H1:=by
   show(az (ag<|m+5) (.bI .j (.c<|.aa 3)<|.l 9) l H1).i (λw H=>fQ .i (.aa 2) w H)=_;rw[z1];rfl
  show(az (ag<|m+5) (.l 5) l H1).i (λv H=>(az (ag<|m+5) (.bI .i (.c<|.aa 2)<|.bI .j (.c<|.aa 3)<|.l 9) l H).i λw H=>fQ .q v w H)=_;rw[k7 f,jz,y];exact mM ⟨(by simp+arith only),by unfold bg;exact L3 d d d⟩
 have z:az (ag<|m+5) (.y (.l 7)<|.l 9) l H1=.ok k.v H1:=by
  show(az (ag<|m+5) (.l 7) l H1).i (λv H=>(az (ag<|m+5) (.l 9) l H).i λw H=>f9 v w H)=_;rw[k7 g,jz,e];exact hX hc (by rw[qb,o];rfl)
 refine cK t H2 ?_ ⟨⟨r,w⟩,s⟩ x;show(cu (ag<|m+5) [.bI .q (.l 5) (.bI .i (.c<|.aa 2)<|.bI .j (.c<|.aa 3)<|.l 9),.y (.l 7) (.l 9)] l H1).i (λA H=>ag (m+5) 1075 A H)=_;rw[tD u (tD z J)];exact e1
theorem JQ{d:Int}(hd:d=5∨d=9)(l:a≠b)(s:a<H.length)(t:b<H.length)(v:n<bg)(hc:cn<=3)(c:gP a b H.length n B [] cn (H++[.af []]) G ks M B'):pQ m n a b B M H l0 X d q cn Y Q y u F G:=by
 have f:=c.bK;refine cU (JJ (m:=m+5) (i:=9) (P:=wz<|M-1) (x:=.l 6) (l:=kL a b H.length M l0 X (O<|.aa d) (O<|.aa q) (O<|.aa (cn:Int)) Y Q y u F) (by rw[f];rfl) (aE (b7 f)<|aE hc<|D J) λj k o H1 x=>V8 J J J (iO ((fM.mp o).1)<|aE (b7 f) hc) (x.cN c.hc id) o (c.kd k<|mi o).2) λts H1 e1 r x=>?_
 have hm:=JN r;have kd:Kd M (aK 88 [] ts 0):=by
  by_cases h:ks=[]
  ·subst h;cases r;exact⟨_,.jD⟩
  ·refine aB (c.up h) ?_;rintro j rfl E;obtain⟨K,w⟩:=JM r h;exact⟨_,.gk w (by rw[hm.2,f];exact hc)⟩
 have g:∀{N:Cf},go N=.v (.ae a) [.dK .q [zb],.ex []] (kL a b H.length M l0 X (O<|.aa d) (O<|.aa q) (O<|.aa (cn:Int)) Y (O (aK 88 [] ts 0).v) y u F) (H1++[.i])->Jd (BX<|sd a b (n+1) (B+3) H) (m+5) N:=λ{N} e=>by
  refine zd e l v kd c.hm ?_ (c.sr.kp (x.q .j) id id)<|c.j.q<|(x.q .j).u λA A z=>z.elim;show eZ (ts.map O)+0+B'<=B+3;exact L4 hc (b7 f) c.br hm.1
 have p:ag (m+5) .aK [.aa 88,.ah [],.ae H1.length,.aa 0] (H1++[.af (ts.map T.v)])=.ok (aK 88 [] ts 0).v (H1++[.i]):=by
  rw[vC (ks:=ts.map O) (by rw[pj];exact cD),iA];rfl
 rcases hd with rfl|rfl
 ·exact cp 30 rfl<|bv rfl<|gL e1<|bn rfl p<|g rfl
 ·exact cp 30 J<|bv J<|gL e1<|bn J p<|g J
end
section
variable{m n i a b B:Nat}{H u:Hp}{G q Q M Y l7 N F y l11 j l13:Option V}{cf:Cf}{X:R (Fl×Lc)->Prop}{K':List Kf}{l:Lc}
theorem uh{x:Int}{k:Nat}(d:0<k):∃c:Nat,x%(k:Int)=(c:Int)/\c<k:=by
 have h:=jL x d;obtain⟨c,hc⟩:=Al h.1;exact aD c hc<|uI.mp<|hc▸h.2
theorem V9(x:Int):x%((10:Nat):Int)=0∨x%((10:Nat):Int)=1∨x%((10:Nat):Int)=2∨x%((10:Nat):Int)=3∨x%((10:Nat):Int)=4∨x%((10:Nat):Int)=5∨x%((10:Nat):Int)=6∨x%((10:Nat):Int)=7∨x%((10:Nat):Int)=8∨x%((10:Nat):Int)=9:=by lia
theorem Wa{x:Int}(e:a≠b)(f:a<H.length)(g:b<H.length)(o:n<bg)(sr:SR a b n B H):Jd (BX<|sd a b (n+1) (B+3) H) (m+5) (.s qJ [] [G,O (.ae a),O (.ae b),O (.aa x),Q,M,Y,l7,N,F,y,l11,j,l13] H):=by
 refine dn λz=>aB (uh (x:=x/((10:Nat):Int)) (k:=3)<|D J) λE r t=>aB (uh (x:=x/((10:Nat):Int)) (k:=2)<|D J) λK h2 v=>aB (uh (x:=x/((10:Nat):Int)) (k:=4)<|D J) λL h4 w=>z ?_;have it:∀{d:Int} {cn:Nat},x%((10:Nat):Int)=d->(∀H,f9 (JO<|x/((10:Nat):Int)) (.aa d) H=.ok (.aa (cn:Int)) H)->cn<=3->(∀ks p s u F l11 j,gP a b H.length n B [] cn (H++[.af []]) u ks p s->pQ m n a b B p H G (O<|.aa x) d (x/((10:Nat):Int)) cn F y l11 j l13 u)->Jd (BX<|sd a b (n+1) (B+3) H) (m+5) (.s qJ [] [G,O (.ae a),O (.ae b),O (.aa x),Q,M,Y,l7,N,F,y,l11,j,l13] H):=
  λA h2 r q=>VZ e o A h2 r sr f g λks p s u F l11 j k=>q ks p s u F l11 j k
 rcases V9 x with h|h|h|h|h|h|h|h|h|h
 ·exact it h (λc=>rfl) (D rfl) λc c c c c c c k=>V0 e o k
 ·exact it h (λc=>(show _=R.ok (V.aa<|x/((10:Nat):Int)%((3:Nat):Int)) _ from rfl).trans<|by rw[r]) (sQ t) λc c c c c c c k=>V1 e f g o (sQ t) k
 ·exact it h (λc=>(show _=R.ok (V.aa<|2+x/((10:Nat):Int)%((2:Nat):Int)) _ from rfl).trans (by rw[h2];rfl)) (jo (An v) 2) λc c c c c c c k=>V2 e f g o ⟨d7 ..,jo (An v) 2⟩ k
 ·exact it h (λc=>rfl) (D rfl) λc c c c c c c k=>V3 e f g o k
 ·exact it h (cn:=1) (λc=>J) (D J) λc c c c c c c k=>V4 e f g o k
 ·exact it h (λc=>(show _=R.ok (V.aa<|x/((10:Nat):Int)%((4:Nat):Int)) _ from J).trans<|by rw[h4]) (An w) λc c c c c c c k=>JQ (.inl J) e f g o (An w) k
 ·exact it h (cn:=1) (λc=>J) (D J) λc c c c c c c k=>JP (.inl ⟨J,J⟩) e f g o k
 ·exact it h (cn:=1) (λc=>J) (D J) λc c c c c c c k=>JP (.inr ⟨J,J⟩) e f g o k
 ·exact it h (cn:=1) (λc=>J) (D J) λc c c c c c c k=>V5 e f g o k
 ·exact it h (cn:=1) (λc=>J) (D J) λc c c c c c c k=>JQ (.inr J) e f g o (D J) k
theorem Wb(k:a≠b):∀(c:List Int) (n B:Nat) (l:Lc) (H:Hp),zc a b l->SR a b n B H->n+c.length<=100->∃E u,dm (λv l H=>aZ (ag<|m+5) qJ (l.set 3<|O v) H) (c.map V.aa) l H=.ok (.aU,E) u/\zc a b E/\SR a b (n+c.length) (B+3*c.length) u/\Kp (λx=>x=a∨x=b) H u/\(c≠[]->u[a]? ≠O (.af [])):=by
 intro c
 induction c with
 |nil=>
  intro n B l H lc sr o;exact A1 l H J lc sr .refl (λh=>ax J h)
 |cons x c K=>
  intro n B o H P sr e;obtain⟨G,q,Q,M,Y,l7,N,F,y,l11,j,l13⟩:=P;have p:a<H.length:=by obtain⟨_,_,h⟩:=sr;exact hW h.hs
  have r:b<H.length:=by obtain⟨_,_,h⟩:=sr;exact hW h.hr
  have e:n+(c.length+1)<=100:=e;refine dn λL=>?_;obtain⟨S,H1,e1,s,t,w,z⟩:=C5<|Wa (l11:=l11) (l13:=l13) k p r (jq (aE (d7 ..) e)<|D J) sr;refine xW (K (n+1) (B+3) S H1 s t<|L1 e) λT H2 e2 f d g A=>L<|A1 T H2 ?_ f ?_ (w.q g) λo=>?_
  ·show(match aZ (ag<|m+5) qJ [G,O (.ae a),O (.ae b),O (.aa x),Q,M,Y,l7,N,F,y,l11,j,l13] H with|.ok (.aU,l) H=>_|.ok (.q,l) H=>_|.ok (.u,l) H=>_|.ok (.am v,l) H=>_|_=>_)=_;rw[e1];exact e2
  ·rw[kn,km 1] at d;rw[kn B,km 3] at d;exact d
  ·by_cases h:c=[]
   ·clear o e d K L g f;clear e;subst h;cases e2;exact z
   ·exact A h
theorem JR{i s:Nat}{b r:List S}(e:go cf=.s (.y i x b::r) K' l H)(f:az (ag m) x l H=.ok (.ae s) H)(hs:H[s]? =O (.af c))(g:dm (λv l H=>aZ (ag m) b (l.set i<|O v) H) c l (H.set s .i)=.ok (.aU,d) u)(q:Jd X m<|.s r K' d<|u.set s<|.af c):Jd X m cf:=
 bv e (bf (by
  have e1:f0 (ag m) (.y i x b) l H=.ok (.aU,d) (u.set s<|.af c):=by
   show R.i (az (ag m) x l H) _=_;rw[f];show(match H[s]? with|some (.af c)=>(dm (λv l H=>aZ (ag m) b (l.set i<|O v) H) c l<|H.set s .i).i λr H=>R.ok r (H.set s<|.af c)|_=>.j)=_;rw[hs];dsimp only;rw[g];rfl
  show R.i (R.i (f0 (ag m) (.y i x b) l H) _) _=_;rw[e1];rfl) q)
end
section
variable{m n i a b B:Nat}{H q:Hp}{u:Cf}{X:R (Fl×Lc)->Prop}{j:List Kf}{l:Lc}
theorem rv(h:H[a]? =O (.af c)):(H.set a .i).set a (.af c)=H:=by
 refine dn λd=>?_;obtain⟨f,e⟩:=fM.mp h;refine d ?_;rw[oo,<-e,Nu]
theorem Dc{c:List V}{g:V->V}(f:az (ag m) it l d=.ok (.ae a) H)(j:H[a]? =O (.af c))(h:∀u∈c,az (ag m) e (l.set x<|O u) (H.set a .i)=.ok (g u) (H.set a .i)):az (ag m) (.i e x it) l d=.ok (.ae H.length) (H++[.af (c.map g)]):=by
 show R.i (az (ag m) it l d) _=_;rw[f];show R.i (match H[a]? with|some (.af k)=>(eY (λv H=>az (ag m) e (l.set x<|O v) H) k<|H.set a .i).i λr H=>R.ok r (H.set a<|.af k)|_=>.j) _=_;rw[j]
 dsimp only
 rw[JC h];show R.ok (V.ae ((H.set a .i).set a<|.af c).length) (((H.set a .i).set a<|.af c)++[.af (c.map g)])=_;rw[rv j]
noncomputable def se(p:T×Nat):V:=p.1.v
structure Wc(n:Nat)(H q:Hp)(r:Nat)(ks:List T):Prop where
 hr:q[r]? =some (.af (ks.map T.v))
 ne:ks≠[]
 kd:∀k∈ks,Kd 2 k
 ln:ks.length<=n
 bb:eZ (ks.map some)<=3*n
 kp:Kp (λξ=>False) H q
inductive Wd(n:Nat)(H:Hp)(v:V)(q:Hp):Prop where
 |mk (r:Nat) (ks:List T) (hv:v=.ae r) (h:Wc n H q r ks)
theorem We{c:List Int}(hs:H[s]? =O (.af<|c.map V.aa))(K:c.length<=100)(Y:c≠[]):∃v q,ag (m+6) 1087 [.ae s] H=.ok v q/\Wd c.length H v q:=by
 have g:=hW hs;have as:=e9 g;have L:s≠(H++[b4.af []]).length:=by rw[bx];exact e9<|Nv g
 have Z:H.length≠(H++[b4.af []]).length:=by rw[bx];exact e9<|sM _
 refine dn λo=>xW (Wb (m:=m) Z c 0 0 [O (.ae s),O (.ae H.length),O (.ae (H++[b4.af []]).length),U,U,U,U,U,U,U,U,U,U,U] (((H++[b4.af []])++[b4.af []]).set s .i) (.mk ..) ⟨[],[],fq as<|cQ cD,fq L cD,λ_ h=>ax h eU,λ_ h=>ax h eU,bF _,bF _⟩ (by rw[c9];exact K)) λl' H1 e1 lc sr kp ne=>?_
 rw[c9] at sr;clear g;obtain⟨l0,l3,l4,l5,l6,l7,l8,l9,r,t,y,A⟩:=lc;have E:Kp (λM=>False) H (H1.set s<|.af<|c.map V.aa):=by
  have F:=kp.bK;rw[sK] at F;have x:=Kp.j (P:=λM=>False) (H:=H) (l:=[b4.af []]);have z:=x.q<|Kp.j (l:=[b4.af []]);refine⟨by rw[sK];exact aE z.bK F,λj d M=>?_⟩
  by_cases e:j=s
  ·subst e;rw[oi (iO d<|aE z.bK F),hs]
  ·rw[mS (eG e),kp.jA j (by rw[sK];exact iO d z.bK) (λw=>w.elim (e9 d) λw=>by rw[bx] at w;exact ax w<|e9<|Nv d),mS (eG e)];exact z.jA j d id
 have G:(H1.set s<|.af<|c.map V.aa)[H.length]? ≠O (.af []):=by rw[mS as];exact ne Y
 obtain⟨st,rs,N,s2,s3,s4,P,Q⟩:=(sr.kp (P:=(·=s)) (.y (.inl J) .refl) (eG as)<|eG L);refine o<|iL J J<|JR (b:=qJ) J J (cQ<|cQ hs) e1 ?_;generalize H1.set s (.af<|c.map V.aa)=H2 at*;have S:∀f,az (ag<|m+5) (.i (.y (.l 13)<|.c<|.aa 0) 13<|.l 1) [l0,O (.ae H.length),O (.ae (H++[b4.af []]).length),l3,l4,l5,l6,l7,l8,f,r,t,y,A] H2=.ok (.ae H2.length) (H2++[b4.af (st.map se)]):=λf=>by
  rw[Dc (g:=λv=>match v with|.u (x::_)=>x|v=>v) J N λu hu=>?_,rc]
  ·rfl
  ·refine dn λo=>aB (eh.mp hu) ?_;rintro p hp rfl;refine o ?_
   rfl
 refine bv J<|gL (S _)<|ck J (H':=(H2++[b4.af (st.map se)])++[b4.af ((rs++st.map adj).map T.v)]) ?_ (gn J ⟨_,rs++st.map adj,J,cD,?_,?_,?_,?_,E.q<|Kp.j.q .j⟩)
 ·show(match(H2++[b4.af (st.map se)])[(H++[b4.af []]).length]?,(H2++[b4.af (st.map se)])[H2.length]? with|some (.af c),O (.af W)=>if(c++W).length<=bg then R.ok (V.ae (H2++[b4.af (st.map se)]).length) ((H2++[b4.af (st.map se)])++[b4.af (c++W)]) else .j|_,_=>.j)=_;rw[cQ s2,cD]
  dsimp only
  have:(rs.map T.v++st.map se).length<=bg:=by
   rw[bx,c3,c3];exact aE (aE (b7<|km ..)<|aE P K)<|D J
  rw[aN this,dz,rc];rfl
 ·intro h;have h:=xz.mp h;have h:=adk.mp h.2;clear S;subst h;exact G N
 ·intro k hk
  rcases eT.mp hk with hk|hk
  ·exact s4 k hk
  ·refine aB (eh.mp hk) ?_;rintro p hp rfl;have:=s3 p hp;exact this.1.up<|by lia
 ·rw[bx,c3,km];exact P
 ·rw[dz,wy,rc,km];rw[c9] at Q;exact Q
end
noncomputable def rl:List W->Nat
 |[]=>0
 |w::r=>rl r+w.w.length
noncomputable def bw(w:W):Bool:=decide (w.k=5)&&decide (w.x=[91])
noncomputable def cw:List W->Nat
 |[]=>0
 |w::r=>cw r+if bw w then 1 else 0
theorem e8:∀a b:List W,rl (a++b)=rl a+rl b
 |[],b=>(c9 _).symm
 |w::r,b=>by show rl (r++b)+_=rl r+_+_;rw[e8 r b,ER]
theorem eS:∀a b:List W,cw (a++b)=cw a+cw b
 |[],b=>(c9 _).symm
 |w::r,b=>by show cw (r++b)+_=cw r+_+_;rw[eS r b,ER]
theorem JS:∀a:List W,(aY a).length=rl a
 |[]=>rfl
 |w::r=>by rw[f2,bx,JS r,km];rfl
noncomputable def Bz:Nat->Nat
 |0=>12
 |i+1=>15*Bz i+500
noncomputable def LB(i n:Nat):gw->Nat
 |.kd=>Bz i
 |.u _=>Bz i+2
 |.nM=>n*(Bz i+2)
 |.nN=>n*(Bz i+5)
 |.q=>Bz i+40
 |.pm=>Bz i+16
 |.y _ _=>n*(Bz i+18)
 |.ps=>3*Bz i+56
 |.am=>Bz i+16
 |.sg=>5*Bz i+114
 |.i=>5*Bz i+160
 |.j=>n*(5*Bz i+162)
theorem Dd(h:a∈iB∨a=gG):rl (d6 a)<=4/\cw (d6 a)=0:=by
 have:∀a∈gG::iB,rl (d6 a)<=4/\cw (d6 a)=0:=by decide
 exact this a<|h.elim (.tail _) λe=>e▸ .head _
theorem De{fl:Int}(h:fH w a fl):rl w<=11/\cw w=0:=by
 have:∀a∈nJ,a.length<=8:=by decide
 cases h with
 |dots h=>exact⟨sO (aE (b7<|c9 _)<|this a h) 3,J⟩
 |i h=>have:=this a h;exact⟨by show 0+1+a.length<=11;exact L1 this,J⟩
 |gh h=>have:=this a h;exact⟨by show 0+a.length<=11;exact L1 this,J⟩
 |this=>exact⟨by decide,J⟩
theorem Wf{n:W}(h:n∈dY∨n=wd bH∨n=st bH fO):n.w.length<=12/\bw n=false:=by
 have:∀n∈wd bH::st bH fO::dY,n.w.length<=12/\bw n=false:=by decide
 exact this n<|h.elim (λh=>.tail _<|.tail _ h) λh=>h.elim (λe=>e▸ .head _) λe=>e▸ .tail _ (.head _)
theorem Df{fl:Int}(h:n∈dY∨n=wd bH∨n=st bH fO)(b:fT n w fl):rl w<=22/\cw w=0:=by
 obtain⟨a,h2⟩:=Wf h;have e:(if bw n=I then 1 else 0)=0:=by rw[h2];rfl
 induction b with
 |gh=>exact⟨by show 0+n.w.length<=22;exact L1 a,by show 0+_=0;rw[e]⟩
 |i=>exact⟨by show 0+1+n.w.length<=22;exact L1 a,by show 0+0+_=0;rw[e]⟩
 |ro=>exact⟨by show 0+n.w.length+1+8<=22;exact L1 a,by show 0+(if bw n=I then 1 else 0)+0+0=0;rw[e]⟩
 |j=>exact⟨by show 0+1+n.w.length+1+8<=22;exact L1 a,by show 0+0+(if bw n=I then 1 else 0)+0+0=0;rw[e]⟩
theorem JT(a:List W):rl (d9 I a)=rl a/\cw (d9 I a)=cw a:=by
 cases a<;>exact⟨J,J⟩
structure KB(i:Nat)(c:gw)(ks:List T)(ws:List W):Prop where
 l:rl ws<=LB i ks.length c
 b:cw ws<=eZ (ks.map some)
theorem Dg(i:Nat):12<=Bz i:=by
 induction i using fW with
 |zero=>exact bF _
 |succ i=>show 12<=15*Bz i+500;exact by simp+arith only
theorem Dh(h:n<=3):n*B<=3*B:=ES _ h
theorem zf(h:l<=B):l<=1*B:=by rw[EW];exact h
theorem wB(h:l<=a)(c:b<=n*B)(e:a+2<=B):l+(b+1+1)<=(n+1)*B:=by rw[adl];exact L3 h c e
noncomputable def Wh(c:gw)(o:List T):Prop:=match c with
 |.q=>eZ (o.map O)=j8 o.head?
 |_=>True
theorem Di(h:K b m i c o a):Wh c o:=by
 induction h with
 |i|iG|ib|ic=>exact rfl
 |_=>exact dr
theorem Dj{a:List Nat}(h:a∈hY):a.length<=3:=by
 have:∀a∈hY,a.length<=3:=by decide
 exact this a h
theorem Dk(h:K b m i c ks f):KB i c ks f:=by
 induction h with
 | @i9 i a h=>
  have:∀a∈qB,a.length<=12:=by decide
  exact⟨aE (b7<|c9 _)<|aE (this a h)<|Dg i,bF _⟩
 | @ae i a h=>exact⟨aE (Dd h).1<|aE (D J)<|Dg i,b7 (Dd h).2⟩
 | @ja i a ks f h _ y d=>
  have r:=Dd h;have l:=d.l;have z:=Dh (B:=Bz i+2) y.2;refine⟨?_,?_⟩
  ·rw[e8];show rl (d6 a)+(rl (f++[sg [62]])+1)<=15*Bz i+500
   rw[e8];show rl (d6 a)+(rl f+1+1)<=_
   have l:rl f<=ks.length*(Bz i+2):=l;exact L3 r.1 z l
  ·rw[eS,r.2,c9];rw[eS];exact d.b
 | @gN i k f _ d=>
  refine⟨?_,?_⟩
  ·show rl (f++[sg [41]])+1<=15*Bz i+500;rw[e8];have l:rl f<=Bz i:=d.l;show rl f+1+1<=_;exact L1 l
  ·rw[eS];exact d.b
 | @jD i=>exact⟨aE (D J)<|Dg i,bF _⟩
 | @gk i ks f _ y d=>
  have z:=Dh (B:=5*Bz i+162) y;refine⟨?_,?_⟩
  ·show rl (f++[sp,sg [125]])+1+1<=15*Bz i+500;rw[e8];have l:rl f<=ks.length*(5*Bz i+162):=d.l;show rl f+2+1+1<=_;exact L2 z l
  ·rw[eS];exact d.b
 | @gi i k f _ d=>
  refine⟨?_,?_⟩
  ·rw[e8];have l:rl f<=Bz i+2:=d.l;show rl f+2<=15*Bz i+500;exact L1 l
  ·rw[eS];exact sO d.b 1
 | @aa i k G f s _ _ d g=>
  refine⟨?_,?_⟩
  ·rw[e8];have l:rl f<=Bz i+2:=d.l;have v:rl s<=Bz i+2:=g.l;show rl f+(rl s+1+1+1)<=15*Bz i+500;exact L2 l v
  ·rw[eS];show cw f+cw s<=br k+(br G+0);exact gq d.b g.b
 | @un i k ks f s _ _ y d g=>
  refine⟨?_,?_⟩
  ·rw[e8];have l:rl f<=Bz i+2:=d.l;have v:rl s<=ks.length*(Bz i+5):=g.l
   have z:ks.length*(Bz i+5)<=2*(Bz i+5):=ES _ y;show rl f+(rl s+1+1+1)<=15*Bz i+500;exact L3 l v z
  ·rw[eS];show cw f+cw s<=br k+eZ (ks.map O);exact gq d.b g.b
 | @fn i w fl o p r f s t H A _ _ B E u=>
  have e:rl w<=4/\cw w=0:=by rcases H with⟨rfl,_⟩|⟨rfl,_⟩<;>exact⟨by decide,rfl⟩
  refine⟨?_,?_⟩
  ·rw[e8,e8,e8];have L:rl f<=Bz i+40:=B.l;have M:rl s<=3*Bz i+56:=E.l;have F:rl t<=Bz i+16:=u.l
   show rl w+(rl f+(rl s+(rl t+1+2+1)))<=15*Bz i+500;exact L4 e.1 L M F
  ·rw[eS,eS,eS,e.2,c9];show cw f+(cw s+cw t)<=j8 o.head? +(br p+br r);exact gq (aE B.b<|b7<|Di A)<|gq E.b u.b
 |iD _ _ d=>exact⟨f4<|f4 d.l,d.b⟩
 | @jb i j k f _ _ d=>
  refine⟨?_,?_⟩
  ·show rl (f++[sg [41]])+1<=Bz i+2;rw[e8];exact sO d.l 2
  ·rw[eS];exact d.b
 | @iE i k f _ d=>exact⟨zf<|aE d.l<|jo (D J) _,d.b⟩
 | @h9 i k ks f s _ _ d g=>
  refine⟨?_,?_⟩
  ·rw[e8];show rl f+(rl s+1+1+1)<=(ks.length+1)*(Bz i+5);have l:rl f<=Bz i+2:=d.l;have v:rl s<=ks.length*(Bz i+5):=g.l;rw[adl];exact L2 l v
  ·rw[eS];exact gq d.b g.b
 |iF _ d=>exact⟨zf<|f4<|f4 d.l,d.b⟩
 |ia _ _ d g=>exact⟨by rw[e8];exact wB d.l g.l<|bF _,by rw[eS];exact gq d.b g.b⟩
 |i=>exact⟨dG _,dG _⟩
 | @iG i a h=>exact⟨by have:=Dj h;show 0+1+a.length+1+3+1<=Bz i+40;exact L1 this,dG _⟩
 | @ib i a k f h _ d=>
  refine⟨?_,?_⟩
  ·have:=Dj h;show rl (f++[sg [62]])+1+7+1+a.length+1<=Bz i+40;rw[e8];have l:rl f<=Bz i:=d.l;show rl f+1+1+7+1+a.length+1<=_;exact L2 this l
  ·rw[eS];exact d.b
 | @ic i a k f h _ d=>
  refine⟨?_,?_⟩
  ·have:=Dj h;show rl (f++[sg [62]])+25+a.length+4<=Bz i+40;rw[e8];have l:rl f<=Bz i:=d.l;show rl f+1+25+a.length+4<=_;exact L2 this l
  ·rw[eS];exact aE d.b<|b7 (Jx k).symm
 |jE h=>exact⟨aE (De h).1<|aE (D J)<|hG ..,aE (b7 (De h).2)<|dG _⟩
 | @jc i a fl k w f h _ d=>
  have e:=De h;refine⟨?_,?_⟩
  ·rw[e8];have l:rl f<=Bz i:=d.l;show rl w+(rl f+1+1)<=Bz i+16;exact L2 e.1 l
  ·rw[eS,e.2,c9];exact aE d.b<|b7 (JB (f:=fl)).symm
 |j=>exact⟨dG _,dG _⟩
 |jd _ N h2 d=>exact⟨zf<|f4<|f4 d.l,d.b⟩
 |iH _ N h2 Q _ d g=>exact⟨by rw[e8];exact wB d.l g.l<|bF _,by rw[eS];exact gq d.b g.b⟩
 | @ps i ks f _ y d=>
  have z:=Dh (B:=Bz i+18) y;refine⟨?_,?_⟩
  ·show rl (f++[sg [41]])+1<=3*Bz i+56;rw[e8];have l:rl f<=ks.length*(Bz i+18):=d.l;show rl f+1+1<=_;exact L2 z l
  ·rw[eS];exact d.b
 |ef _ d=>exact⟨aE d.l<|d7 ..,d.b⟩
 | @je i k f _ d=>exact⟨by show rl f+5<=Bz i+16;exact gq d.l<|D J,d.b⟩
 |q=>exact⟨aE (D J)<|hG ..,dG _⟩
 | @jf i k f _ d=>exact⟨by show rl f+16<=Bz i+16;exact gq d.l<|D J,d.b⟩
 | @jg i k f _ d=>exact⟨by show rl f+11<=Bz i+16;exact gq d.l<|D J,d.b⟩
 | @ie i a fl o p f s A _ d g=>
  refine⟨?_,?_⟩
  ·rw[e8];have l:rl f<=Bz i+40:=d.l;have v:rl s<=3*Bz i+56:=g.l;show rl f+rl s<=5*Bz i+114;exact L2 l v
  ·rw[eS];show cw f+cw s<=j8 o.head? +br p;exact gq (aE d.b<|b7<|Di A) g.b
 | @g3 i a fl o p r f s t A _ _ d g u=>
  refine⟨?_,?_⟩
  ·rw[e8,e8];have l:rl f<=Bz i+40:=d.l;have v:rl s<=3*Bz i+56:=g.l;have F:rl t<=Bz i+16:=u.l;show rl f+(rl s+(rl t+1+1))<=5*Bz i+114;exact L3 l v F
  ·rw[eS,eS];show cw f+(cw s+cw t)<=j8 o.head? +(br p+br r);exact gq (aE d.b<|b7<|Di A)<|gq g.b u.b
 |iI h x=>
  have e:=Df (g5 h) x;exact⟨aE e.1<|aE (D J)<|hG ..,aE (b7 e.2)<|dG _⟩
 | @ig i n w fl k f h x _ d=>
  have e:=Df (g5 h) x;refine⟨?_,?_⟩
  ·rw[e8];have l:rl f<=Bz i:=d.l;have e:=e.1;show rl w+(rl f+1+1)<=5*Bz i+160;exact L2 l e
  ·rw[eS,e.2,c9];exact d.b
 | @g4 i n w fl ks f h x _ _ d=>
  have e:=Df (nT h) x;refine⟨?_,?_⟩
  ·rw[e8];have l:rl f<=5*Bz i+114:=d.l;have e:=e.1;show rl w+rl f<=5*Bz i+160;exact L2 l e
  ·rw[eS,e.2,c9];exact d.b
 |ii _ d=>exact⟨aE d.l<|jo (D J) _,d.b⟩
 | @ij i ks f _ d=>exact⟨by show rl f+4<=5*Bz i+114+46;exact gq d.l<|D J,d.b⟩
 | @ik i w fl a k f h x _ d=>
  have e:rl w<=9/\cw w=0:=by rcases h with⟨rfl,_⟩|⟨rfl,_⟩<;>exact⟨by decide,rfl⟩
  have P:a.length<=8:=by rcases x with rfl|rfl<;>decide
  refine⟨?_,?_⟩
  ·rw[e8];have l:rl f<=Bz i:=d.l;have e:=e.1;show rl w+(rl f+11+a.length+1)<=5*Bz i+160;exact L3 P l e
  ·rw[eS,e.2,c9];exact aE (sO d.b 1)<|b7 (JF k).symm
 |ms1 _ d=>exact⟨zf<|f4<|f4 d.l,d.b⟩
 |gB h _ _ d g=>exact⟨by rw[e8];exact wB d.l g.l<|bF _,by rw[eS];exact gq d.b g.b⟩
 |iJ h _ _ d g=>exact⟨by rw[e8];exact wB d.l g.l<|bF _,by rw[eS];exact gq d.b g.b⟩
 | @iK i k ks f s h _ _ x d g=>
  refine⟨?_,?_⟩
  ·rw[e8];show rl f+(rl (d9 I s)+1)<=_;rw[(JT s).1];exact aE (et _)<|wB d.l g.l<|bF _
  ·rw[eS];rw[(JT s).2];exact gq d.b g.b
mutual
noncomputable def JU:T->Prop
 |.nd k _ ks _ _=>(k=98->∃t,ks=[O t])/\qK ks
noncomputable def qK:List (Option T)->Prop
 |[]=>True
 |o::r=>zg o/\qK r
noncomputable def zg:Option T->Prop
 |none=>True
 |some t=>JU t
end
theorem fz{k f p:Int}(b:k≠98)(h:qK ks):qK [O (.nd k a ks f p)]:=⟨⟨λe=>ax e b,h⟩,bk⟩
theorem Dl{o:List T}(h:qK<|o.map O):zg o.head? :=by
 induction o using aW with
 |nil=>trivial
 |cons t r=>exact h.1
theorem Dm{ks:List T}(h:K b m i c ks k):qK (ks.map O):=by
 induction h with
 |i9 h=>exact fz (D J) bk
 |ae h=>exact fz (D J) bk
 |ja h _ l f=>exact fz (D J) f
 |gN _ f=>exact⟨⟨λr=>⟨_,J⟩,f⟩,bk⟩
 |jD=>exact fz (D J) bk
 |gk _ _ f=>exact fz (D J) f
 |gi _ f=>exact fz (D J) f
 |aa _ _ a c=>exact fz (D J) ⟨a.1,c⟩
 |un _ _ l a c=>exact fz (D J) ⟨a.1,c⟩
 |fn s _ _ _ a c d=>exact fz (D J) ⟨Dl a,c.1,d.1,bk,bk⟩
 |iD h _ f=>exact f
 |jb h _ f=>exact f
 |iE _ f=>exact f
 |h9 _ _ a c=>exact⟨a.1,c⟩
 |iF _ f=>exact f
 |ia _ _ a c=>exact⟨a.1,c⟩
 |i=>exact bk
 |iG h=>exact fz (D J)<|fz (D J) ⟨bk,bk,bk⟩
 |ib h _ f=>exact fz (D J)<|fz (D J) ⟨f.1,bk,bk⟩
 |ic h _ f=>exact fz (D J) ⟨⟨λe=>ax e<|D J,bk,bk,bk⟩,fz (D J) ⟨⟨λe=>ax e<|D J,bk⟩,f.1,bk⟩⟩
 |jE h=>exact fz (D J) ⟨⟨λe=>ax e<|D J,bk⟩,bk,bk,bk⟩
 |jc h _ f=>exact fz (D J) ⟨⟨λe=>ax e<|D J,bk⟩,f.1,bk,bk⟩
 |j=>exact bk
 |jd _ o h2 f=>exact f
 |iH _ o h2 t _ a c=>exact⟨a.1,c⟩
 |ps _ n f=>exact fz (D J) f
 |ef _ f=>exact f
 |je _ f=>exact fz (D J) f
 |q=>exact fz (D J) ⟨bk,bk⟩
 |jf _ f=>exact fz (D J) f
 |jg _ f=>exact fz (D J) f
 |ie _ _ a c=>exact fz (D J) ⟨Dl a,c.1,bk,bk,bk⟩
 |g3 _ _ _ a c d=>exact fz (D J) ⟨Dl a,c.1,d.1,bk,bk⟩
 |iI h g=>exact fz (D J) ⟨bk,bk⟩
 |ig h g _ f=>exact fz (D J) f
 |g4 h g p _ f=>exact f
 |ii _ f=>exact f
 |ij _ f=>exact f
 |ik h g _ f=>exact fz (D J) ⟨⟨λe=>ax e<|D J,bk⟩,f.1,bk⟩
 |ms1 _ f=>exact f
 |gB h _ _ a c=>exact⟨a.1,c⟩
 |iJ h _ _ a c=>exact⟨a.1,c⟩
 |iK h _ _ g a c=>exact⟨a.1,c⟩
noncomputable def pR:List S:=match rz with
 |[_,_,_,.jw _ _ b,_]=>b
 |_=>[]
noncomputable def Dn:Option T->Prop
 |none=>True
 |some t=>tP t
noncomputable def Do:Option T->Nat
 |none=>0
 |some t=>ht t
noncomputable def wC:Option T->Nat
 |none=>1
 |some t=>sz t
section
variable{m n i a b c:Nat}{H j:Hp}{y:Cf}{X:R (Fl×Lc)->Prop}{u:List Kf}{l:Lc}{v:V}
theorem Wi{i n:Nat}{b r:List S}(e:go y=.s (.jw i x b::r) u l H)(f:az (ag m) x l H=.ok (.aa (n:Nat)) H)(g:n<=bg)(h:dm (λv l H=>aZ (ag m) b (l.set i<|O v) H) ((kj n).map λ(i:Nat)=>V.aa (i:Int)) l H=.ok (.am v,d) j)(q:Jd X m<|.fl (.am v) u d j):Jd X m y:=
 bv e (bf (by
  have e1:f0 (ag m) (.jw i x b) l H=.ok (.am v,d) j:=by
   show R.i (az (ag m) x l H) _=_;rw[f];exact(aN ⟨qa n,sN.mpr g⟩).trans<|h
  show R.i (R.i (f0 (ag m) (.jw i x b) l H) _) _=_;rw[e1];rfl) q)
theorem Dp{d:List V}{i:Nat}{v:V}(e:d[i]? =O v):f9 (.af d) (.aa i) H=.ok v H:=by
 have p:fR (i:Int) d.length=O i:=by
  unfold fR;rw[aN (qa i),aN (uI.mpr<|(fM.mp e).1)];rfl
 show cG ((fR (i:Int) d.length).bind λj=>d[j]?) H=_;rw[p];show cG d[i]? H=_;rw[e];rfl
theorem Dq{i:Nat}:∀{ks:List<|Option T} {i:Nat},ks[i]? =O o->(fj ks)[i]? =O (ov o)
 |o::r,0,h=>by obtain rfl:=cS h;rfl
 |_::r,i+1,h=>Dq (ks:=r) (i:=i) h
 |[],_,h=>ba h
theorem wD:∀(ks:List<|Option T),(fj ks).length=ks.length:=by
 intro r
 induction r with
 |nil=>
  exact J
 |cons _ r d=>
  exact bJ (·+1)<|d
theorem sf(h:H[c]? =O (.af d)):H.set c (.af d)=H:=by
 obtain⟨f,e⟩:=fM.mp h;rw[<-e,Nu]
inductive lS(c:Nat)(xs:List V)(H:Hp)(f:Option (List Int))(z:Nat)(r:R V):Prop where
 |mk (js:List V) (hr:r=.ok (.i f.isSome) (H.set c (.af (xs++js)))) (h:∀os,f=some os->js=os.map V.aa) (hz:js.length<=z)
noncomputable def Wj:Option (List Int)->Fl
 |none=>.am<|.i C
 |some _=>.aU
inductive Wk(c:Nat)(xs:List V)(H:Hp)(f:Option (List Int))(z:Nat)(d q:V)(r:R (Fl×Lc)):Prop where
 |mk (js:List V) (l3:Option V) (hr:r=.ok (Wj f,[some d,some q,some (.ae c),l3]) (H.set c (.af (xs++js)))) (h:∀os,f=some os->js=os.map V.aa) (hz:js.length<=z)
set_option tactic.hygienic true in
theorem Wl{k f p A B E:Int}{a F:List Nat}(ih:∀(d r:Option T) (s:List V) (H:Hp),Do r<=n->zg d->Dn r->H[c]? =O (.af s)->s.length+wC r<=bg->lS c s H (i8 d r) (wC r) (ag m 1101 [ov d,ov r,.ae c] H))(hb:k=98->(∀o∈ks,o≠U)/\∀o∈ks',o≠U):
  ∀(u rs g P:List<|Option T) (s:List V) (H:Hp) (Q:Option V),ks=g++u->ks'=P++rs->g.length=P.length->u.length=rs.length->qK u->nF rs->fk rs<=n->H[c]? =O (.af s)->s.length+fm rs<=bg->
   Wk c s H (gM (decide (k=98)) u rs) (fm rs) (T.nd k a ks f p).v (T.nd A F ks' B E).v (dm (λv l H=>aZ (ag m) pR (l.set 3<|O v) H) ((ll g.length u.length).map λ(i:Nat)=>V.aa (i:Int)) [O (T.nd k a ks f p).v,O (T.nd A F ks' B E).v,O (.ae c),Q] H):=by
 intro u
 induction u with
 |nil=>
  intro rs g P s H Q _ _ _ hl _ _ _ hc _;rw[xD hl.symm];exact⟨[],Q,by rw[cM,sf hc];rfl,λos h=>by obtain rfl:=cS h;rfl,bF _⟩
 |cons o u ihd=>
  intro rs g P s H Q e1 e2 el hl S W G hc hz
  induction rs using aW with
  |nil=>cases hl
  |cons q rs=>
  have g1:ks[g.length]? =O o:=by rw[e1];exact(qY<|bF _).trans (by rw[p9];rfl)
  have g2:ks'[g.length]? =O q:=by rw[e2,el];exact(qY<|bF _).trans (by rw[p9];rfl)
  have i1:∀H:Hp,f9 (.af<|fj ks) (.aa g.length) H=.ok (ov o) H:=λH=>Dp<|Dq (i:=0) g1;have i2:∀H:Hp,f9 (.af<|fj ks') (.aa g.length) H=.ok (ov q) H:=λH=>Dp<|Dq (i:=0) g2;have h1:Do q<=n/\fk rs<=n:=by
   induction q using gD with
   |none=>exact⟨dG _,G⟩
   |some t=>exact⟨aE (Na ..) G,aE (acZ ..) G⟩
  have h2:fm (q::rs)=wC q+fm rs:=by
   induction q using gD with
   |none=>exact km ..
   |some t=>rfl
  have h3:Dn q/\nF rs:=by
   induction q using gD with
   |none=>exact⟨bk,W⟩
   |some t=>exact W
  rw[h2] at hz⊢;have K:∀{y:Fl} {l':Lc} {H1:Hp} {Y:R<|Fl×Lc},aZ (ag m) pR [O (T.nd k a ks f p).v,O (T.nd A F ks' B E).v,O (.ae c),O (.aa g.length)] H=.ok (y,l') H1->(match(R.ok (y,l') H1:R<|Fl×Lc) with|.ok (.aU,l) H=>dm (λv l H=>aZ (ag m) pR (l.set 3<|O v) H) ((ll (g.length+1) u.length).map λ(i:Nat)=>V.aa (i:Int)) l H|.ok (.q,l) H=>dm (λv l H=>aZ (ag m) pR (l.set 3<|O v) H) ((ll (g.length+1) u.length).map λ(i:Nat)=>V.aa (i:Int)) l H|.ok (.u,l) H=>.ok (.aU,l) H|.ok (.am v,l) H=>.ok (.am v,l) H|_=>.j)=Y->
    dm (λv l H=>aZ (ag m) pR (l.set 3<|O v) H) ((ll g.length (o::u).length).map λ(i:Nat)=>V.aa (i:Int)) [O (T.nd k a ks f p).v,O (T.nd A F ks' B E).v,O (.ae c),Q] H=Y:=λe y=>by
   show(match aZ (ag m) pR [O (T.nd k a ks f p).v,O (T.nd A F ks' B E).v,O (.ae c),O (.aa g.length)] H with|.ok (.aU,l) H=>_|.ok (.q,l) H=>_|.ok (.u,l) H=>_|.ok (.am v,l) H=>_|_=>_)=_;rw[e];exact y
  --past the first test
  have past:∀{Y:R (Fl×Lc)->Prop},(∀b:Bool,(decide (k=98)&&v9 o q)=b->b=I->Jd Y m (.fl (.am<|.i C) [] [O (T.nd k a ks f p).v,O (T.nd A F ks' B E).v,O (.ae c),O (.aa g.length)] H))->((decide (k=98)&&v9 o q)=C->Jd Y m (.s (pR.drop 1) [] [O (T.nd k a ks f p).v,O (T.nd A F ks' B E).v,O (.ae c),O (.aa g.length)] H))->Jd Y m (.s pR [] [O (T.nd k a ks f p).v,O (T.nd A F ks' B E).v,O (.ae c),O (.aa g.length)] H):=by
   intro Y q1 q2;refine eg J (λz=>?_) λz=>bh J J<|bf J<|q2 (by rw[z];rfl);have hk:=D z;have n1:=(hb hk).1 o<|mi g1;have n2:=(hb hk).2 q<|mi g2
   induction o using gD with
   |none=>exact ax J n1
   |some x=>
    induction q using gD with
    |none=>exact ax J n2
    |some y=>
     refine dn λkk=>?_;obtain⟨xk,xa,xs',xf,xp⟩:=x;obtain⟨yk,ya,ys',yf,yp⟩:=y;refine kk<|b5 J (i1 H)<|b5 J (i2 H)<|ek J (λw=>?_) λw=>?_
     ·exact bv J<|q1 I (by rw[z];show decide (xk≠yk)=I;rw[decide_not];exact w) J
     ·exact bf J<|q2 (by rw[z];show decide (xk≠yk)=C;rw[decide_not];exact w)
  refine dn λkk=>?_;obtain⟨M,er,hj,L⟩:=ih o q s H h1.1 S.1 h3.1 hc<|L1 hz;refine kk ?_;have second:∀{Y:R (Fl×Lc)->Prop} {b:Bool},(i8 o q).isSome=b->(b=C->Y (.ok (.am<|.i C,[O (T.nd k a ks f p).v,O (T.nd A F ks' B E).v,O (.ae c),O (.aa g.length)])<|H.set c<|.af<|s++M))->(b=I->Y (.ok (.aU,[O (T.nd k a ks f p).v,O (T.nd A F ks' B E).v,O (.ae c),O (.aa g.length)])<|H.set c<|.af<|s++M))->Jd Y m (.s (pR.drop 1) [] [O (T.nd k a ks f p).v,O (T.nd A F ks' B E).v,O (.ae c),O (.aa g.length)] H):=by
   intro Y b hb' q1 q2;rw[hb'] at er;refine b5 J (i1 H)<|b5 J (i2 H)<|bn J er<|ek J (λz=>?_) λz=>?_
   ·exact aL J<|q1 (by cases b;rfl;exact bc z)
   ·exact aL J<|q2 (by cases b;exact c5 z;rfl)
  rw[yQ];split
  ·rename_i j
   refine⟨[],O<|.aa g.length,K (Y:=.ok (.am<|.i C,_) H) (qs (past (λN N N=>aL J J) λz=>by rw[z] at j;exact bc j)) J|>.trans ?_,λ_=>ba,dG _⟩;rw[cM,sf hc];rfl
  ·rename_i j
   have j:=qc.mpr j;split
   ·rename_i hf
    exact⟨M,O<|.aa g.length,K (qs<|past (λb e e'=>by rw[j] at e;cases e;exact bc e') λN=>second (by rw[hf];rfl) (λN=>J) bc) J,λ_=>ba,aE L<|d7 ..⟩
   ·rename_i os hf
    obtain⟨js2,l3',Z,hj2,hz2⟩:=ihd rs (g++[o]) (P++[q]) (s++M) (H.set c<|.af<|s++M) (O<|.aa g.length) (by rw[e1,b6];rfl) (by rw[e2,b6];rfl) (by rw[bx,bx,el];rfl) (Nw hl) S.2 h3.2 h1.2 (fo hc) (by rw[bx];exact L2 hz L);rw[bx] at Z;refine⟨M++js2,l3',K (qs<|past (λb e e'=>by rw[j] at e;cases e;exact bc e') λN=>second (by rw[hf];rfl) c5 λN=>J)<|Z.trans ?_,λos' e=>?_,by rw[bx];exact gq L hz2⟩
    ·rw[oo,b6]
     cases gM (decide (k=98)) u rs<;>rfl
    ·refine aB (fX.mp e) ?_;rintro os2 e2 rfl;rw[hj os hf,hj2 os2 e2,dz]
end
section
variable{m n i a b c:Nat}{H u:Hp}{q:Cf}{j:List V}
noncomputable def JV(n c m:Nat):Prop:=∀(d r:Option T) (j:List V) (H:Hp),Do r<=n->zg d->Dn r->H[c]? =O (.af j)->j.length+wC r<=bg->lS c j H (i8 d r) (wC r) (ag m 1101 [ov d,ov r,.ae c] H)
theorem Ds:∀ks:List (Option T),ks.length<=fm ks
 |[]=>bF _
 |none::r=>gs<|Ds r
 |some t::r=>by have:=Ds r;have:=Hl t;show r.length+1<=sz t+fm r;lia
theorem lS.no(h:H[c]? =O (.af j))(hr:r=.ok (.i C) H):lS c j H U z r:=⟨[],by rw[hr,cM,sf h];rfl,λ_=>ba,dG _⟩
theorem JW:∀o∈[some t],o≠none:=λo d=>by
 cases d with
 |head=>nofun
 |tail _ h=>cases h
theorem JX{k f p g h v:Int}{a l:List Nat}{ks d:List<|Option T}(M:JV n c m)(o:JU<|.nd k a ks f p)(s:tP<|.nd g l d h v)(N:fk d<=n)(hc:H[c]? =O (.af j))(F:j.length+fm d<=bg):
  Jd (λr=>lS c j H (if k=g/\a=l/\f=h/\ks.length=d.length then gM (decide (k=98)) ks d else U) (fm d)<|r.i ef) m (.s (rz.drop 2) [] [O (T.nd k a ks f p).v,O (T.nd g l d h v).v,O (.ae c),l3] H):=by
 have no:∀{q:Cf},¬(k=g/\a=l/\f=h/\ks.length=d.length)->go q=.v (.i I) (.bQ [.am (.c<|.i C)] [] (rz.drop 3)::[]) [O (T.nd k a ks f p).v,O (T.nd g l d h v).v,O (.ae c),l3] H->Jd (λr=>lS c j H (if k=g/\a=l/\f=h/\ks.length=d.length then gM (decide (k=98)) ks d else U) (fm d)<|r.i ef) m q:=λz e=>by
  rw[a9 z];exact cy e J<|aL J<|lS.no hc J
 refine vx (b:= !decide (k=g)) J (λz=>no (λw=>by rw[dH w.1] at z;exact bc z) J) λz1=>vx (b:= !decide (a=l)) J (λz=>no (λw=>by rw[dH w.2.1] at z;exact bc z) J) λx=>vx (b:= !decide (f=h)) J (λz=>no (λw=>by rw[dH w.2.2.1] at z;exact bc z) J) λy=>fF J J<|fF (b:=.bK) J J<|ek (b:= !decide (((fj ks).length:Int)=(fj d).length)) J (λz=>?_) λA=>?_
 ·rw[a9 λw=>by rw[wD,wD,dH (bJ _ w.2.2.2)] at z;exact bc z];exact aL J<|lS.no hc J
 ·clear no;obtain rfl:k=g:=by by_cases e:k=g;exact e;rw[dO e] at z1;exact c5 z1
  obtain rfl:a=l:=by by_cases e:a=l;exact e;rw[dO e] at x;exact c5 x
  obtain rfl:f=h:=by by_cases e:f=h;exact e;rw[dO e] at y;exact c5 y
  have B:ks.length=d.length:=by
   by_cases e:((fj ks).length:Int)=(fj d).length
   ·rw[wD,wD] at e;exact Int.ofNat.inj e
   ·rw[dO e] at A;exact c5 A
  rw[aN ⟨J,J,J,B⟩];clear y z1 A x;obtain⟨G,P,hr,E,u⟩:=Wl (ks:=ks) (ks':=d) M (λe=>by
   obtain⟨t,rfl⟩:=o.1 e;obtain⟨Q,rfl⟩:=s.2.2.2 e;exact⟨JW,JW⟩) ks d [] [] j H l3 J J J B o.2 s.1 N hc F
  rw[lj,<-xy] at hr;have K:az (ag m) (.bi .bK [.q (.l 0) .bO]) [O (T.nd k a ks f p).v,O (T.nd k a d f v).v,O (.ae c),l3] H=.ok (.aa (ks.length:Nat)) H:=by
   show R.ok (V.aa (fj ks).length) H=_;rw[wD]
  have hbig:ks.length<=bg:=by rw[B];exact aE (Ds d)<|aE (hG ..) F
  cases L:gM (decide (k=98)) ks d with
  |none=>
   rw[L] at hr E;exact Wi J K hbig hr<|aL J ⟨G,J,λ_=>ba,u⟩
  |some os=>
   rw[L] at hr E;exact vH J K hbig hr<|aL J ⟨G,J,E,u⟩
theorem JY{k f p g d:Int}{a h:List Nat}{ks:List<|Option T}{t:T}(j:k≠98):fu (.nd k a ks f p) (.nd 98 h [O t] g d)=(if k=t.aq/\a=t.a/\f=t.cj/\ks.length=t.bO.length then gM (decide (k=98)) ks t.bO else U).map (d::·):=by
 have e:(decide ((T.nd 98 h [O t] g d).aq=98)&&decide (k≠98))=true:=by rw[dH j];rfl
 rw[yP];simp only[e,if_true];show(if k=t.aq/\a=t.a/\f=t.cj/\ks.length=t.bO.length then(gM (decide (k=98)) ks t.bO).map (d::·) else U)=_;split<;>rfl
theorem JZ:∀(n:Nat),JV n c (n+1)
 |n,U,U,j,H,_,_,_,hc,_=>⟨[],cR J J<|dQ J J<|cy J J<|fE J J<|aL J (by rw[cM,sf hc];rfl),λos e=>by cases e;rfl,dG _⟩
 |n,U,O (.nd g q d s l),j,H,_,_,_,hc,_=>lS.no hc<|cR J J<|dQ J J<|cy J J<|fE J J<|aL J J
 |n,O (.nd k a ks f p),U,j,H,_,_,_,hc,_=>lS.no hc<|cR J J<|dQ J J<|cy J J<|fE J J<|aL J J
 |0,O _,O (.nd g q d s l),j,H,h,_,_,_,_=>ax h<|kQ _
 |n+1,O (.nd k a ks f p),O (.nd g q d s l),j,H,N,v,u,hc,P=>by
  have Q:=JZ n;have x:j.length+(fm d+1)<=bg:=P;rw[qp (n+1) (f:=1101) J J];have main:(g=98->k=98)->Jd (λr=>lS c j H (fu (.nd k a ks f p)<|.nd g q d s l) (fm d+1)<|r.i ef) (n+1) (.s (rz.drop 2) [] [O (T.nd k a ks f p).v,O (T.nd g q d s l).v,O (.ae c),U] H):=λS=>by
   refine dn λW=>?_;obtain⟨y,A,h2,B⟩:=JX (l3:=U) Q v u (jT N) hc<|L1 x;refine W ?_;have e:fu (.nd k a ks f p) (.nd g q d s l)=if k=g/\a=q/\f=s/\ks.length=d.length then gM (decide (k=98)) ks d else none:=wb S
   refine⟨y,?_,?_,f4 B⟩
   ·rw[e];exact A
   ·rw[e];exact h2
  refine dQ J J<|bh J J<|eg J (λz=>ek (b:= !decide (k=98)) J (λw=>?_) λw=>?_) λz=>bh J J<|bf (c':=.s (rz.drop 2) [] _ H) J (main λe=>by rw[dH e] at z;exact c5 z)
  ·obtain rfl:=D z;have R:k≠98:=λe=>by rw[dH e] at w;exact bc w
   obtain⟨t,rfl⟩:=u.2.2.2 J;obtain⟨g,E,o,F,G⟩:=t;have K:j.length+(fm o+1+0+1)<=bg:=P;obtain⟨y,A,h2,B⟩:=JX Q v u.1.1 (iw<|aE (Na ..)<|jT N) (fo hc:(H.set c<|.af<|j++[.aa l])[c]? =O (.af<|j++[.aa l])) (by rw[bx];show j.length+1+_<=_;exact L1 K);have L:lS c j H (fu (.nd k a ks f p)<|.nd 98 q [O (.nd g E o F G)] s l) (fm [O (.nd g E o F G)]+1) ((d4 (ag<|n+1)<|.s (rz.drop 2) [] [O (T.nd k a ks f p).v,O (T.nd g E o F G).v,O (.ae c),U]<|H.set c<|.af<|j++[.aa l]).i ef):=by
    refine⟨.aa l::y,?_,λos e=>?_,gs<|aE B<|et _⟩
    ·rw[A,JY R,oo,b6,Option.isSome_map];rfl
    ·rw[JY R] at e;refine aB (fX.mp e) ?_;rintro M e2 rfl;rw[h2 M e2];rfl
   exact f1 J hc<|i6 J hc (L1 x)<|b5 J (Dp J)<|bf J L
  ·exact bf J (main λX=>by by_cases e:k=98;exact e;rw[dO e] at w;exact c5 w)
end
noncomputable def ui:List S:=match Gc with
 |[_,_,.y _ _ b,_]=>b
 |_=>[]
section
variable{m n i a b o:Nat}{H q:Hp}{j:Cf}{u:List V}{p d:Int}
noncomputable abbrev pS(a o:Nat)(p d:Int)(c:Option V):Lc:=[O (.ae a),O (.aa p),O (.ae o),O (.aa d),c]
theorem Wm{t:aj}{Y:R (Fl×Lc)->Prop}{g:List aj}(u:H[o]? =O (.af<|g.map aj.v))(y:g.length<bg)
  (A:(t.is 5 [41]=I/\(if t.is 5 [41]=I then d-1 else d)=0)->Y (.ok (.q,pS a o p 99<|O t.v) H))(B:¬(t.is 5 [41]=I/\(if t.is 5 [41]=I then d-1 else d)=0)->t.aJ=p->Y (.ok (.q,pS a o p 1<|O t.v) H))
  (E:¬(t.is 5 [41]=I/\(if t.is 5 [41]=I then d-1 else d)=0)->¬t.aJ=p->Y (.ok (.aU,pS a o p (if(if t.is 5 [41]=I then d-1 else d)>0/\t.is 5 [40]=I then(if t.is 5 [41]=I then d-1 else d)+1 else(if t.is 5 [41]=I then d-1 else d))<|O t.v)<|H.set o<|.af<|(g++[t]).map aj.v)):
  Y (aZ (ag m) ui (pS a o p d<|O t.v) H):=by
 obtain⟨k,x,nu,c,en,ln⟩:=t;have F:∀{Y:R (Fl×Lc)->Prop} {r:List S} {l:Lc} {H:Hp},Jd Y m (.s r [] l H)->Y (aZ (ag m) r l H):=λ{Y r l H} q=>by
  have e:(aZ (ag m) r l H).i (dp (ag m) [])=aZ (ag m) r l H:=by cases aZ (ag m) r l H<;>rfl
  have q:Y ((aZ (ag m) r l H).i<|dp (ag m) []):=q;rwa [e] at q
 refine F ?_;have last:∀f,f=(if(aj.mk k x nu c en ln).is 5 [41]=I then d-1 else d)->¬((aj.mk k x nu c en ln).is 5 [41]=I/\(if(aj.mk k x nu c en ln).is 5 [41]=I then d-1 else d)=0)->Jd Y m (.s (ui.drop 1) [] (pS a o p f<|O (aj.mk k x nu c en ln).v) H):=by
  intro f hd v;have h:∀j,j=(if f>0/\(aj.mk k x nu c en ln).is 5 [40]=I then f+1 else f)->¬c=p->Jd Y m (.s (ui.drop 3) [] (pS a o p j<|O (aj.mk k x nu c en ln).v) H):=by
   intro j s hp;refine f1 J u<|i6 J u (by rw[c3];exact y)<|aL J ?_;rw[s,hd];have:=E v hp;rw[dz] at this;exact this
  refine ek J (λz=>aL J<|B v<|D z) λz=>?_;have hp:=jt z;refine eg (b:=decide (0<f)) J (λz=>fE J J<|ek J (λw=>fS J J<|bf J<|h (f+1) (by rw[aN ⟨D z,w⟩]) hp) λw=>bf J<|h f (by rw[a9 λe=>by rw[show(aj.mk k x nu c en ln).is 5 [40]=C from w] at e;cases e.2]) hp) λz=>bh J J<|bf J<|h f (by rw[a9 λe=>by rw[dH e.1] at z;exact c5 z]) hp
 refine fE J J<|ek J (λw=>fS J J<|ek J (λz=>aL J<|A ⟨w,(aN<|show(aj.mk k x nu c en ln).is 5 [41]=I from w).trans<|D z⟩) λz=>?_) λw=>?_
 ·have w:(aj.mk k x nu c en ln).is 5 [41]=true:=w;exact bf J (last (d-1) (by rw[aN w]) λe=>by rw[aN w] at e;exact jt z e.2)
 ·have w:(aj.mk k x nu c en ln).is 5 [41]=false:=w;exact bf J (last d (by rw[w];rfl) λe=>by rw[w] at e;cases e.1)
theorem Wn:∀(ts c:List aj) (d:Int) (q:Option V) (H:Hp),H[o]? =O (.af<|c.map aj.v)->c.length+ts.length<=bg->∃k f,dm (λv l H=>aZ (ag m) ui (l.set 4<|O v) H) (ts.map aj.v) (pS a o p d q) H=.ok (.aU,pS a o p k f) (H.set o<|.af<|(c++wo p d ts).map aj.v):=by
 intro r
 induction r with
 |nil=>
  intro c d q H g u;exact gH d q (by rw[US,cM,sf g];rfl)
 |cons t r s=>
  intro c d q H g j;have j:c.length+(r.length+1)<=bg:=j;rw[wn];refine Wm (Y:=λz=>∃k f,(match z with|.ok (.aU,l) H=>dm (λv l H=>aZ (ag m) ui (l.set 4<|O v) H) (r.map aj.v) l H|.ok (.q,l) H=>dm (λv l H=>aZ (ag m) ui (l.set 4<|O v) H) (r.map aj.v) l H|.ok (.u,l) H=>.ok (.aU,l) H|.ok (.am v,l) H=>.ok (.am v,l) H|_=>.j)=R.ok (Fl.aU,pS a o p k f) _) g (L1 j) (λh=>?_) (λh hp=>?_) λh hp=>?_
  ·rw[aN h];exact s c 99 _ H g<|L1 j
  ·rw[a9 h,aN hp];exact s c 1 _ H g<|L1 j
  ·rw[a9 h,a9 hp];refine jV (s (c++[t]) (if(if t.is 5 [41]=I then d-1 else d)>0/\t.is 5 [40]=I then(if t.is 5 [41]=I then d-1 else d)+1 else(if t.is 5 [41]=I then d-1 else d)) (O t.v) (H.set o<|.af<|(c++[t]).map aj.v) (fo g) (by rw[bx];show c.length+1+_<=_;exact L1 j)) λk f e=>?_;rw[oo,b6] at e;exact gH k f e
theorem Wo{ts:List aj}(c:H[a]? =O (.af<|ts.map aj.v))(f:ts.length<=bg):ag (m+1) 1108 [.ae a,.aa p] H=.ok (.ae H.length) (H++[.af ((wo p 0 ts).map aj.v)]):=by
 have ne:=e9<|hW c;refine dn λg=>jV (Wn (m:=m) (a:=a) (p:=p) ts [] 0 U ((H++[b4.af []]).set a .i) (fq ne cD) (by rw[lj,c9];exact f)) λj h e=>g<|cR J J<|JR J J (cQ c) e<|aL J ?_;rw[List.set_comm _ _ (eG ne),rv (cQ c),iA];rfl
end
noncomputable def sh:List S:=match Gb with
 |[_,_,.jw _ _ b,_]=>b
 |_=>[]
noncomputable def mP:List aj->Prop
 |[]=>True
 |[t]=>t.is 5 [59]=C
 |_::r=>mP r
theorem mP.tl(h:mP<|t::r):mP r:=by
 induction r using aW with
 |nil=>trivial
 |cons u r=>exact h
theorem mP.jv:∀{u:List aj} {e:aj},e.is 5 [59]=C->mP (u++[e])
 |[],e,h=>h
 |t::u,e,h=>by
  have b:=mP.jv (u:=u) h
  induction u using aW with
  |nil=>exact h
  |cons v w=>exact b
section
variable{m n a o:Nat}{H j:Hp}{i:Cf}{q:List V}{fr:Bool}
noncomputable abbrev lT(a o M:Nat)(fr:Bool)(b c d e:Option V):Lc:=[O (.ae a),O (.aa (M:Int)),O (.ae o),O (.i fr),b,c,d,e]
theorem J0{t:aj}{Y:R (Fl×Lc)->Prop}{acc p:List aj}{M i:Nat}(hM:M=1∨M=2)(Z:H[a]? =O (.af<|p.map aj.v))(ht:p[i]? =O t)(E:H[o]? =O (.af<|acc.map aj.v))(K:acc.length<bg)
  (L:t.is 5 [59]=I->∃pv nx j,i=j+1/\p[j]? =O pv/\p[i+1]? =O nx/\(mK pv nx=I->M=2->∀s d f,Y<|.ok (.q,lT a o M I (O<|.aa i) s d f) H)/\(mK pv nx=C->M=2->∀s d f,Y<|.ok (.aU,lT a o M C (O<|.aa i) s d f)<|H.set o<|.af<|(acc++[({t with cC:=fr}:aj)]).map aj.v))
  (q1:t.is 5 [59]=I->M=1->∀s d f,Y<|.ok (.q,lT a o M fr (O<|.aa i) s d f)<|H.set o<|.af<|(acc++[(⟨5,[44],0,t.aJ,t.jv,C⟩:aj)]).map aj.v)
  (N:t.is 5 [59]=C->∀s d f,Y<|.ok (.aU,lT a o M C (O<|.aa i) s d f)<|H.set o<|.af<|(acc++[({t with cC:=fr}:aj)]).map aj.v):
  Y (aZ (ag m) sh (lT a o M fr (O<|.aa i) s d f) H):=by
 obtain⟨k,x,nu,c,en,ln⟩:=t;have ss:∀{Y:R (Fl×Lc)->Prop} {r:List S} {l:Lc} {H:Hp},Jd Y m (.s r [] l H)->Y (aZ (ag m) r l H):=λ{Y r l H} q=>by
  have e:(aZ (ag m) r l H).i (dp (ag m) [])=aZ (ag m) r l H:=by cases aZ (ag m) r l H<;>rfl
  have q:Y ((aZ (ag m) r l H).i<|dp (ag m) []):=q;rwa [e] at q
 refine ss ?_;have v:∀{j:Nat} {u:aj},p[j]? =O u->f9 (.ae a) (.aa (j:Int)) H=.ok u.v H:=λ{j u} h=>hX Z (by rw[qb,h];rfl);have y:∀d f,(∀s d f,Y<|.ok (.aU,lT a o M C (O<|.aa i) s d f)<|H.set o<|.af<|(acc++[(⟨k,x,nu,c,en,fr⟩:aj)]).map aj.v)->Jd Y m (.s (sh.drop 2) [] (lT a o M fr (O<|.aa i) (O (aj.mk k x nu c en ln).v) d f) H):=λd f q=>by
  refine f1 J E<|lP (v:=(aj.mk k x nu c en fr).v) J J<|i6 J E (by rw[c3];exact K)<|aL J ?_;have:=q (O (aj.mk k x nu c en ln).v) d f;rw[dz] at this;exact this
 refine b5 J (v ht)<|eg J (λz=>eg (b:=decide (x=[59])) J (λw=>?_) λw=>?_) λz=>?_
 ·have e:(aj.mk k x nu c en ln).is 5 [59]=true:=by
   show(decide (k=5)&&decide (x=[59]))=I;rw[z,w];rfl
  clear ht;refine xY (L e) ?_;rintro pv nx j rfl F G h1 h2;clear L
  rcases hM with rfl|rfl
  ·refine cy rfl rfl<|cy rfl rfl<|f1 rfl E<|lP (v:=(aj.mk 5 [44] 0 c en false).v) rfl rfl<|i6 rfl E (by rw[c3];exact K)<|aL rfl ?_;have:=q1 e J (O (aj.mk k x nu c en ln).v) d f;rw[dz] at this;exact this
  ·refine dn λkk=>?_;obtain⟨P,A,pn,Q,T,W⟩:=pv;obtain⟨X,g,nn,na,ne,nl⟩:=nx;refine kk ?_;have aU:=v G;have B:f9 (.ae a) (.aa ((j+1:Nat)-1:Int)) H=.ok (aj.mk P A pn Q T W).v H:=by
    rw[show((j+1:Nat)-1:Int)=(j:Int) by lia];exact v F
   refine cy J J<|bh J J<|b5 J aU<|fE (b':=decide ([40]=g)||(decide ([60]=g)||C)) J (c8<|b5 J aU<|aL J J)<|b5 J B ?_;refine fE J (c8<|fE J (c8<|b5 J B<|dQ J (c8<|b5 J aU<|aL J J)<|aL J J)<|aL J J) ?_;have lo:(!(decide (X=5)&&(decide ([40]=g)||(decide ([60]=g)||C)))&&(!(decide (f6=A)||(decide (gv=A)||C))&&(!decide (A=dP)|| !decide (g=eW))))=mK (aj.mk P A pn Q T W) (aj.mk X g nn na ne nl):=by
    unfold mK;rw[nB [40],nB [60],nB f6,nB gv,oj,oj]
   rw[lo];refine ek J (λb=>aL J<|h1 b J _ _ _) λb=>bf J<|y _ _<|h2 b J
 ·have e:(aj.mk k x nu c en ln).is 5 [59]=false:=by
   show(decide (k=5)&&decide (x=[59]))=C;rw[z,w];rfl
  exact bh J J<|bf J<|y _ _<|N e
 ·have e:(aj.mk k x nu c en ln).is 5 [59]=false:=by
   show(decide (k=5)&&decide (x=[59]))=C;rw[z];rfl
  exact bh J J<|bf J<|y _ _<|N e
end
noncomputable def zh(f:Lc->Hp->R (Fl×Lc))(z:R<|Fl×Lc):R (Fl×Lc):=match z with
 |.ok (.aU,l) H=>f l H
 |.ok (.q,l) H=>f l H
 |.ok (.u,l) H=>.ok (.aU,l) H
 |.ok (.am v,l) H=>.ok (.am v,l) H
 |_=>.j
inductive uj(a o M:Nat)(H:Hp)(ts:List aj)(r:R (Fl×Lc)):Prop where
 |mk (fr:Bool) (l4 l5 l6 l7:Option V) (h:r=.ok (.aU,lT a o M fr l4 l5 l6 l7) (H.set o (.af (ts.map aj.v))))
section
variable{m n a o M:Nat}{H y:Hp}{q:List aj}
theorem Wp(hM:M=1∨M=2)(G:a≠o):∀(ts pre b:List aj) (p:aj) (fr:Bool) (H:Hp) (x d g k:Option V),q=pre++p::ts->mP ts->H[a]? =O (.af<|q.map aj.v)->H[o]? =O (.af<|b.map aj.v)->b.length+ts.length<=bg->
  uj a o M H (b++en M p fr ts) (dm (λv l H=>aZ (ag m) sh (l.set 4<|O v) H) ((ll (pre.length+1) ts.length).map λ(i:Nat)=>V.aa (i:Int)) (lT a o M fr x d g k) H):=by
 intro r
 induction r with
 |nil=>
  intro pre b p fr H x d g k K K K B K;exact⟨fr,x,d,g,k,by rw[UZ,cM,sf B];rfl⟩
 |cons t r A=>
  intro pre b p fr H x d g k e E L B F;have F:b.length+(r.length+1)<=bg:=F;have A:∀acc' c y d g k,y[a]? =O (.af<|q.map aj.v)->y[o]? =O (.af<|acc'.map aj.v)->acc'.length<=b.length+1->uj a o M y (acc'++en M t c r) (dm (λv l H=>aZ (ag m) sh (l.set 4<|O v) H) ((ll (pre.length+1+1) r.length).map λ(i:Nat)=>V.aa (i:Int)) (lT a o M c (O<|.aa ((pre.length+1:Nat):Int)) d g k) y):=λacc' c y d g k s h2 N=>by
   have:=A (pre++[p]) acc' t c y (O<|.aa ((pre.length+1:Nat):Int)) d g k (by rw[e,b6];rfl) E.tl s h2<|L2 F N;rw[bx] at this;exact this
  have w:∀u c d g k (Z:List aj),Z=u::en M t c r->uj a o M H (b++Z) (dm (λv l H=>aZ (ag m) sh (l.set 4<|O v) H) ((ll (pre.length+1+1) r.length).map λ(i:Nat)=>V.aa (i:Int)) (lT a o M c (O<|.aa ((pre.length+1:Nat):Int)) d g k)<|H.set o<|.af<|(b++[u]).map aj.v):=λu c d g k Z P=>by
   obtain⟨f,x,d,g,k,h⟩:=A (b++[u]) c _ d g k (fq (eG G) L) (fo B) (by rw[bx];exact bF _);rw[oo,b6] at h;exact⟨f,x,d,g,k,by rw[P];exact h⟩
  have gt:∀j u,(p::t::r)[j]? =O u->q[pre.length+j]? =O u:=λj u h=>by rw[e];exact(qY<|d7 ..).trans (by rw[M9];exact h)
  refine J0 (Y:=λz=>uj a o M H (b++en M p fr (t::r))<|zh _ z) hM L (gt 1 t J) B (L1 F) (λht=>?_) (λht s d g k=>?_) λht d g k=>?_
  ·clear hM
   induction r using aW with
   |nil=>rw[E] at ht;exact bc ht
   |cons nx r=>
    refine m2 p nx pre.length J (gt 0 p J) (gt 2 nx J) (λs h2 d g k=>?_) λs h2 d g k=>?_
    ·subst h2;rw[show en 2 p fr (t::nx::r)=en 2 t I (nx::r) by rw[qE,ht];exact aN s];exact A b I H _ _ _ L B<|et _
    ·subst h2;exact w {t with cC:=fr} C _ _ _ _ (by rw[qE,ht];exact a9 (c:=mK p nx=I) (by rw[s];nofun))
  ·clear A hM;clear A;subst s;exact w ⟨5,[44],0,t.aJ,t.jv,C⟩ fr _ _ _ _ (by rw[qE,ht];rfl)
  ·exact w {t with cC:=fr} C _ _ _ _ (t8 ht ..)
theorem Wq{t:aj}{r:List aj}(hM:M=1∨M=2)(ht:t.is 5 [59]=C)(j:mP r)(c:H[a]? =O (.af<|(t::r).map aj.v))(k:r.length<bg):ag (m+1) 1035 [.ae a,.aa (M:Int)] H=.ok (.ae H.length) (H++[.af ((en M kY C<|t::r).map aj.v)]):=by
 have ne:=e9<|hW c;obtain⟨f,p,d,e,g,h⟩:uj a H.length M (H++[b4.af []]) (en M kY C<|t::r) (dm (λv l H=>aZ (ag m) sh (l.set 4<|O v) H) ((ll 0<|r.length+1).map λ(i:Nat)=>V.aa (i:Int)) (lT a H.length M C U U U U)<|H++[.af []]):=by
  refine J0 (acc:=[]) (Y:=λz=>uj a H.length M (H++[b4.af []]) (en M kY C<|t::r)<|zh _ z) hM (cQ c) J cD (D J) (λw=>by rw[ht] at w;exact bc w) (λw=>by rw[ht] at w;exact bc w) λq d e g=>?_;obtain⟨f,p,d,e,g,h⟩:=Wp hM ne r [] [({t with cC:=C}:aj)] t C ((H++[b4.af []]).set H.length<|.af<|[({t with cC:=C}:aj)].map aj.v) (O<|.aa (0:Nat)) d e g J j (fq (eG ne)<|cQ c) (fo cD) (by show 1+_<=_;exact L1 k);rw[oo] at h;exact⟨f,p,d,e,g,by rw[t8 ht];exact h⟩
 have b:az (ag m) (.bi .bK [.l 0]) [O (.ae a),O (.aa (M:Int)),O (.ae H.length),O (.i C),U,U,U,U] (H++[.af []])=.ok (.aa ((r.length+1:Nat):Int)) (H++[.af []]):=by
  show ga .bK [.ae a] (H++[.af []])=_;rw[nW (cQ c),c3];rfl
 refine cR J J<|vH (b:=sh) J b (Ny k) (by rw[xy];exact h)<|aL J ?_;show R.ok (V.ae H.length) _=_;rw[iA]
end
section
variable{m n a o:Nat}{H i B G:Hp}{X:R (Fl×Lc)->Prop}{j:Cf}{l:Lc}{u v:V}
theorem Ws{a:At}{u:V}:∀{c:List<|At×V},fd c a=U->fD c a u=c++[(a,u)]:=by
 intro r
 induction r with
 |nil=>
  intro g;exact J
 |cons d r f=>
  obtain⟨b,v⟩:=d;intro h
  by_cases e:b=a
  ·rw[show fd ((b,v)::r) a=O v from aN e] at h;exact u9 h
  ·rw[show fd ((b,v)::r) a=fd r a from a9 e] at h;exact(a9 e).trans<|bJ _<|f h
theorem io{x:Nat}{a:At}{r:List S}{cl:eX}{fs:List<|At×V}(e:go j=.v (.ae x) (.tz u a r::[]) l G)(h:G[x]? =O (.aQ cl fs))(k:Kp (·=x) B G)(c:fd fs a=U)(q:∀b,b[x]? =O (.aQ cl<|fs++[(a,u)])->Kp (·=x) B b->Jd X m (.s r [] l b)):Jd X m j:=
 rM e h (by rw[Ws c];exact q _ (fo h)<|.y (.inl J) k)
theorem uk{x:Nat}{a:At}{r:List S}{cl:eX}{fs:List<|At×V}(e:go j=.e (.dct [] []) [.cP (.l 0) a r] l G)(c:l[0]? =O (O<|.ae x))(h:G[x]? =O (.aQ cl fs))(k:Kp (·=x) B G)(d:fd fs a=U)(q:∀b,b[x]? =O (.aQ cl<|fs++[(a,.dct [])])->Kp (·=x) B b->Jd X m (.s r [] l b)):Jd X m j:=
 bv e (gL J<|kE 1 J<|gL (k7 c)<|io J h k d q)
theorem Wu(h:H[a]? =O (.af b)):lI (.ae a) .none .none H=.ok (.ae H.length) (H++[.af b]):=by
 show(match(match H[a]? with|some (.af b)=>O b|_=>U) with|some b=>Bo b U U H|.none=>.j)=_;rw[h];rfl
noncomputable abbrev qL(c:PA):List (At×V):=[(.iz,.ae c.tl),(.aJ,.aa 0),(.dU,.ae c.dl),(.gT,.dct []),(.qg,.dct []),(.qh,.dct []),(.fY,.dct []),(.bS,.aa 0),(.rn,.u [.ah [],.aa 0,.aa 0]),(.lD,.i I),(.rq,.aa 0),(.rt,.aa 0),(.s8,.aa 0),(.s9,.ae c.lb),(.hQ,.i C),(.tb,.i C),(.vb,.aa 0),(.vc,.ae c.cv),(.vd,.dct []),(.ve,.dct []),(.tc,.ae c.sp),(.x0,.ae c.sv)]
inductive Wv(x d:Nat)(xs:List V)(B i:Hp):Prop where
 |mk (c:PA) (h1:c.ap=x) (h2:c.dl=d) (h:i[x]? =some (.aQ .i (qL c))) (ht:i[c.tl]? =some (.af xs)) (hx:B.length<=c.tl) (k:Kp (·=x) B i)
theorem Ww{x d:Nat}{j:List V}(p:B[x]? =O (.aQ .i []))(q:B[a]? =O (.af j)):∃v i,ag (m+1) 306 [.ae x,.ae a,.ae d] B=.ok v i/\Wv x d j B i:=by
 refine iL J J<|kJ J (Wu q) ?_;refine io J (cQ p) .refl J λG h k=>io J h k J λL h k=>io J h k J λM h k=>(uk J J h k J λr h k=>?_);replace h:r[x]? =O (.aQ .i [(.iz,.ae B.length),(.aJ,.aa 0),(.dU,.ae d),(.gT,.dct [])]):=h;refine(uk J J h k J λN h k=>?_);refine(uk J J h k J λP h k=>?_);refine(uk J J h k J λQ h k=>?_);refine io J h k J λs h k=>?_;replace h:s[x]? =O (.aQ .i [(.iz,.ae B.length),(.aJ,.aa 0),(.dU,.ae d),(.gT,.dct []),(.qg,.dct []),(.qh,.dct []),(.fY,.dct []),(.bS,.aa 0)]):=h;refine io J h k J λS h k=>io J h k J λt h k=>io J h k J λw h k=>io J h k J λc h k=>?_;replace h:c[x]? =O (.aQ .i [(.iz,.ae B.length),(.aJ,.aa 0),(.dU,.ae d),(.gT,.dct []),(.qg,.dct []),(.qh,.dct []),(.fY,.dct []),(.bS,.aa 0),(.rn,.u [.ah [],.aa 0,.aa 0]),(.lD,.i I),(.rq,.aa 0),(.rt,.aa 0)]):=h;refine io J h k J λb h k=>io J (cQ h) (k.q .j) J λy h k=>io J h k J λz h k=>io J h k J λe h k=>?_;replace h:e[x]? =O (.aQ .i [(.iz,.ae B.length),(.aJ,.aa 0),(.dU,.ae d),(.gT,.dct []),(.qg,.dct []),(.qh,.dct []),(.fY,.dct []),(.bS,.aa 0),(.rn,.u [.ah [],.aa 0,.aa 0]),(.lD,.i I),(.rq,.aa 0),(.rt,.aa 0),(.s8,.aa 0),(.s9,.ae b.length),(.hQ,.i C),(.tb,.i C)]):=h;refine io J h k J λf h k=>io J (cQ h) (k.q .j) J λA h k=>(uk J J h k J λE h k=>?_);refine(uk J J h k J λg h k=>?_);replace h:g[x]? =O (.aQ .i [(.iz,.ae B.length),(.aJ,.aa 0),(.dU,.ae d),(.gT,.dct []),(.qg,.dct []),(.qh,.dct []),(.fY,.dct []),(.bS,.aa 0),(.rn,.u [.ah [],.aa 0,.aa 0]),(.lD,.i I),(.rq,.aa 0),(.rt,.aa 0),(.s8,.aa 0),(.s9,.ae b.length),(.hQ,.i C),(.tb,.i C),(.vb,.aa 0),(.vc,.ae f.length),(.vd,.dct []),(.ve,.dct [])]):=h;exact io J (cQ h) (k.q .j) J λF h k=>io J (cQ h) (k.q .j) J λK h k=>aL J<|cJ _ _ J ⟨⟨x,B.length,d,d,_,_,_,_⟩,J,J,h,k.cN cD<|mU<|hW p,bF _,Kp.j.q k⟩
end
section
variable{m n a o:Nat}{H j B G:Hp}{X:R (Fl×Lc)->Prop}{M:Cf}{l:Lc}{u v:V}{F:List Kf}
theorem Wz(e:go M=.s (.m4 i x hd::r) F l H)(b:az (ag m) x l H=.ok v j)(q:Jd X m<|.s r F (l.set i<|O v) j):Jd X m M:=
 bv e (bf (by
  have e1:f0 (ag m) (.m4 i x hd) l H=.ok (.aU,l.set i<|O v) j:=by
   show(match az (ag m) x l H with|.ok v H=>R.ok (Fl.aU,l.set i<|O v) H|.q H=>kX (aZ (ag m) hd l H)|.j=>.j)=_;rw[b]
  show R.i (R.i (f0 (ag m) (.m4 i x hd) l H) _) _=_;rw[e1];rfl) q)
theorem WA(e:go M=.s (.m4 i x hd::r) F l H)(c:az (ag m) x l H=.q j)(d:aZ (ag m) hd l j=.ok (.am y,b) H1)(q:Jd X m<|.fl (.am y) F b H1):Jd X m M:=
 bv e (bf (by
  have e1:f0 (ag m) (.m4 i x hd) l H=.ok (.am y,b) H1:=by
   show(match az (ag m) x l H with|.ok v H=>R.ok (Fl.aU,l.set i<|O v) H|.q H=>kX (aZ (ag m) hd l H)|.j=>.j)=_;rw[c];show kX (aZ (ag m) hd l j)=_;rw[d];rfl
  show R.i (R.i (f0 (ag m) (.m4 i x hd) l H) _) _=_;rw[e1];rfl) q)
structure J1(H j:Hp):Prop where
 d:j[H.length]? =some (.aQ .q [(.lC,.ae (H.length+1)),(.rm,.ah [])])
 r:j[H.length+1]? =some (.af [])
 k:Kp (λξ=>False) H j
theorem WB:∃j,az (ag<|m+1) (.ce .q []) l H=.ok (.ae H.length) j/\J1 H j:=by
 have hr:((H++[b4.aQ .q []])++[b4.af []])[H.length+1]? =O (.af []):=by
  have e:H.length+1=(H++[b4.aQ .q []]).length:=by rw[bx];rfl
  rw[e];exact cD
 have ln:(H++[b4.aQ .q []]).length=H.length+1:=by rw[bx];rfl
 refine dn λb=>?_;obtain⟨v,j,e1,q⟩:∃v j,ag (m+1) 194 [.ae H.length,.ah []] (H++[.aQ .q []])=.ok v j/\J1 H j:=by
  refine iL J J<|io J (cQ cD) .refl J λG h k=>?_;refine io J h k J λd h k=>aL J ⟨_,_,J,?_,k.cN hr<|Nz _,((Kp.j.q .j).q k).u λi c e=>ax c (by rw[e];exact NA _)⟩;rw[h,ln];rfl
 refine b<|aD j ?_ q;show R.i (ag (m+1) 194 [.ae H.length,.ah []]<|H++[.aQ .q []]) _=_;rw[e1];rfl
structure WC(m a:Nat)(ts:List aj)(H H1 H2 H4:Hp)(c:PA):Prop where
 e1:∀l,az (ag (m+2)) (.ce .q []) l H=.ok (.ae H.length) H1
 e2:iZ (ag (m+2)) .i [.ae a,.ae H.length] H1=.ok (.ae c.ap) H2
 hp:H2[c.ap]? =some (.aQ .i (qL c))
 h4:H4=(H2.set c.ap (.aQ .i (fD (qL c) .gT gX))).set c.ap (.aQ .i (fD (fD (qL c) .gT gX) .fY i3))
 ps:PS c ts ⟨0,false,true⟩ ⟨ts,[]⟩ H4
 kx:∀j,bT c H4 j->Kp (λξ=>False) H j
theorem J2{ts u:List aj}{e:aj}(L:H[a]? =O (.af<|ts.map aj.v))(fk:ts=u++[e])(M:e.aq=0)(K:ts.length<4000000):∃H1 H2 N c,WC m a ts H H1 H2 N c:=by
 refine dn λP=>aB (WB (m:=m+1) (H:=H) (l:=[])) λH1 e1 h=>eB (Ww (m:=m+1) (d:=H.length) cD<|cQ<|h.k.cN L id) ?_;rintro v2 H2 e2 ⟨⟨x,tl,d,S,lb,cv,sp,sv⟩,s,w,hp,ht,y,A⟩;obtain rfl:x=H1.length:=s;obtain rfl:d=H.length:=w;have f:=hW h.d;have b:=hW h.r;have g:=iO (by rw[bx];exact sM _) y;obtain⟨t,r,q⟩:∃t r,ts=t::r:=by
  induction u using aW with
  |nil=>exact gH e [] fk
  |cons t r=>exact gH t (r++[e]) fk
 refine P<|⟨H1,H2,_,⟨H1.length,tl,H.length,H.length+1,lb,cv,sp,sv⟩,λl=>e1,?_,hp,J,?_,?_⟩
 ·show R.i (ag (m+2) 306 [.ae H1.length,.ae a,.ae H.length]<|H1++[.aQ .i []]) _=_;rw[e2];rfl
 ·have E:(H2.set H1.length<|.aQ .i<|fD (qL ⟨H1.length,tl,H.length,H.length+1,lb,cv,sp,sv⟩) .gT gX)[H1.length]? =O (.aQ .i<|fD (qL ⟨H1.length,tl,H.length,H.length+1,lb,cv,sp,sv⟩) .gT gX):=fo hp;rw[q];rw[q] at ht fk K;exact .mk [] r t [] [] _ ⟨cJ u e fk M,K,e9 g,mU f,mU b,e9<|uJ b g,Nz _⟩ J (fo E) (fq (e9 g)<|fq (e9 g) ht) (fq (mU f)<|fq (mU f)<|A.cN (cQ h.d)<|e9 f) (fq (mU b)<|fq (mU b)<|A.cN (cQ h.r)<|e9 b) .nil
 ·have Q:Kp (λx=>x=H1.length) H1 ((H2.set H1.length<|.aQ .i<|fD (qL ⟨H1.length,tl,H.length,H.length+1,lb,cv,sp,sv⟩) .gT gX).set H1.length<|.aQ .i<|fD (fD (qL ⟨H1.length,tl,H.length,H.length+1,lb,cv,sp,sv⟩) .gT gX) .fY i3):=.y (.inl J)<|.y (.inl J)<|Kp.j.q A;have k:=(Kp.q (h.k.u λF F z=>z.elim) Q).u (Q:=λF=>False) λi p e=>ax p (by rw[e];exact rb.mpr h.k.bK);exactλj x=>⟨aE k.bK x.bK,λi p F=>(x.jA i (iO p k.bK) (e9<|iO p h.k.bK)<|e9<|Nv p).trans<|k.jA i p id⟩
noncomputable def WD(H:Hp)(w:V)(r:R V):Prop:=∃j,r=.ok w j/\Kp (λb=>False) H j
theorem zi{ts u:List aj}{e:aj}(p:H[a]? =O (.af<|ts.map aj.v))(fk:ts=u++[e])(h:e.aq=0)(s:ts.length<4000000)
  (y:(∃t,gK (be 15) ⟨ts,[]⟩=.ok t ⟨[e],[]⟩/\w=t.v)∨∃ns,gK (be 15) ⟨ts,[]⟩=.d8 ns/\w=.none):WD H w (ag (m+325) 1094 [gX,i3,.ae a] H):=by
 refine dn λf=>FX (J2 (m:=m+322) p fk h s) λH1 H2 k c mr=>f ?_;have pre:∀{Y:R (Fl×Lc)->Prop},Jd Y (m+324) (.s (Bh.drop 3) [] [O gX,O i3,O (.ae a),O (.ae c.ap),U] k)->Jd Y (m+324) (.s Bh [] ([gX,i3,.ae a].map O++jp 2 U) H):=λq=>
  bv J (gL (mr.e1 _)<|lP J mr.e2<|rM J mr.hp<|rM J (fo mr.hp)<|bf J<|mr.h4▸q)
 have ro:=Ht (m:=m+312) (f:=15) (D J) (by simp+arith only) J mr.ps;generalize hr:ag (m+312+12) 824 _ k=E at ro;clear fk
 rcases y with⟨t,g,rfl⟩|⟨ns,g,rfl⟩
 ·rw[g] at ro
  cases ro with
  | @ok v j _ _ z d x=>
   obtain rfl:v=t.v:=z;refine aD j (cR rfl rfl<|pre<|Wz rfl hr ?_)<|mr.kx _ x;refine dn λf=>?_;obtain⟨A,ex,en,F,K,L⟩:=e;obtain rfl:A=0:=h;refine f<|dR J d<|dQ J (c8 ?_)<|bh J J<|aL J J;have b:=d
   cases d with
   |mk i r t M ns H P e hp ht hd hr R=>
    refine dn λf=>?_;obtain rfl:=xD R.j;exact f<|cX J (vz b)<|cX J (gf hd J)<|fF J (nW hr)<|dQ J (c8<|cX J (b.i λN=>J)<|aL J J)<|aL J J
 ·rw[g] at ro
  cases ro with
  | @d8 j _ n x=>exact aD j (cR J J<|pre<|WA J hr J<|aL J J)<|mr.kx _ x
end
noncomputable def J3:List Nat:=AX
noncomputable def Dt:List (List Nat):=[iS,xT,xU,f5,bH,eV]
noncomputable def zj(w:List Nat):List (List Nat)->Bool
 |[]=>C
 |x::r=>decide (x=w)||zj w r
noncomputable def ul(w:List Nat)(n:Nat)(fr:Bool):aj:=⟨if J3.contains (w.headD 0)=I then(if zj w Dt=I then 2 else 1) else 5,w,0,n,n,fr⟩
noncomputable def kK:List (List Nat)->Nat->Bool->List aj
 |[],_,_=>[]
 |w::r,n,fr=>if w=[47] then kK r n I else ul w n fr::kK r (n+1) C
theorem WE:kK [] n fr=[]:=rfl
theorem J4:kK (w::r) n fr=if w=[47] then kK r n I else ul w n fr::kK r (n+1) false:=rfl
noncomputable def wE:aj:=⟨0,[],0,99,99,C⟩
noncomputable def WF(p:PR T)(nums:List Int):Bool:=match p with
 |.ok _ s=>decide (s.ns=nums)&&decide (s.i.aq=0)
 |.d8 a=>decide (a=nums)&&(decide (9002=nums.headD 0)||(decide (1005=nums.headD 0)||(decide (1003=nums.headD 0)||C)))
 |.j=>C
noncomputable def Du(a:List<|List Nat)(nums:List Int):Bool:=WF (gK (be 15) ⟨kK a 0 C++[wE],[]⟩) nums
noncomputable def wF:List (List (List Nat)×List Int):=[([[123],f6,[47],[97],[125]],[9002]),([[123],gv,[97],[125]],[9002]),([[123],[109],[40],hN,[120],[44],[41],[125]],[1014]),([[123],[109],[40],[120],[63],[44],[121],[41],[125]],[1016]),([[123],[109],[40],[120],[44],eV,[41],[125]],[2680]),([[123],[97],[98],[125]],[1005]),([[123],[109],[60],s7,[62],[40],[41],[125]],[2368]),([[123],[40],hN,[120],[63],[41],[125]],[1005]),([[123],[109],[40],[120],[63],[44],hN,[121],[44],[41],[125]],[1014]),([[123],[63],[125]],[1003])]
theorem WG:∀x∈wF,Du x.1 x.2=true:=by decide+kernel
noncomputable def wG:List S:=match x8 with
 |[_,_,_,.y _ _ b,_,_,_,_,_,_]=>b
 |_=>[]
section
variable{m n a o nr:Nat}{H q:Hp}{X:R (Fl×Lc)->Prop}{j:Cf}{l:Lc}{u v l2:V}{i:List Kf}{l7:Option V}
noncomputable abbrev wH(o nr:Nat)(l2:V)(l7:Option V)(fr:Bool)(b c:Option V):Lc:=[O gX,O i3,O l2,O (.ae o),O (.i fr),b,U,l7,O (.ae nr),c,U]
theorem WH:∀(p:List<|List Nat) (b:List aj) (fr:Bool) (H:Hp) (A B:Option V),H[o]? =O (.af<|b.map aj.v)->(∀w∈p,w≠[])->b.length+p.length<=100->∃g i d,dm (λv l H=>aZ (ag m) wG (l.set 5<|O v) H) (p.map V.ah) (wH o nr l2 l7 fr A B) H=.ok (.aU,wH o nr l2 l7 g i d) (H.set o<|.af<|(b++kK p b.length fr).map aj.v):=by
 intro p
 induction p with
 |nil=>
  intro b fr H A B j _ _;exact A4 fr A B (by rw[WE,cM,sf j];rfl)
 |cons w r E=>
  intro b fr H A B j F s
  induction w using aW with
  |nil=>exact ax J<|F []<|.head _
  |cons c w=>
  have s:b.length+(r.length+1)<=100:=s;have t:∀w∈r,w≠[]:=λw h=>F w<|.tail _ h;rw[J4];have wo:∀k:Int,k=(if J3.contains c=I then(if zj (c::w) Dt=I then 2 else 1) else 5)->∀d,(wH o nr l2 l7 fr (O<|.ah<|c::w)<|O<|.aa k)=d->¬(c::w)=[47]->Jd (λz=>∃g i d,zh (dm (λv l H=>aZ (ag m) wG (l.set 5<|O v) H)<|r.map V.ah) z=.ok (.aU,wH o nr l2 l7 g i d) (H.set o<|.af<|(b++ul (c::w) b.length fr::kK r (b.length+1) C).map aj.v)) m (.s (wG.drop 3) [] d H):=λk G d e M=>by
   subst e;have K:ul (c::w) b.length fr=⟨k,c::w,0,b.length,b.length,fr⟩:=by rw[G];rfl
   refine A3 (E (b++[ul (c::w) b.length fr]) C (H.set o<|.af<|(b++[ul (c::w) b.length fr]).map aj.v) (O<|.ah<|c::w) (O<|.aa k) (fo j) t (by rw[bx];show b.length+1+_<=_;exact L1 s)) λf x y e2=>?_;rw[oo,bx,b6] at e2;have ln:ga .bK [.ae o] H=.ok (.aa (b.length:Nat)) H:=by rw[nW j,c3]
   refine f1 J j<|fF J ln<|fF J ln<|lP (v:=(aj.mk k (c::w) 0 b.length b.length fr).v) J J<|i6 J j (jq (m:=100) (by rw[c3];exact L1 s)<|D J)<|aL J<|A4 f x y ?_;rw[K] at e2⊢;rw[dz] at e2;exact e2
  have L:∀{Y:R (Fl×Lc)->Prop} {r:List S} {l:Lc} {H:Hp},Jd Y m (.s r [] l H)->Y (aZ (ag m) r l H):=λ{Y r l H} q=>by
   have e:(aZ (ag m) r l H).i (dp (ag m) [])=aZ (ag m) r l H:=by cases aZ (ag m) r l H<;>rfl
   have q:Y ((aZ (ag m) r l H).i<|dp (ag m) []):=q;rwa [e] at q
  refine L (Y:=λz=>∃g i d,zh (dm (λv l H=>aZ (ag m) wG (l.set 5<|O v) H)<|r.map V.ah) z=R.ok (Fl.aU,wH o nr l2 l7 g i d) _)<|ek J (λz=>aL J ?_) λz=>?_
  ·rw[aN (D z)];exact E b I H _ _ j t<|L1 s
  ·have z:=jt z;rw[a9 z];refine b5 J (jI (pre:=[]))<|ek J (λy=>j1 (b:=zj (c::w) Dt) J (λx=>bf J<|wo 2 (by rw[aN y,aN x]) _ J z) λx=>bf J<|wo 1 (by rw[aN y,x];rfl) _ J z) λy=>bf J<|wo 5 (by rw[y];rfl) _ J z
end
section
variable{m n a o nr:Nat}{H j:Hp}{X:R (Fl×Lc)->Prop}{F:Cf}{l:Lc}{u v i:V}{B:List Kf}{q:Option V}
theorem WI(e:go F=.s (.m5 x hd::r) B l H)(b:az (ag m) x l H=.ok v j)(q:Jd X m<|.s r B l j):Jd X m F:=
 bv e (bf (by
  have e1:f0 (ag m) (.m5 x hd) l H=.ok (.aU,l) j:=by
   show(match az (ag m) x l H with|.ok _ H=>R.ok (Fl.aU,l) H|.q H=>kX (aZ (ag m) hd l H)|.j=>.j)=_;rw[b]
  show R.i (R.i (f0 (ag m) (.m5 x hd) l H) _) _=_;rw[e1];rfl) q)
theorem WJ(e:go F=.s (.m5 x hd::r) B l H)(c:az (ag m) x l H=.q j)(d:aZ (ag m) hd l j=.ok (.am y,b) H1)(q:Jd X m<|.fl (.am y) B b H1):Jd X m F:=
 bv e (bf (by
  have e1:f0 (ag m) (.m5 x hd) l H=.ok (.am y,b) H1:=by
   show(match az (ag m) x l H with|.ok _ H=>R.ok (Fl.aU,l) H|.q H=>kX (aZ (ag m) hd l H)|.j=>.j)=_;rw[c];show kX (aZ (ag m) hd l j)=_;rw[d];rfl
  show R.i (R.i (f0 (ag m) (.m5 x hd) l H) _) _=_;rw[e1];rfl) q)
noncomputable def WK(v:V):V:=match v with
 |.aQ _ ((_,n)::_)=>n
 |v=>v
theorem nt.g{b:List V}{ns:List Int}(h:nt b ns):b.map WK=ns.map V.aa/\∀u∈b,∃n p as,u=yd n p as:=by
 induction h with
 |nil=>exact⟨J,λ_ h=>ax h eU⟩
 |eJ _ c=>
  refine⟨by rw[dz,dz,c.1];rfl,λu hu=>?_⟩
  rcases eT.mp hu with hu|hu
  ·exact c.2 u hu
  ·cases hu with
   |head=>exact A4 _ _ _ rfl
   |tail _ h=>cases h
theorem zk:∀ns:List Int,nh (ns.map V.aa)=O ns
 |[]=>rfl
 |n::r=>by show(nh<|r.map V.aa).map (n::·)=_;rw[zk r];rfl
theorem J5{c:PA}{ns nums:List Int}(r:NS c ns H)(hr:H[nr]? =O (.af<|nums.map V.aa)):az (ag m) (.b9 .eq (.i (.q (.l 10) .oG) 10<|.q (.q (.l 6) .dU) .lC)<|.l 8) [O gX,O i3,O i,O (.ae o),O (.i b),f,O (.ae c.ap),q,O (.ae nr),h,U] H=.ok (.i<|decide (ns=nums)) (H++[.af (ns.map V.aa)]):=by
 refine dn λd=>ej r λg k y hp hd e s=>d ?_;have j:=s.g;have t:az (ag m) (.i (.q (.l 10) .oG) 10<|.q (.q (.l 6) .dU) .lC) [O gX,O i3,O i,O (.ae o),O (.i b),f,O (.ae c.ap),q,O (.ae nr),h,U] H=.ok (.ae H.length) (H++[.af (ns.map V.aa)]):=by
  rw[<-j.1];refine Dc (c8<|cX J (gf hp J)<|cX J (gf hd J)<|aL J J) e λu w=>dn λd=>A3 (j.2 u w) ?_;rintro n p as rfl;refine d ?_
  rfl
 show R.i (az (ag m) (.i (.q (.l 10) .oG) 10<|.q (.q (.l 6) .dU) .lC) _ H) _=_;rw[t];have x:qk (H++[b4.af (ns.map V.aa)]) H.length=O (ns.map V.aa):=by unfold qk;rw[cD]
 have i:qk (H++[b4.af (ns.map V.aa)]) nr=O (nums.map V.aa):=by unfold qk;rw[cQ hr]
 show cG ((vo H.length nr<|H++[b4.af (ns.map V.aa)]).map V.i) _=_;unfold vo;rw[x,E0,i,E0,zk,E0,zk];rfl
theorem WM{i:Nat}(e:go F=.s (.y i x b::r) B l H)(f:az (ag m) x l H=.ok (.u d) H)(g:dm (λv l H=>aZ (ag m) b (l.set i<|O v) H) d l H=.ok (.aU,c) j)(q:Jd X m<|.s r B c j):Jd X m F:=
 bv e (bf (by
  have e1:f0 (ag m) (.y i x b) l H=.ok (.aU,c) j:=by
   show R.i (az (ag m) x l H) _=_;rw[f];exact g
  show R.i (R.i (f0 (ag m) (.y i x b) l H) _) _=_;rw[e1];rfl) q)
theorem WN{d:List<|List Nat}{nums:List Int}(hr:H[nr]? =O (.af<|nums.map V.aa))(L:∀w∈d,w≠[])(k:d.length<=99)(hc:Du d nums=I):Jd (λr=>∃j,r.i ef=.ok (.i I) j) (m+324) (.s (x8.drop 1) [] [O gX,O i3,O i,U,U,U,U,O (.u<|d.map V.ah),O (.ae nr),U,U] H):=by
 refine dn λe=>A3 (WH (m:=m+324) (nr:=nr) (l2:=i) (l7:=O<|.u<|d.map V.ah) d [] C (H++[.af []]) U U cD L<|aE (b7<|c9 _)<|f4 k) λfr E F e1=>?_;rw[iA] at e1;have tl:(kK d 0 C).length<=d.length:=by
  have:∀d n b,(kK d n b).length<=d.length:=by
   intro d
   induction d with
   |nil=>exactλy y=>bF _
   |cons w r G=>
    intro n b;rw[J4];split
    ·exact f4<|G _ _
    ·exact gs<|G _ _
  exact this d 0 C
 refine FX (J2 (m:=m+322) (cD:(H++[b4.af ((kK d 0 C++[wE]).map aj.v)])[H.length]? =O (.af<|(kK d 0 C++[wE]).map aj.v)) J J<|jq (by rw[bx];exact gs<|aE tl k)<|D J) λH1 H2 K c mr=>e ?_;have f:∀j,bT c K j->j[nr]? =O (.af<|nums.map V.aa):=λj x=>(mr.kx j x).cN (cQ hr) id;have ro:=Ht (m:=m+312) (f:=15) (D J) (by simp+arith only) J mr.ps;generalize g:ag (m+312+12) 824 _ K=P at ro;refine WM (b:=wG) J J e1<|f1 J cD<|lP (v:=wE.v) J J<|i6 J cD (by
  rw[c3];exact jq (aE tl k)<|D J) ?_
 rw[iA];rw[dz] at mr;refine bv J<|gL (mr.e1 _)<|lP J mr.e2<|rM J mr.hp<|rM J (fo mr.hp) ?_;rw[<-mr.h4];unfold Du at hc;generalize hp:gK (be 15) ⟨kK d 0 C++[wE],[]⟩=p at hc ro;clear hr
 induction ro with
 | @ok v j t s Q h x=>
  refine dn λe=>?_;obtain⟨A,h2⟩:=ec.mp hc;refine e<|WI J g<|kE 2 J<|gL (J5 h.ns<|f j x) (eg J (λy=>?_) λz=>by rw[A] at z;exact c5 z);generalize B:s.i=nw at h2;refine dn λe=>?_;obtain⟨sk,S,T,sa,W,Y⟩:=nw;exact e<|dR J (h.j [.af (s.ns.map V.aa)]) (by rw[B];exact aL J ⟨_,by show R.ok (V.i<|decide (sk=0)) _=_;rw[h2]⟩)
 | @d8 j ns n x=>
  refine dn λe=>?_;obtain⟨A,h2⟩:=ec.mp hc;obtain⟨n0,M,rfl⟩:∃n0 r,nums=n0::r:=by
   induction nums using aW with
   |nil=>exact ax h2<|D J
   |cons a r=>exact gH a r J
  refine e ?_;have N:aZ (ag<|m+324) [.am (.bN (.b9 .eq (.i (.q (.l 10) .oG) 10<|.q (.q (.l 6) .dU) .lC)<|.l 8)<|.b9 .i (.y (.l 8)<|.c<|.aa 0)<|.u [.c (.aa 9002),.c (.aa 1005),.c (.aa 1003)])] [O gX,O i3,O i,O (.ae H.length),O (.i fr),E,O (.ae c.ap),O (.u<|d.map V.ah),O (.ae nr),F,U] j=.ok (.am<|.i I,[O gX,O i3,O i,O (.ae H.length),O (.i fr),E,O (.ae c.ap),O (.u<|d.map V.ah),O (.ae nr),F,U]) (j++[.af (ns.map V.aa)]):=
   qs (kE 2 J<|gL (J5 n<|f j x) (eg J (λy=>b5 J (hX (cQ<|f j x) J)<|aL J (by show R.ok (Fl.am<|V.i<|decide (9002=n0)||(decide (1005=n0)||(decide (1003=n0)||C)),_) _=_;rw[h2])) λz=>by rw[A] at z;exact c5 z))
  exact WJ J g N<|aL J ⟨_,J⟩
 |j=>exact bc hc
end
noncomputable abbrev Dv(r:List (List Nat)×List Int):b4:=.af<|r.2.map V.aa
noncomputable def J6(l:List<|List (List Nat)×List Int):Hp->Hp:=l.rec (λH=>H) λr _ b H=>b<|H++[Dv r]
noncomputable def Dw(l:List<|List (List Nat)×List Int):Hp->List V->List V:=l.rec (λ_ a=>a) λr _ b H a=>b (H++[Dv r])<|a++[.u [.u (r.1.map V.ah),.ae H.length]]
theorem WP(l:List<|List (List Nat)×List Int):∀{H:Hp} {i:Nat} {o:b4},H[i]? =O o->(J6 l H)[i]? =O o:=by
 induction l with
 |nil=>exactλh=>h
 |cons r l b=>exactλh=>b<|cQ h
theorem WQ(l:List<|List (List Nat)×List Int):∀{H:Hp} {a:List V} {i:Nat} {v:V},a[i]? =O v->(Dw l H a)[i]? =O v:=by
 induction l with
 |nil=>exactλh=>h
 |cons r l b=>exactλh=>b<|(p7 (fM.mp h).1).trans h
theorem WR(l:List<|List (List Nat)×List Int):∀{H:Hp} {a:List V} {i:Nat} {r:List (List Nat)×List Int},l[i]? =O r->∃n,(Dw l H a)[a.length+i]? =O (.u [.u (r.1.map V.ah),.ae n])/\(J6 l H)[n]? =O (Dv r):=by
 induction l with
 |nil=>exactλh=>ba h
 |cons r l b=>
  intro H a i q h
  induction i using fW with
  |zero=>exact cS h▸⟨H.length,WQ l mT,WP l cD⟩
  |succ i=>
   refine(b (a:=a++[.u [.u (r.1.map V.ah),.ae H.length]]) h).elim λn h=>⟨n,?_,h.2⟩;rw[<-h.1,bx,kn,km _ i]
   rfl
section
variable{m n a o nr:Nat}{H j:Hp}
theorem WS{q:Int}:∃v j,ag (m+325) 1113 [gX,i3,.aa q] H=.ok v j/\v=.i true:=by
 have b:∀{c:List<|List Nat} {nums:List Int} {nr:Nat} {H1:Hp} {d:Cf},(c,nums)∈wF->H1[nr]? =O (.af<|nums.map V.aa)->go d=.v (.u [.u (c.map V.ah),.ae nr]) [.iW [7,8] (x8.drop 1)] [O gX,O i3,O (.aa q),U,U,U,U,U,U,U,U] H1->Jd (GX λv p=>v=.i I) (m+324) d:=λ{c nums nr H1 d} hm hr e=>by
  have g:∀x∈wF,(∀w∈x.1,w≠[])/\x.1.length<=99:=by decide
  obtain⟨l,h2⟩:=g _ hm;refine vJ e J J ?_;obtain⟨j,h⟩:=WN hr l h2<|WG _ hm;exact cJ _ j h J
 refine iL J J<|kE 400 J ?_;refine(uh (x:=q) (k:=10)<|D J).elim λi f=>ck J (fV (k:=10)<|D J) ?_;rw[f.1];refine(WR wF<|li<|f.2).elim λn h=>b5 J (Gn<|(bJ (λk=>(Dw wF H [])[k]?) (c9 i).symm).trans h.1)<|b (adf _) h.2 J
end
theorem J7:∀{j:List W} {u:List aj} {os:List Int},tk j u os->cb u=cw j:=by
 intro j
 induction j with
 |nil=>
  intro u;intro os;intro h;rw[(mG h).1];rfl
 |cons w j a=>
  intro u;intro os;intro h;rw[tk] at h;split at h
  ·rename_i q
   have e:bw w=false:=by show(decide (w.k=5)&&decide (w.x=[91]))=C;rw[q];rfl
   rw[a h];show cw j=cw j+if bw w=I then 1 else 0;rw[e];rfl
  ·refine dn λb=>lB h ?_;clear h;rintro n p e d c rfl _ h;refine b ?_;rw[rU,a h];rfl
theorem WT:∀j:List W,∀w∈j,w.k=9->qC w=false:=λa w a e=>by
 show(decide (w.x=[40])&&(decide (w.k=5)||decide (w.k=2)))=C;rw[e];exact mW _
theorem Ps.bK{q:Int}:∀{p:Int} {u:List aj},Ps q p u->u=[]∨p+u.length<=q
 |p,[],_=>.inl J
 |p,t::r,⟨b,h2,a⟩=>.inr (by
   rcases Ps.bK a with rfl|h
   ·show p+((1:Nat):Int)<=q;lia
   ·show p+((r.length+1:Nat):Int)<=q;lia)
theorem wI(M:Nat):∀(pv:aj) (fr:Bool) (ts:List aj),(en M pv fr ts).length<=ts.length
 |pv,fr,[]=>bF _
 |pv,fr,t::r=>by
  rw[en];split
  ·split
   ·exact gs<|wI ..
   ·split
    ·exact f4<|wI ..
    ·exact gs<|wI ..
  ·exact gs<|wI ..
theorem WU{j:List W}{u:List aj}{os:List Int}{p:Int}(h:tk j u os)(hp:p∈os):∃t∈u,t.aJ=p:=by
 refine dn λb=>?_;obtain⟨a,w,c,d,f,g,i,n,e,_,_,rfl,_⟩:=I1 h hp;exact b<|aD _ (dj _<|.head _) J
structure Dr(ts:List T)(j:List W)(u:List aj)(os:List Int)(e:aj):Prop where
 k:K false 0 2 .j ts j
 tk:tk (gC j) u os
 ln:u.length<490000
 cb:eZ (ts.map some)<=49
 nd:(u.map aj.aJ).Nodup
 lt:∀t∈u,t.aJ<e.aJ
 ke:e.aq=0
 le:e.cC=false
structure um(ts:List T)(e:aj)(f:Option (List Int))(v:List aj)(t:T):Prop where
 e:gK (be 15) ⟨v,[]⟩=.ok t ⟨[e],[]⟩
 f:fu (aK 71 [] ts 0) t=f
 h:ht t<=150
 s:tP t
 z:sz t<=4000000
section
variable{ts:List T}{j:List W}{u:List aj}{os:List Int}{e:aj}
theorem J8(h:e.aq=0):cb (u++[e])=cb u:=by
 rw[vY];have:qt e=false:=by show(decide (e.aq=5)&&decide (e.aP=[91]))=C;rw[h];rfl
 show _+adm qt [e]=_;rw[Ai,this];rfl
theorem WV(h:e.aq=0):cl (u++[e])=cl u:=by
 rw[wm];have:rT e=false:=by show(decide (e.aP=[40])&&(decide (e.aq=5)||decide (e.aq=2)))=C;rw[h];exact mW _
 show _+adm rT [e]=_;rw[Ai,this];rfl
theorem J9(h:gK (be 15) ⟨v,[]⟩=.ok t ⟨[e],[]⟩):In 65 ⟨v,[]⟩ t ⟨[e],[]⟩:=by
 have:=Cc (yE 15) (D J) ⟨v,[]⟩;rw[h] at this;exact this
theorem Ka(h:gK (be 15) ⟨u++[e],[]⟩=.ok t ⟨[e],[]⟩)(a:eD<|u++[e])(b:fu (aK 71 [] ts 0) t=f):um ts e f (u++[e]) t:=by
 have i:=J9 h;refine dn λc=>?_;obtain⟨d,h2⟩:=a;refine c ?_;have z:sz t+1+5*1<=5*(u++[e]).length:=i.n;exact⟨h,b,L2 h2 i.b,i.p,by lia⟩
theorem Kb(d:Dr ts j u os e){c:List aj}(f:K C m 2 .j ts a)(ht:tk (gC a) c os)(g:c.length<=u.length):∃t,um ts e (O os) (c++[e]) t:=by
 have b:eD (c++[e]):=by
  refine⟨by rw[bx];exact Ny<|jq g d.ln,?_⟩;rw[J8 d.ke,J7 ht];rw[eS];exact aE (Dk f).b d.cb
 exact dn λh=>aB (UB (bF 2) f ht b) λt i h2=>h<|⟨t,Ka i b h2⟩
theorem WW(d:Dr ts j u os e):∃t,um ts e (O os) (u++[e]) t:=Kb d d.k d.tk<|bF _
theorem WX(d:Dr ts j u os e)(hM:M<=2):∃a t,en M kY C (u++[e])=a++[e]/\a.length<490000/\um ts e (O os) (a++[e]) t:=by
 refine dn λf=>cU (U8 (pv:=kY) hM d.k d.tk d.ke d.le) λg a b h2 h=>?_;have c:a.length<=u.length:=by
  have:=wI M kY C<|u++[e];rw[b,bx,bx] at this;exact acR this
 obtain⟨t,r⟩:=Kb d h2 h c;exact f<|cK a t b (jq c d.ln) r
theorem WY(d:Dr ts j u os e){p:Int}(hp:p∈os):∃a,wo p 0 (u++[e])=a++[e]/\a.length<490000/\((∃t,um ts e U (a++[e]) t)∨∃ns,gK (be 15) ⟨a++[e],[]⟩=.d8 ns):=by
 refine dn λc=>aB (WU d.tk hp) ?_;rintro k f rfl;refine xZ (UY (bF 2) d.k d.tk hp d.nd (NB<|d.lt k f) d.ke) λl a m o h2 r h4 g v=>c ?_;have x:cb u<=49:=by
  rw[J7 d.tk];rw[eS];exact aE (Dk d.k).b d.cb
 have b:eD (a++[e]):=⟨by rw[bx];exact Ny<|jq g d.ln,by rw[J8 d.ke,v];exact x⟩;refine df a o (jq g d.ln) ?_;have w:=UC (bF 2) h2 r b;generalize h:gK (be 15) ⟨a++[e],[]⟩=q at w
 induction q using PR.casesOn with
 |j=>exact w.elim
 |d8 ns=>exact .inr ⟨ns,J⟩
 |ok t s=>
  refine dn λc=>?_;obtain rfl:s=⟨[e],[]⟩:=w;refine c<|.inl ⟨t,Ka h b ?_⟩
  cases y:fu (aK 71 [] ts 0) t with
  |none=>rfl
  |some z=>
   have i:=J9 h;have A:=i.l;rw[WV d.ke] at A;have B:=IL _ _ _ y i.p;have E:=UE (WT _) d.tk;have F:dS j=cV 71 (ts.map O):=UO d.k;have G:dS (gC j)=dS j:=by
    rw[t3,t3,yW];rfl
   have H:nd (aK 71 [] ts 0)=cV 71 (ts.map O)+0:=t4 ..;lia
end
section
variable{a tl c:Nat}{H i:Hp}{ts:List T}{j:List W}{u:List aj}{os:List Int}{e:aj}{y:Cf}{q:List Kf}{l:Lc}{X:R (Fl×Lc)->Prop}
theorem Dx{f:Option<|List Int}{t:T}{xs:List V}(r:um ts e f v t)(g:qK<|ts.map O)(hc:H[c]? =O (.af [])):∃b,ag 339 1101 [(aK 71 [] ts 0).v,t.v,.ae c] H=.ok (.i f.isSome) (H.set c<|.af b)/\∀os,f=O os->b=os.map V.aa:=by
 refine dn λh=>?_;obtain⟨b,d,h2,_⟩:=JZ 338 (O<|aK 71 [] ts 0) (O t) [] H (aE r.h<|D J) ⟨λe=>ax e<|D J,g⟩ r.s hc<|aE (b7<|c9 _)<|aE r.z<|D J;refine h ?_;have d:ag 339 1101 [(aK 71 [] ts 0).v,t.v,.ae c] H=.ok (.i (fu (aK 71 [] ts 0) t).isSome) (H.set c<|.af b):=d;have h2:∀os,fu (aK 71 [] ts 0) t=O os->b=os.map V.aa:=h2;rw[r.f] at d h2;exact aD b d h2
theorem uo{b:List aj}(h:b.length<490000):(b++[e]).length<4000000:=by rw[bx];exact uJ (Nat.add_lt_add_right h 1)<|D J
noncomputable abbrev Dy(tl:Nat)(d:T)(q:Int)(i j k m o b f g h:Option V):Lc:=[i,j,k,O (.aa q),O d.v,O gX,O i3,O (.ae tl),m,o,b,f,g,h]
noncomputable abbrev Dz(r:R<|Fl×Lc):Prop:=∃v i,r.i ef=.ok v i/\v=.i I
theorem DA{q:Int}{A B E F G f g h i:Option V}(d:Dr ts j u os e)(s:H[tl]? =O (.af<|(u++[e]).map aj.v)):Jd Dz 339 (.s (lF.drop 12) [] (Dy tl (aK 71 [] ts 0) q A B E F G f g h i) H):=by
 refine dn λK=>aB (uh (x:=q) (k:=2)<|D J) λL h2 w=>cU (WX d<|jo (An w) 1) λx t e1 M r=>?_;obtain⟨k,y,N,m⟩:∃k y,u++[e]=k::y/\k.is 5 [59]=false:=by
  refine u7 (Ce d.tk) ?_;rintro n p en u3 rfl _;exact cJ _ _ J J
 have z:mP (u++[e]):=mP.jv (by show(decide (e.aq=5)&&decide (e.aP=[59]))=C;rw[d.ke];rfl);have b:(u++[e]).length<4000000:=uo d.ln;have o:ag 339 1035 [.ae tl,.aa ((1+L:Nat):Int)] H=.ok (.ae H.length) (H++[.af ((x++[e]).map aj.v)]):=by
  rw[<-e1];rw[N] at s z b⊢;exact Wq (by have:=w;lia) m z.tl s<|uJ (Nat.lt_of_succ_lt b)<|D J
 refine aB (zi (m:=14) (H:=H++[.af ((x++[e]).map aj.v)]) cD J d.ke (uo M)<|.inl<|aD t r.e J) λH1 e2 k1=>aB (Dx (xs:=[]) r (Dm d.k) (c:=H1.length) cD) λP Q S=>eB (WS (m:=14) (q:=q) (H:=(H1++[b4.af []]).set H1.length<|.af P)) λv H3 Y Z=>?_;obtain⟨tk,ta,tks,tf,tp⟩:=t;refine K<|ck J ((fV (k:=2)<|D J).trans<|by rw[h2])<|bn J o<|bn J e2<|vx J bc λS=>bn J Q<|bh J J<|bn J Y<|aL J<|cJ _ _ J Z
end
section
variable{a tl c:Nat}{H j:Hp}{ts:List T}{i:List W}{u:List aj}{os:List Int}{e:aj}
theorem WZ{q:Int}{B E F G m o s v:Option V}(d:Dr ts i u os e)(l:H[tl]? =O (.af<|(u++[e]).map aj.v))(hc:H[c]? =O (.af<|os.map V.aa)):Jd Dz 339 (.s (lF.drop 11) [] (Dy tl (aK 71 [] ts 0) q B E F (O<|.ae c) G m o s v) H):=by
 have b:ga .bK [.ae c] H=.ok (.aa (os.length:Nat)) H:=by rw[nW hc,c3]
 cases g:os with
 |nil=>
  rw[g] at b;exact fF J b<|bh J J<|bf J<|DA d l
 |cons Q R=>
  have f:0<os.length:=by rw[g];exact Nr _
  refine dn λh=>?_;refine aB (uh (x:=q) f) λj K L=>?_;have hp:=li L;generalize os[j]=p at hp;refine cF (WY d<|mi hp) λw e1 y r=>?_;refine h ?_;have w1:ag 339 1108 [.ae tl,.aa p] H=.ok (.ae H.length) (H++[.af ((w++[e]).map aj.v)]):=by
   rw[<-e1];exact Wo l<|aE (sQ<|uo d.ln)<|D J
  have z:=hX hc (by rw[qb,hp];rfl);have md:fQ .y (.aa q) (.aa (os.length:Nat)) H=.ok (.aa (j:Int)) H:=(fV f).trans<|by rw[K]
  have k:=dH<|adh.mpr f
  rcases r with⟨t,r⟩|⟨ns,r⟩
  ·refine dn λh=>?_;refine aB (zi (m:=14) (H:=H++[.af ((w++[e]).map aj.v)]) cD rfl d.ke (uo y)<|.inl<|aD t r.e rfl) λH1 e2 k1=>?_;refine aB (Dx (xs:=[]) r (Dm d.k) (c:=H1.length) cD) λM N A=>?_;have x:((H1++[b4.af []]).set H1.length<|.af M)[tl]? =O (.af<|(u++[e]).map aj.v):=by
    rw[iA];exact cQ<|k1.cN (cQ l) id
   obtain⟨tk,ta,P,S,X⟩:=t;refine h ?_;exact fF J b<|cy J k<|fF J b<|ck J md<|b5 J z<|bn J w1<|bn J e2<|eg J (λA=>bn J N<|bh J J<|bf J<|DA d x) c5
  ·refine dn λh=>?_;refine aB (zi (m:=14) (H:=H++[.af ((w++[e]).map aj.v)]) cD J d.ke (uo y)<|.inr<|aD ns r J) λH1 e2 k1=>?_;refine h ?_;exact fF J b<|cy J k<|fF J b<|ck J md<|b5 J z<|bn J w1<|bn J e2<|eg J bc λA=>bh J J<|bf J<|DA d<|k1.cN (cQ l) id
theorem W0{q:Int}(d:Dr ts i u os e)(j:H[tl]? =some (.af<|(u++[e]).map aj.v)):Jd Dz 339 (.s (lF.drop 8) [] (Dy tl (aK 71 [] ts 0) q k l m o p b f g h) H):=by
 refine dn λs=>?_;obtain⟨t,r⟩:=WW d;refine aB (zi (m:=14) (H:=H++[.af []]) (cQ j) rfl d.ke (uo d.ln)<|.inl<|aD t r.e rfl) λH1 e2 k1=>?_;have hc:=k1.cN cD id;refine aB (Dx (xs:=[]) r (Dm d.k) hc) λy v w=>?_;obtain rfl:=w os rfl;obtain⟨tk,ta,x,z,A⟩:=t;exact s<|bv rfl<|bn rfl e2<|vx rfl bc λB=>bn rfl v<|bh rfl rfl<|bf rfl<|WZ d (fq (mU<|hW j)<|k1.cN (cQ j) id)<|fo hc
end
noncomputable def W2:E:=.ao 1075 [.bI .i (.bI .q (.l 3)<|.c<|.aa 3) (.bI .j (.c<|.aa 12347)<|.l 13),.y (.l 2) (.l 13)]
noncomputable def uq(is:List Int):List Int:=(is.take 9).map (·%((1000000007:Nat):Int))++[1160,6,4].drop ((is.take 9).map (·%((1000000007:Nat):Int))).length
theorem W4(is:List Int):uq is≠[]/\(uq is).length<=9:=by
 have h:((is.take 9).map (·%((1000000007:Nat):Int))).length<=9:=by rw[c3];exact adn ..
 unfold uq;generalize(is.take 9).map (·%((1000000007:Nat):Int))=a at h⊢;have e:(a++[1160,6,4].drop a.length).length=a.length+(3-a.length):=by rw[bx,Ao];rfl
 exact⟨λz=>by rw[z] at e;simp only[lj] at e;lia,by lia⟩
section
variable{m:Nat}{H H1:Hp}{l:Lc}
theorem W7{j c:Nat}{ks:List T}{q:Int}(b:l[3]? =O (O<|.aa q))(d:l[2]? =O (O<|.ae c))(e:l[13]? =O (O<|.aa (j:Int)))(u:j<100)(hc:H1[c]? =O (.af<|ks.map T.v))(f:ks[j]? =O k)(kd:Kd 2 k):∃t H2,az (ag<|m+5) W2 l H1=.ok (T.v t) H2/\wz 2 k t/\Kp (λy=>False) H1 H2:=by
 refine dn λg=>?_;obtain⟨v,H2,e1,t,h,rfl,w,i,x⟩:=JG kd;refine g ?_;have a:az (ag<|m+5) (.l 13) l H1=.ok (.aa (j:Int)) H1:=k7 e;have o:az (ag<|m+5) (.bI .i (.bI .q (.l 3)<|.c<|.aa 3)<|.bI .j (.c<|.aa 12347)<|.l 13) l H1=.ok (.aa<|q/((3:Nat):Int)+12347*(j:Int)) H1:=by
  have z1:az (ag<|m+5) (.bI .j (.c<|.aa 12347)<|.l 13) l H1=.ok (.aa<|12347*(j:Int)) H1:=by
   show(az (ag<|m+5) (.l 13) l H1).i (λw H=>fQ .j (.aa 12347) w H)=_;rw[a];exact r9 ⟨by decide,by unfold bg;lia⟩
  have p:az (ag<|m+5) (.bI .q (.l 3)<|.c<|.aa 3) l H1=.ok (.aa<|q/((3:Nat):Int)) H1:=by
   show(az (ag<|m+5) (.l 3) l H1).i (λw H=>fQ .q w (.aa ((3:Nat):Int)) H)=_;rw[k7 b];exact mM (k:=3)<|D J
  show(az (ag<|m+5) (.bI .q (.l 3)<|.c<|.aa 3) l H1).i (λv H=>(az (ag<|m+5) (.bI .j (.c<|.aa 12347)<|.l 13) l H).i λw H=>fQ .i v w H)=_;rw[p,jz,z1];rfl
 have r:az (ag<|m+5) (.y (.l 2)<|.l 13) l H1=.ok k.v H1:=by
  show(az (ag<|m+5) (.l 2) l H1).i (λv H=>(az (ag<|m+5) (.l 13) l H).i λw H=>f9 v w H)=_;rw[k7 d,jz,a];exact hX hc (by rw[qb,f];rfl)
 refine cK t H2 ?_ ⟨⟨h,w⟩,i⟩ x;show(cu (ag<|m+5) [.bI .i (.bI .q (.l 3)<|.c<|.aa 3) (.bI .j (.c<|.aa 12347)<|.l 13),.y (.l 2) (.l 13)] l H1).i (λs H=>ag (m+5) 1075 s H)=_;rw[tD o (tD r J)];exact e1
theorem W8{ts:List T}{os:List Int}(b:K C 0 2 .j ts a)(c:(aY<|gC a).length<490000)(hb:eZ (ts.map O)<=49)(ht:tk (gC a) u os)(hp:Ps (aY<|gC a).length 0 u):Dr ts a u os (CZ (aY<|gC a).length):=
 ⟨b,ht,hp.bK.elim (λe=>by rw[e];decide) λh=>by lia,hb,Ps.i _ hp,λt h=>(Ps.dW _ hp t h).2,J,J⟩
theorem W9{ts:List T}(b:K C 0 2 .j ts a)(d:ts.length<=9):(aY<|gC a).length<490000:=by
 have h:rl a<=ts.length*(5*Bz 2+162):=(Dk b).l;have h2:rl (gC a)=rl a+4:=by
  show rl (a++[sp,sg [125]])+1+1=_;rw[e8];rfl
 have c:5*Bz 2+162=53662:=J;rw[c] at h;rw[JS,h2];lia
theorem Xa{ts:List T}{a:List W}(c:K C 0 2 .j ts a)(b:(aY<|gC a).length<490000):Wr 25 1021 [(aK 88 [] ts 0).v] (aY<|gC a):=by
 have e:aY (gC a)=([123,32]++aY a)++[32,125]:=by
  rw[f2,f2,gO];rfl
 have b:(([123,32]++aY a)++[32,125]).length<=dg:=by rw[<-e];exact aE (sQ b)<|D J
 refine aB (Vo c<|dE<|cr b) λf d h2=>?_;rw[h2] at b e;rw[e];exact Ja d (t9 c) b
noncomputable def Xb(v:V):V:=match v with
 |.aa x=>.aa<|x%((1000000007:Nat):Int)
 |v=>v
theorem Kc:∀is:List Int,(is.map V.aa).map Xb=(is.map (·%((1000000007:Nat):Int))).map V.aa
 |[]=>rfl
 |x::r=>bJ (_::·)<|Kc r
theorem Xc{X:R (Fl×Lc)->Prop}{is:List Int}(q:∀H,H[4]? =O (.af<|(uq is).map V.aa)->Jd X m (.s (lF.drop 2) [] [O (.af<|is.map V.aa),O (.ae 4),U,U,U,U,U,U,U,U,U,U,U,U] H)):Jd X m (.s lF [] [O (.af<|is.map V.aa),U,U,U,U,U,U,U,U,U,U,U,U,U] []):=by
 have e1:az (ag m) (.i (.bI .y (.l 12)<|.c<|.aa 1000000007) 12<|.slc (.l 0) (.c .none)<|.c<|.aa 9) [O (.af<|is.map V.aa),U,U,U,U,U,U,U,U,U,U,U,U,U] []=.ok (.ae 1) [.af ((is.map V.aa).take 9),.af (((is.take 9).map (·%((1000000007:Nat):Int))).map V.aa)]:=by
  rw[Dc J (show([.af ((is.map V.aa).take 9)]:Hp)[0]? =O (.af<|(is.map V.aa).take 9) from J) λu c=>?_,<-List.map_take,Kc]
  ·rfl
  ·refine dn λd=>aB (eh.mp<|adi c) ?_;rintro x _ rfl;exact d<|fV (k:=1000000007)<|D J
 refine bv (c':=.e (.i (.bI .y (.l 12)<|.c<|.aa 1000000007) 12<|.slc (.l 0) (.c .none)<|.c<|.aa 9) [.i 1 (lF.drop 1)] _ []) J<|gL e1 ?_;generalize b:(is.take 9).map (·%((1000000007:Nat):Int))=a;have e:a.length<=9:=by rw[<-b,c3];exact adn ..
 refine fF J (nW J)<|kJ (w:=.ae 3) (H':=[.af ((is.map V.aa).take 9),.af (a.map V.aa),.af [.aa 1160,.aa 6,.aa 4],.af ((([1160,6,4]:List Int).drop a.length).map V.aa)]) J ?_ ?_
 ·rw[c3,List.map_drop]
  rfl
 ·refine ck J (H':=[.af ((is.map V.aa).take 9),.af (a.map V.aa),.af [.aa 1160,.aa 6,.aa 4],.af ((([1160,6,4]:List Int).drop a.length).map V.aa)]++[.af ((a++[1160,6,4].drop a.length).map V.aa)]) ?_ (bf J<|q _ (by unfold uq;rw[b];exact cD));rw[dz];refine aN ?_;rw[bx,c3,c3,Ao];show a.length+(3-a.length)<=16777216;lia
theorem Xd(is:List Int):∃v p,ag 340 .j [.af (is.map V.aa)] []=.ok v p/\v=.i true:=by
 refine iL J J<|Xc λH h=>?_;refine dn λd=>?_;obtain⟨s,i⟩:=W4 is;generalize uq is=c at*;refine eB (We (m:=333) h (aE i<|D J) s) ?_;rintro v H1 e1 ⟨r,ks,rfl,b⟩;refine d ?_;have sm:ga .j [.ae 4] H1=.ok (.aa c.sum) H1:=by
  show cG (((hR (.ae 4) H1).bind nh).map λis=>V.aa is.sum) H1=_;have:hR (.ae 4) H1=O (c.map V.aa):=by
   show(match H1[4]? with|some (.af c)=>O c|_=>U)=_;rw[b.kp.cN h id]
  rw[this];show cG ((nh<|c.map V.aa).map _) H1=_;rw[zk];rfl
 refine bn J e1<|fF J sm ?_;generalize c.sum=q;have e:=aE b.ln i;refine dn λd=>cU (JJ (i:=13) (x:=.bi .bK [.l 2]) (l:=[O (.af<|is.map V.aa),O (.ae 4),O (.ae r),O (.aa q),U,U,U,U,U,U,U,U,U,U]) ((nW b.hr).trans<|by rw[c3]) (aE e<|D J) λj k a y x=>W7 (m:=334) J J J (iO ((fM.mp a).1)<|aE e<|D J) (x.cN b.hr id) a (b.kd k<|mi a)) λts H2 e2 o z=>?_
 obtain⟨A,a⟩:=JM o b.ne;obtain⟨hb,f⟩:=JN o;refine d ?_;have hb:eZ (ts.map O)<=49:=by have:=b.bb;lia
 have g:=W9 a (by rw[f];exact e);refine bv J<|gL e2<|bn J (qq (by rw[pj];exact cD) 0)<|bv J<|gL (v:=gX) J<|bv J<|gL (v:=i3) J<|bn J (GC (ts.map O) 88 [] 0)<|gl (Xa a g) (D J) J λt B=>?_;exact dn λd=>cU (VD (m:=338) (VG<|VF a) (aE (sQ g)<|D J) t) λu os ht hp w=>d<|bn J w<|bf J<|W0 (W8 a g hb ht hp) cD
end
theorem aeZ:Ar.Holds:=acQ λis b=>by
 obtain⟨v,a,h,rfl⟩:=Xd is;exact⟨a,h⟩
end
end Internal.Mine
theorem PySem.Challenge.cw_pq0589_01_holds : PySem.Challenge.rw_pq0589_01.Holds :=
 Internal.Mine.aeZ
